import PyProof.Rows.All
import Wide.All
import OpenK.AllK
import Wide.FinOn
import HandS.ForMost
import HandS.HeadHook1
import HandS.ForExc
import HandS.Text
import HandS.TupLe
import HandS.TupAny
import HandS.IsInst
import HandS.Style
import HandS.Zip
import HandS.NoneIn
import HandS.Defaults
import KE.KExcInit
import KE.KExcIs
import HandS.ExcInit
import HandS.ExcField
import HandS.ExcIs
import HandS.ExcOwn
import HandS.TryMany
import HandS.SetFor
import HandS.Conv
import KE.KStateDown
import HandS.Ends
import HandS.HeadEnd
import HandS.HeadHook2
import HandS.Words
import HandS.Codes
import PyProof.StrLawsRepr
import PyProof.ReprBulk
import Lean
import HandS.Head0
import HandS.Head1
import HandS.Head2
import PySem.Challenge.RW_anyearlier_k65_cuts_leave_any_loose_writ
set_option Elab.async false
set_option linter.all false
set_option maxRecDepth 100000
set_option maxHeartbeats 4000000
namespace FL
open PySem L2

/-- plain data; obj n: the n-th mutable object of the store -/
inductive D where
  | non | bl (b : Bool) | int (i : Int) | str (s : Str)
  | tup (xs : List D) | lst (xs : List D) | scr (xs : List D)
  | dK (ks : List Key) (vs : List D) | dT (ks : List (List Key)) (vs : List D)
  | ins (c : Str) (ns : List Str) (vs : List D)
  | obj (n : Nat)
  | exc
/-- a mutable object; dead: one that is frozen since -/
inductive MO where
  | lst (xs : List D)
  | dK (ks : List Key) (vs : List D) | dT (ks : List (List Key)) (vs : List D)
  | ins (c : Str) (ns : List Str) (vs : List D)
  | dead

mutual
def Rep (K : PySem.W.Frag) (F : Hp) (r : List Addr) : D → V → Prop
  | .non, v => v = .non
  | .bl b, v => v = .bl b
  | .int i, v => v = .int i
  | .str s, v => v = .str s
  | .tup xs, v => ∃ (a : Addr) (vs : List V), v = .ref a ∧ SqT K F a vs ∧ RepL K F r xs vs
  | .lst xs, v => ∃ (a : Addr) (vs : List V), v = .ref a ∧ F a = some (.lst vs) ∧ RepL K F r xs vs
  | .scr xs, v => ∃ (a : Addr) (vs : List V), v = .ref a ∧ SqL K F a vs ∧ RepL K F r xs vs
  | .dK ks ds, v => ∃ (a : Addr) (kvs : List (Key × V)), v = .ref a ∧ F a = some (.dK kvs) ∧ kvs.map (·.1) = ks ∧ RepL K F r ds (kvs.map (·.2))
  | .dT ks ds, v => ∃ (a : Addr) (kvs : List (List Key × V)), v = .ref a ∧ F a = some (.dT kvs) ∧ kvs.map (·.1) = ks ∧ RepL K F r ds (kvs.map (·.2))
  | .ins c ns ds, v => ∃ (a dx : Addr) (fs : List (Str × V)), v = .ref a ∧ F a = some (.ins (He.ga K c) dx fs) ∧ fs.map (·.1) = ns ∧ RepL K F r ds (fs.map (·.2))
  | .obj n, v => ∃ a : Addr, v = .ref a ∧ r[n]? = some a
  | .exc, _ => False
def RepL (K : PySem.W.Frag) (F : Hp) (r : List Addr) : List D → List V → Prop
  | [], vs => vs = []
  | d :: ds, vs => ∃ (v : V) (ws : List V), vs = v :: ws ∧ Rep K F r d v ∧ RepL K F r ds ws
end

theorem same_rd {H H' : Hp} {a : Addr} {u : HO} (e : Same H H') (h : Rd H a u) : Rd H' a u := by
  rcases h with h | ⟨o, h⟩
  · exact Or.inl (e a _ h)
  · exact Or.inr ⟨o, e a _ h⟩
theorem same_t {K : PySem.W.Frag} {H H' : Hp} {a : Addr} {xs : List V} (e : Same H H') (h : SqT K H a xs) : SqT K H' a xs := by
  rcases h with h | h
  · exact Or.inl (same_rd e h)
  · exact Or.inr h
theorem same_l {K : PySem.W.Frag} {H H' : Hp} {a : Addr} {xs : List V} (e : Same H H') (h : SqL K H a xs) : SqL K H' a xs := by
  rcases h with h | h
  · exact Or.inl (same_rd e h)
  · exact Or.inr h
theorem same_new {H : Hp} {p : Addr} {o : HO} (h : H p = none) : Same H (upd H p o) := fun a u e => by
  rw [upd_ne (ne_of_none e h)]
  exact e
theorem same_mut {H H' : Hp} {p : Addr} {o : HO} (e : Same H H') (h : H p = none) : Same H (upd H' p o) := fun a u ha => by
  rw [upd_ne (ne_of_none ha h)]
  exact e a u ha
theorem pre_get {r r' : List Addr} (h : r <+: r') {n : Nat} {a : Addr} (e : r[n]? = some a) : r'[n]? = some a := by
  obtain ⟨t, rfl⟩ := h
  obtain ⟨hl, _⟩ := List.getElem?_eq_some_iff.mp e
  rw [List.getElem?_append_left hl]
  exact e
section
variable {K : PySem.W.Frag} {F F' : Hp} {r r' : List Addr}
mutual
theorem Rep.mono (e : Same F F') (p : r <+: r') : ∀ (d : D) (v : V), Rep K F r d v → Rep K F' r' d v
  | .non, _, h => h
  | .bl _, _, h => h
  | .int _, _, h => h
  | .str _, _, h => h
  | .tup xs, v, h => by
    obtain ⟨a, vs, h1, h2, h3⟩ := h
    exact ⟨a, vs, h1, same_t e h2, RepL.mono e p xs vs h3⟩
  | .lst xs, v, h => by
    obtain ⟨a, vs, h1, h2, h3⟩ := h
    exact ⟨a, vs, h1, e _ _ h2, RepL.mono e p xs vs h3⟩
  | .scr xs, v, h => by
    obtain ⟨a, vs, h1, h2, h3⟩ := h
    exact ⟨a, vs, h1, same_l e h2, RepL.mono e p xs vs h3⟩
  | .dK ks ds, v, h => by
    obtain ⟨a, kvs, h1, h2, h3, h4⟩ := h
    exact ⟨a, kvs, h1, e _ _ h2, h3, RepL.mono e p ds _ h4⟩
  | .dT ks ds, v, h => by
    obtain ⟨a, kvs, h1, h2, h3, h4⟩ := h
    exact ⟨a, kvs, h1, e _ _ h2, h3, RepL.mono e p ds _ h4⟩
  | .ins c ns ds, v, h => by
    obtain ⟨a, dx, fs, h1, h2, h3, h4⟩ := h
    exact ⟨a, dx, fs, h1, e _ _ h2, h3, RepL.mono e p ds _ h4⟩
  | .obj n, v, h => by
    obtain ⟨a, h1, h2⟩ := h
    exact ⟨a, h1, pre_get p h2⟩
  | .exc, _, h => h
theorem RepL.mono (e : Same F F') (p : r <+: r') : ∀ (ds : List D) (vs : List V), RepL K F r ds vs → RepL K F' r' ds vs
  | [], _, h => h
  | d :: ds, vs, h => by
    obtain ⟨v, ws, h1, h2, h3⟩ := h
    exact ⟨v, ws, h1, Rep.mono e p d v h2, RepL.mono e p ds ws h3⟩
end
theorem RepL.nil : RepL K F r [] [] := rfl
theorem RepL.cons {d : D} {ds : List D} {v : V} {vs : List V} (h : Rep K F r d v) (t : RepL K F r ds vs) : RepL K F r (d :: ds) (v :: vs) := ⟨v, vs, rfl, h, t⟩
theorem RepL.length : ∀ {ds : List D} {vs : List V}, RepL K F r ds vs → vs.length = ds.length
  | [], _, h => by
    have e : _ = [] := h
    subst e
    rfl
  | d :: ds, _, h => by
    obtain ⟨v, ws, rfl, _, h3⟩ := h
    exact congrArg Nat.succ (RepL.length h3)
theorem RepL.get : ∀ {ds : List D} {vs : List V} {i : Nat} {d : D}, RepL K F r ds vs → ds[i]? = some d → ∃ v, vs[i]? = some v ∧ Rep K F r d v
  | [], _, i, d, _, e => by simp at e
  | d0 :: ds, _, 0, d, h, e => by
    obtain ⟨v, ws, rfl, h2, _⟩ := h
    have e' : d0 = d := by simpa using e
    subst e'
    exact ⟨v, rfl, h2⟩
  | d0 :: ds, _, i + 1, d, h, e => by
    obtain ⟨v, ws, rfl, _, h3⟩ := h
    exact RepL.get (i := i) h3 (by simpa using e)
theorem RepL.getV {ds : List D} {vs : List V} {i : Nat} {v : V} (h : RepL K F r ds vs) (e : vs[i]? = some v) : ∃ d, ds[i]? = some d ∧ Rep K F r d v := by
  obtain ⟨hl, _⟩ := List.getElem?_eq_some_iff.mp e
  rw [h.length] at hl
  have e2 : ds[i]? = some ds[i] := List.getElem?_eq_getElem hl
  obtain ⟨w, e3, q⟩ := h.get e2
  rw [e] at e3
  cases e3
  exact ⟨_, e2, q⟩
theorem RepL.append : ∀ {ds es : List D} {vs ws : List V}, RepL K F r ds vs → RepL K F r es ws → RepL K F r (ds ++ es) (vs ++ ws)
  | [], es, _, ws, h, h' => by
    have e : _ = [] := h
    subst e
    exact h'
  | d :: ds, es, _, ws, h, h' => by
    obtain ⟨v, vs, rfl, h2, h3⟩ := h
    exact ⟨v, vs ++ ws, rfl, h2, RepL.append h3 h'⟩
theorem RepL.set : ∀ {ds : List D} {vs : List V} {d : D} {v : V} (i : Nat), RepL K F r ds vs → Rep K F r d v → RepL K F r (ds.set i d) (vs.set i v)
  | [], _, d, v, i, h, q => by
    have e : _ = [] := h
    subst e
    exact rfl
  | d0 :: ds, _, d, v, 0, h, q => by
    obtain ⟨v0, ws, rfl, h2, h3⟩ := h
    exact ⟨v, ws, rfl, q, h3⟩
  | d0 :: ds, _, d, v, i + 1, h, q => by
    obtain ⟨v0, ws, rfl, h2, h3⟩ := h
    exact ⟨v0, _, rfl, h2, RepL.set i h3 q⟩
theorem RepL.take : ∀ {ds : List D} {vs : List V} (n : Nat), RepL K F r ds vs → RepL K F r (ds.take n) (vs.take n)
  | ds, vs, 0, h => by simp [RepL]
  | [], _, n + 1, h => by
    have e : _ = [] := h
    subst e
    exact rfl
  | d :: ds, _, n + 1, h => by
    obtain ⟨v, ws, rfl, h2, h3⟩ := h
    exact ⟨v, _, rfl, h2, RepL.take n h3⟩
theorem RepL.drop : ∀ {ds : List D} {vs : List V} (n : Nat), RepL K F r ds vs → RepL K F r (ds.drop n) (vs.drop n)
  | ds, vs, 0, h => h
  | [], _, n + 1, h => by
    have e : _ = [] := h
    subst e
    exact rfl
  | d :: ds, _, n + 1, h => by
    obtain ⟨v, ws, rfl, h2, h3⟩ := h
    exact RepL.drop n h3
theorem RepL.reverse : ∀ {ds : List D} {vs : List V}, RepL K F r ds vs → RepL K F r ds.reverse vs.reverse
  | [], _, h => by
    have e : _ = [] := h
    subst e
    exact rfl
  | d :: ds, _, h => by
    obtain ⟨v, ws, rfl, h2, h3⟩ := h
    rw [List.reverse_cons, List.reverse_cons]
    exact (RepL.reverse h3).append (RepL.cons h2 RepL.nil)
theorem RepL.eraseIdx : ∀ {ds : List D} {vs : List V} (i : Nat), RepL K F r ds vs → RepL K F r (ds.eraseIdx i) (vs.eraseIdx i)
  | [], _, i, h => by
    have e : _ = [] := h
    subst e
    exact rfl
  | d :: ds, _, 0, h => by
    obtain ⟨v, ws, rfl, h2, h3⟩ := h
    exact h3
  | d :: ds, _, i + 1, h => by
    obtain ⟨v, ws, rfl, h2, h3⟩ := h
    exact ⟨v, _, rfl, h2, RepL.eraseIdx i h3⟩
end

/-- the ghost state: what is frozen, the mutable objects' addresses, the store -/
structure G where
  F : Hp
  r : List Addr
  S : List MO
def MR (K : PySem.W.Frag) (F : Hp) (r : List Addr) (H : Hp) (a : Addr) : MO → Prop
  | .lst xs => ∃ vs, H a = some (.lst vs) ∧ RepL K F r xs vs
  | .dK ks ds => ∃ kvs : List (Key × V), H a = some (.dK kvs) ∧ kvs.map (·.1) = ks ∧ RepL K F r ds (kvs.map (·.2))
  | .dT ks ds => ∃ kvs : List (List Key × V), H a = some (.dT kvs) ∧ kvs.map (·.1) = ks ∧ RepL K F r ds (kvs.map (·.2))
  | .ins c ns ds => ∃ (dx : Addr) (fs : List (Str × V)), H a = some (.ins (He.ga K c) dx fs) ∧ fs.map (·.1) = ns ∧ RepL K F r ds (fs.map (·.2))
  | .dead => ∃ o, H a = some o
structure Good (K : PySem.W.Frag) (g : G) (H : Hp) : Prop where
  ex : Same g.F H
  len : g.r.length = g.S.length
  nd : g.r.Nodup
  mr : ∀ (n : Nat) (a : Addr) (m : MO), g.r[n]? = some a → g.S[n]? = some m → MR K g.F g.r H a m
  fr : ∀ (n : Nat) (a : Addr) (m : MO), g.r[n]? = some a → g.S[n]? = some m → m ≠ .dead → g.F a = none
structure Evo (g : G) (H : Hp) (g' : G) (H' : Hp) : Prop where
  f : Same g.F g'.F
  r : g.r <+: g'.r
  keep : ∀ b o, H b = some o → b ∉ g.r → H' b = some o
  newF : ∀ b o, g'.F b = some o → g.F b = some o ∨ b ∈ g.r ∨ H b = none
  newR : ∀ b, b ∈ g'.r → b ∈ g.r ∨ H b = none
section
variable {K : PySem.W.Frag} {g g1 g2 : G} {H H1 H2 : Hp}
theorem Evo.refl (g : G) (H : Hp) : Evo g H g H := ⟨Same.refl _, List.prefix_rfl, fun _ _ e _ => e, fun _ _ e => .inl e, fun _ e => .inl e⟩
theorem MR.some_ {F : Hp} {r : List Addr} {a : Addr} : ∀ {m : MO}, MR K F r H a m → ∃ o, H a = some o
  | .lst _, h => by obtain ⟨_, e, _⟩ := h; exact ⟨_, e⟩
  | .dK _ _, h => by obtain ⟨_, e, _⟩ := h; exact ⟨_, e⟩
  | .dT _ _, h => by obtain ⟨_, e, _⟩ := h; exact ⟨_, e⟩
  | .ins _ _ _, h => by obtain ⟨_, _, e, _⟩ := h; exact ⟨_, e⟩
  | .dead, h => h
theorem Good.there (h : Good K g H) {a : Addr} (ha : a ∈ g.r) : ∃ o, H a = some o := by
  obtain ⟨n, hn, e⟩ := List.getElem_of_mem ha
  have e1 : g.r[n]? = some a := by rw [List.getElem?_eq_getElem hn, e]
  have hn2 : n < g.S.length := by rw [← h.len]; exact hn
  exact (h.mr n a _ e1 (List.getElem?_eq_getElem hn2)).some_
theorem Evo.back (e : Evo g H g1 H1) (k : Good K g1 H1) {b : Addr} (h : H1 b = none) : H b = none := by
  cases q : H b with
  | none => rfl
  | some o =>
    by_cases hb : b ∈ g.r
    · obtain ⟨o', q'⟩ := k.there (e.r.subset hb)
      rw [h] at q'
      cases q'
    · rw [e.keep b o q hb] at h
      cases h
theorem Evo.trans (a : Evo g H g1 H1) (k : Good K g1 H1) (b : Evo g1 H1 g2 H2) : Evo g H g2 H2 where
  f := a.f.trans b.f
  r := a.r.trans b.r
  keep := fun c o e n => by
    have e1 := a.keep c o e n
    refine b.keep c o e1 fun hc => ?_
    rcases a.newR c hc with h | h
    · exact n h
    · rw [e] at h
      cases h
  newF := fun c o e => by
    rcases b.newF c o e with h | h | h
    · exact a.newF c o h
    · rcases a.newR c h with h | h
      · exact .inr (.inl h)
      · exact .inr (.inr h)
    · exact .inr (.inr (a.back k h))
  newR := fun c e => by
    rcases b.newR c e with h | h
    · exact a.newR c h
    · exact .inr (a.back k h)
/-- an environment: the slots' values as data, none: nothing is told -/
abbrev Dv := List (Option D)
/-- of an except suite: its exception's address, what is known of its dict -/
structure Gh where
  a : Addr
  J : Hp → List Addr → Prop
  mono : ∀ {F F' : Hp} {r r' : List Addr}, Same F F' → r <+: r' → J F r → J F' r'
def Gh.no : Gh := ⟨0, fun _ _ => True, fun _ _ h => h⟩
def EnvR (x : Gh) (K : PySem.W.Frag) (F : Hp) (r : List Addr) (σ : L2.St) (env : Dv) : Prop :=
  σ.length = env.length ∧ (∀ (i : Nat) (d : D), env[i]? = some (some d) → ∃ v, σ[i]? = some (some v) ∧ (Rep K F r d v ∨ (d = .exc ∧ v = .ref x.a))) ∧ x.J F r
theorem EnvR.mono {x : Gh} {F F' : Hp} {r r' : List Addr} {σ : L2.St} {env : Dv} (h : EnvR x K F r σ env) (e : Same F F') (p : r <+: r') : EnvR x K F' r' σ env :=
  ⟨h.1, fun i d q => by obtain ⟨v, h1, h2⟩ := h.2.1 i d q; exact ⟨v, h1, h2.imp (fun h => h.mono e p) id⟩, x.mono e p h.2.2⟩
theorem EnvR.set0 {x : Gh} {F : Hp} {r : List Addr} {σ : L2.St} {env : Dv} (h : EnvR x K F r σ env) (i : Nat) {d : D} {v : V} (q : Rep K F r d v ∨ (d = .exc ∧ v = .ref x.a)) : EnvR x K F r (σ.set i (some v)) (env.set i (some d)) := by
  refine ⟨by rw [List.length_set, List.length_set, h.1], fun j e hj => ?_, h.2.2⟩
  by_cases hi : i = j
  · subst hi
    have hl : i < env.length := by
      have := (List.getElem?_eq_some_iff.mp hj).1
      rwa [List.length_set] at this
    rw [List.getElem?_set_self hl] at hj
    have ed : d = e := by simpa using hj
    subst ed
    exact ⟨v, by rw [List.getElem?_set_self (by rw [h.1]; exact hl)], q⟩
  · rw [List.getElem?_set_ne hi] at hj
    obtain ⟨w, h1, h2⟩ := h.2.1 j e hj
    exact ⟨w, by rw [List.getElem?_set_ne hi]; exact h1, h2⟩
theorem EnvR.set {x : Gh} {F : Hp} {r : List Addr} {σ : L2.St} {env : Dv} (h : EnvR x K F r σ env) (i : Nat) {d : D} {v : V} (q : Rep K F r d v) : EnvR x K F r (σ.set i (some v)) (env.set i (some d)) := h.set0 i (.inl q)
theorem EnvR.clear {x : Gh} {F : Hp} {r : List Addr} {σ : L2.St} {env : Dv} (h : EnvR x K F r σ env) (i : Nat) : EnvR x K F r σ (env.set i none) := by
  refine ⟨by rw [List.length_set, h.1], fun j e hj => ?_, h.2.2⟩
  by_cases hi : i = j
  · subst hi
    have hl : i < env.length := by
      have := (List.getElem?_eq_some_iff.mp hj).1
      rwa [List.length_set] at this
    rw [List.getElem?_set_self hl] at hj
    cases hj
  · rw [List.getElem?_set_ne hi] at hj
    exact h.2.1 j e hj
/-- the slot goes -/
theorem EnvR.unset {x : Gh} {F : Hp} {r : List Addr} {σ : L2.St} {env : Dv} (h : EnvR x K F r σ env) (i : Nat) : EnvR x K F r (σ.set i none) (env.set i none) := by
  refine ⟨by rw [List.length_set, List.length_set, h.1], fun j e hj => ?_, h.2.2⟩
  by_cases hi : i = j
  · subst hi
    have hl : i < env.length := by
      have := (List.getElem?_eq_some_iff.mp hj).1
      rwa [List.length_set] at this
    rw [List.getElem?_set_self hl] at hj
    cases hj
  · rw [List.getElem?_set_ne hi] at hj
    obtain ⟨w, h1, h2⟩ := h.2.1 j e hj
    exact ⟨w, by rw [List.getElem?_set_ne hi]; exact h1, h2⟩
end
end FL

namespace FL
open PySem L2

/-- how a computation ends: a value; an error of a class, with one field or none -/
inductive R (α : Type) where
  | ok (a : α)
  | ex (c : Str) (p : Option (Str × D))
/-- a wish, and what an except suite knows -/
structure Wx where
  w : WX
  x : Gh
abbrev Fx (α : Type) := Dv → List MO → Option (R α × List MO)
def pureF {α : Type} (a : α) : Fx α := fun _ S => some (.ok a, S)
def bindF {α β : Type} (f : Fx α) (k : α → Fx β) : Fx β := fun env S => match f env S with
  | some (.ok a, S1) => k a env S1
  | some (.ex c p, S1) => some (.ex c p, S1)
  | none => none
/-- a value that hangs on the store -/
def liftF {α : Type} (o : List MO → Option α) : Fx α := fun _ S => match o S with
  | some a => some (.ok a, S)
  | none => none

abbrev Rl (α β : Type) := Hp → List Addr → α → β → Prop
def XR (K : PySem.W.Frag) (F : Hp) (r : List Addr) (H : Hp) (c : Str) (p : Option (Str × D)) (cls : Value) (dd : Option Addr) : Prop :=
  cls = .ref (He.ga K c) ∧ match p with
    | none => dd = none
    | some (f, d) => ∃ (dx : Addr) (v : V), dd = some dx ∧ F dx = some (.xd [(f, v)]) ∧ Rep K F r d v
def PostX (K : PySem.W.Frag) {α β : Type} (rel : Rl α β) (g : G) (H : Hp) (Q : β → Hp → Prop) (E : XK) : R α → List MO → Prop
  | .ok a, S' => ∀ (F' : Hp) (r' : List Addr) (H' : Hp) (b : β), Evo g H ⟨F', r', S'⟩ H' → Good K ⟨F', r', S'⟩ H' → rel F' r' a b → Q b H'
  | .ex c p, S' => ∀ (F' : Hp) (r' : List Addr) (H' : Hp) (cls : Value) (dd : Option Addr), Evo g H ⟨F', r', S'⟩ H' → Good K ⟨F', r', S'⟩ H' → XR K F' r' H' c p cls dd → E cls dd H'
abbrev WE1 (W : Wx) (σ : L2.St) : XK := fun c d H => W.w c d σ H
def Cf (K : PySem.W.Frag) {α β : Type} (rel : Rl α β) (f : Fx α) (W : Wx) (σ : L2.St) (H : Hp) (Q : β → Hp → Prop) (g : G) (env : Dv) : Prop :=
  Good K g H ∧ EnvR W.x K g.F g.r σ env ∧ ∃ (r : R α) (S' : List MO), f env g.S = some (r, S') ∧ PostX K rel g H Q (WE1 W σ) r S'
def tX (K : PySem.W.Frag) {α β : Type} (rel : Rl α β) (f : Fx α) (W : Wx) : L2.St → Hp → (β → Hp → Prop) → Prop := fun σ H Q => ∃ g env, Cf K rel f W σ H Q g env
section
variable {K : PySem.W.Frag} {α β γ δ : Type} {rel : Rl α β} {relB : Rl γ δ} {g g1 : G} {H H1 : Hp} {Q Q' : β → Hp → Prop} {W : Wx} {σ : L2.St} {env : Dv}
theorem PostX.evo {E : XK} (e : Evo g H g1 H1) (k : Good K g1 H1) : ∀ {r : R α} {S' : List MO}, PostX K rel g H Q E r S' → PostX K rel g1 H1 Q E r S'
  | .ok a, S', h => fun F' r' H' b ev gd q => h F' r' H' b (e.trans k ev) gd q
  | .ex c p, S', h => fun F' r' H' cls dd ev gd q => h F' r' H' cls dd (e.trans k ev) gd q
theorem PostX.imp {E : XK} (w : ∀ b H', Q b H' → Q' b H') : ∀ {r : R α} {S' : List MO}, PostX K rel g H Q E r S' → PostX K rel g H Q' E r S'
  | .ok a, S', h => fun F' r' H' b ev gd q => w _ _ (h F' r' H' b ev gd q)
  | .ex c p, S', h => h
theorem tX.imp {f : Fx α} (h : tX K rel f W σ H Q) (w : ∀ b H', Q b H' → Q' b H') : tX K rel f W σ H Q' := by
  obtain ⟨g, env, g1, e1, r, S', e, p⟩ := h
  exact ⟨g, env, g1, e1, r, S', e, p.imp w⟩
theorem Cf.bind {fa : Fx γ} {k : γ → Fx α} (c : Cf K rel (bindF fa k) W σ H Q g env) :
    tX K relB fa W σ H (fun b H1 => ∃ a g1, relB g1.F g1.r a b ∧ Evo g H g1 H1 ∧ Cf K rel (k a) W σ H1 Q g1 env) := by
  obtain ⟨gd, er, r, S', e, p⟩ := c
  unfold bindF at e
  cases q : fa env g.S with
  | none =>
    rw [q] at e
    cases e
  | some z =>
    obtain ⟨z, S1⟩ := z
    rw [q] at e
    cases z with
    | ok a =>
      exact ⟨g, env, gd, er, .ok a, S1, q, fun F' r' H' b ev gd' rb => ⟨a, ⟨F', r', S1⟩, rb, ev, gd', er.mono ev.f ev.r, r, S', e, p.evo ev gd'⟩⟩
    | ex c pp =>
      have e' : (R.ex c pp, S1) = (r, S') := Option.some.inj e
      cases e'
      exact ⟨g, env, gd, er, .ex c pp, _, q, fun F' r' H' cls dd ev gd' x => p F' r' H' cls dd ev gd' x⟩
theorem Cf.lift {o : List MO → Option α} (c : Cf K rel (liftF o) W σ H Q g env) : ∃ a, o g.S = some a ∧ ∀ (F' : Hp) (r' : List Addr) (H' : Hp) (b : β), Evo g H ⟨F', r', g.S⟩ H' → Good K ⟨F', r', g.S⟩ H' → rel F' r' a b → Q b H' := by
  obtain ⟨gd, er, r, S', e, p⟩ := c
  unfold liftF at e
  cases q : o g.S with
  | none =>
    rw [q] at e
    cases e
  | some a =>
    rw [q] at e
    have e' : (R.ok a, g.S) = (r, S') := Option.some.inj e
    cases e'
    exact ⟨a, rfl, p⟩
theorem Cf.pure {a : α} {b : β} (c : Cf K rel (pureF a) W σ H Q g env) (h : rel g.F g.r a b) : Q b H := by
  obtain ⟨gd, er, r, S', e, p⟩ := c
  have e' : (R.ok a, g.S) = (r, S') := Option.some.inj e
  cases e'
  exact p g.F g.r H b (Evo.refl g H) gd h
theorem Cf.good {f : Fx α} (c : Cf K rel f W σ H Q g env) : Good K g H := c.1
end
theorem PE.imp {X : Cx} {e : Expr} {t t' : TE} (h : PE X e t) (w : ∀ σ H Q, t' σ H Q → t σ H Q) : PE X e t' := ⟨fun pins s σ H Q I q => h.run pins s σ H Q I (w σ H Q q)⟩
theorem PT.imp {X : Cx} {e : Expr} {t t' : TT} (h : PT X e t) (w : ∀ σ H Q, t' σ H Q → t σ H Q) : PT X e t' := ⟨fun pins s σ H Q I q => h.run pins s σ H Q I (w σ H Q q)⟩
theorem PW.imp {X : Cx} {e : Expr} {t t' : TT} (h : PW X e t) (w : ∀ σ H Q, t' σ H Q → t σ H Q) : PW X e t' := ⟨fun wh pins s σ H Q I q => h.run wh pins s σ H Q I (w σ H Q q)⟩
theorem PA.imp {X : Cx} {es : List Expr} {t t' : TA} (h : PA X es t) (w : ∀ σ H Q, t' σ H Q → t σ H Q) : PA X es t' := ⟨fun pos pins s σ H Q I q => h.run pos pins s σ H Q I (w σ H Q q)⟩
theorem PS.imp {X : Cx} {e : Stmt} {t t' : TS} (h : PS X e t) (w : ∀ D σ H, t' D σ H → t D σ H) : PS X e t' := ⟨fun pins s σ H D I q => h.run pins s σ H D I (w D σ H q)⟩
theorem PSs.imp {X : Cx} {e : List Stmt} {t t' : TS} (h : PSs X e t) (w : ∀ D σ H, t' D σ H → t D σ H) : PSs X e t' := ⟨fun pins s σ H D I q => h.run pins s σ H D I (w D σ H q)⟩
abbrev relD (K : PySem.W.Frag) : Rl D V := Rep K
abbrev relL (K : PySem.W.Frag) : Rl (List D) (List V) := RepL K
abbrev relB : Rl Bool Bool := fun _ _ a b => b = a
/-- the judgements: an expression and its twin -/
abbrev CE (X : Cx) (W : Wx) (e : Expr) (f : Fx D) : Prop := PE X e (tX X.K (relD X.K) f W)
abbrev CT (X : Cx) (W : Wx) (e : Expr) (f : Fx Bool) : Prop := PT X e (tX X.K relB f W)
abbrev CW (X : Cx) (W : Wx) (e : Expr) (f : Fx Bool) : Prop := PW X e (tX X.K relB f W)
abbrev CA (X : Cx) (W : Wx) (es : List Expr) (f : Fx (List D)) : Prop := PA X es (tX X.K (relL X.K) f W)

def fVar (i : Nat) : Fx D := fun env S => match env[i]? with
  | some (some .exc) => none
  | some (some d) => some (.ok d, S)
  | _ => none
section
variable {X : Cx} {W : Wx}
theorem ce_var (i : Nat) {x : Str} {pos : Pos} (hN : X.N[i]? = some x := by rfl) (hv : Vis X.env.scope x := by first | exact Or.inl rfl | exact Or.inr (Or.inl rfl) | exact Or.inr (Or.inr rfl)) (hd : (x == ("__debug__" : Str)) = false := by decide)
    (hcd : (x == ("__classdict__" : Str)) = false := by decide) : CE X W (.Name x pos) (fVar i) :=
  PE.imp (pe_var hN hv hd hcd) fun σ H Q h => by
    obtain ⟨g, env, gd, er, r, S', e, p⟩ := h
    unfold fVar at e
    split at e
    · cases e
    · rename_i d hne hd
      cases e
      obtain ⟨v, h1, h2⟩ := er.2.1 i d hd
      rcases h2 with h2 | ⟨h2, _⟩
      · exact ⟨v, h1, p g.F g.r H v (Evo.refl g H) gd h2⟩
      · exact absurd h2 hne
    · cases e
theorem ce_of_c {e : Expr} {v : V} {d : D} (h : PE X e (tC v)) (hr : ∀ F r, Rep X.K F r d v) : CE X W e (pureF d) :=
  PE.imp h fun σ H Q ⟨g, env, c⟩ => c.pure (hr _ _)
theorem ce_int {i j pos} : CE X W (.Constant (.int i) j pos) (pureF (.int i)) := ce_of_c pe_int fun _ _ => rfl
theorem ce_bl {b j pos} : CE X W (.Constant (.bool b) j pos) (pureF (.bl b)) := ce_of_c pe_bl fun _ _ => rfl
theorem ce_non {j pos} : CE X W (.Constant .none j pos) (pureF .non) := ce_of_c pe_non fun _ _ => rfl
theorem ce_str {x j pos} : CE X W (.Constant (.str x) j pos) (pureF (.str x)) := ce_of_c pe_str fun _ _ => rfl
/-- a module's constant -/
def GlobD (X : Cx) (x : Str) (d : D) : Prop := ∃ u v, X.mg x = some u ∧ RelV v u ∧ ∀ F r, Rep X.K F r d v
theorem ce_glob {x : Str} {d : D} {pos : Pos} (h : GlobD X x d) (hg : Gl X x := by rfl) (hd : (x == ("__debug__" : Str)) = false := by decide) : CE X W (.Name x pos) (pureF d) := by
  obtain ⟨u, v, hm, r, hr⟩ := h
  exact ce_of_c (pe_glob hg hm r hd) hr

theorem ca_nil : CA X W [] (pureF []) := PA.imp pa_nil fun σ H Q ⟨g, env, c⟩ => c.pure RepL.nil
def fCons (f : Fx D) (t : Fx (List D)) : Fx (List D) := bindF f fun d => bindF t fun ds => pureF (d :: ds)
theorem ca_cons {e : Expr} {es : List Expr} {f : Fx D} {t : Fx (List D)} (ha : CE X W e f) (hr : CA X W es t) (hs : starEach (e :: es) X.env = (false, eval e X.env) :: starEach es X.env := by rfl) : CA X W (e :: es) (fCons f t) :=
  PA.imp (pa_cons ha hr hs) fun σ H Q ⟨g, env, c⟩ => (c.bind (relB := relD X.K)).imp fun v H1 ⟨d, g1, rd, ev, c1⟩ =>
    (c1.bind (relB := relL X.K)).imp fun vs H2 ⟨ds, g2, rds, ev2, c2⟩ => c2.pure (RepL.cons (rd.mono ev2.f ev2.r) rds)

theorem Evo.frozen {K : PySem.W.Frag} {g : G} {H : Hp} {p : Addr} {o : HO} (gd : Good K g H) (hp : H p = none) : Evo g H ⟨upd g.F p o, g.r, g.S⟩ (upd H p o) := by
  have hf : g.F p = none := by
    cases q : g.F p with
    | none => rfl
    | some u =>
      rw [gd.ex p u q] at hp
      cases hp
  refine ⟨same_new hf, List.prefix_rfl, fun b u e _ => by rw [upd_ne (ne_of_none e hp)]; exact e, fun b u e => ?_, fun b e => .inl e⟩
  by_cases hb : b = p
  · exact .inr (.inr (hb ▸ hp))
  · have e' : upd g.F p o b = some u := e
    rw [upd_ne hb] at e'
    exact .inl e'
theorem MR.mono {K : PySem.W.Frag} {F F' : Hp} {r r' : List Addr} {H H' : Hp} {a : Addr} (e : Same F F') (p : r <+: r') (k : H' a = H a) : ∀ {m : MO}, MR K F r H a m → MR K F' r' H' a m
  | .lst _, h => by obtain ⟨vs, h1, h2⟩ := h; exact ⟨vs, k.trans h1, h2.mono e p⟩
  | .dK _ _, h => by obtain ⟨vs, h1, h2, h3⟩ := h; exact ⟨vs, k.trans h1, h2, h3.mono e p⟩
  | .dT _ _, h => by obtain ⟨vs, h1, h2, h3⟩ := h; exact ⟨vs, k.trans h1, h2, h3.mono e p⟩
  | .ins _ _ _, h => by obtain ⟨dx, vs, h1, h2, h3⟩ := h; exact ⟨dx, vs, k.trans h1, h2, h3.mono e p⟩
  | .dead, h => by obtain ⟨o, h1⟩ := h; exact ⟨o, k.trans h1⟩
theorem Good.frozen {K : PySem.W.Frag} {g : G} {H : Hp} {p : Addr} {o : HO} (gd : Good K g H) (hp : H p = none) : Good K ⟨upd g.F p o, g.r, g.S⟩ (upd H p o) := by
  have hf : g.F p = none := by
    cases q : g.F p with
    | none => rfl
    | some u =>
      rw [gd.ex p u q] at hp
      cases hp
  have hne : ∀ (n : Nat) (a : Addr), g.r[n]? = some a → a ≠ p := fun n a e z => by
    obtain ⟨u, q⟩ := gd.there (List.mem_of_getElem? e)
    rw [z, hp] at q
    cases q
  refine ⟨fun b u e => ?_, gd.len, gd.nd, fun n a m h1 h2 => ?_, fun n a m h1 h2 h3 => ?_⟩
  · by_cases hb : b = p
    · subst hb
      have e' : upd g.F b o b = some u := e
      rw [upd_same] at e' ⊢
      exact e'
    · have e' : upd g.F p o b = some u := e
      rw [upd_ne hb] at e' ⊢
      exact gd.ex b u e'
  · exact (gd.mr n a m h1 h2).mono (same_new hf) List.prefix_rfl (upd_ne (hne n a h1))
  · show upd g.F p o a = none
    rw [upd_ne (hne n a h1)]
    exact gd.fr n a m h1 h2 h3
/-- a new object of the store -/
theorem Evo.fresh {K : PySem.W.Frag} {g : G} {H : Hp} {p : Addr} {o : HO} {m : MO} (gd : Good K g H) (hp : H p = none) : Evo g H ⟨g.F, g.r ++ [p], g.S ++ [m]⟩ (upd H p o) :=
  ⟨Same.refl _, List.prefix_append _ _, fun b u e _ => by rw [upd_ne (ne_of_none e hp)]; exact e, fun b u e => .inl e, fun b e => by
    rcases List.mem_append.mp e with e | e
    · exact .inl e
    · have e' : b = p := by simpa using e
      exact .inr (e' ▸ hp)⟩
theorem Good.fresh {K : PySem.W.Frag} {g : G} {H : Hp} {p : Addr} {o : HO} {m : MO} (gd : Good K g H) (hp : H p = none) (hm : MR K g.F (g.r ++ [p]) (upd H p o) p m) : Good K ⟨g.F, g.r ++ [p], g.S ++ [m]⟩ (upd H p o) := by
  have hf : g.F p = none := by
    cases q : g.F p with
    | none => rfl
    | some u =>
      rw [gd.ex p u q] at hp
      cases hp
  have hne : ∀ (n : Nat) (a : Addr), g.r[n]? = some a → a ≠ p := fun n a e z => by
    obtain ⟨u, q⟩ := gd.there (List.mem_of_getElem? e)
    rw [z, hp] at q
    cases q
  have key : ∀ (n : Nat) (a : Addr) (m' : MO), (g.r ++ [p])[n]? = some a → (g.S ++ [m])[n]? = some m' → (g.r[n]? = some a ∧ g.S[n]? = some m') ∨ (a = p ∧ m' = m) := fun n a m' h1 h2 => by
    by_cases hn : n < g.r.length
    · rw [List.getElem?_append_left hn] at h1
      rw [List.getElem?_append_left (by rw [← gd.len]; exact hn)] at h2
      exact .inl ⟨h1, h2⟩
    · have hl := (List.getElem?_eq_some_iff.mp h1).1
      have e : n = g.r.length := by
        rw [List.length_append] at hl
        have : [p].length = 1 := rfl
        omega
      subst e
      rw [List.getElem?_append_right (Nat.le_refl _)] at h1
      rw [gd.len, List.getElem?_append_right (Nat.le_refl _)] at h2
      simp at h1 h2
      exact .inr ⟨h1.symm, h2.symm⟩
  refine ⟨same_mut gd.ex hf, by simp [gd.len], ?_, fun n a m' h1 h2 => ?_, fun n a m' h1 h2 h3 => ?_⟩
  · refine List.nodup_append.mpr ⟨gd.nd, by simp, fun a ha b hb => ?_⟩
    have hb' : b = p := by simpa using hb
    obtain ⟨n, hn, e⟩ := List.getElem_of_mem ha
    rw [hb']
    exact hne n a (by rw [List.getElem?_eq_getElem hn, e])
  · rcases key n a m' h1 h2 with ⟨h1, h2⟩ | ⟨h1, h2⟩
    · exact (gd.mr n a m' h1 h2).mono (Same.refl _) (List.prefix_append _ _) (upd_ne (hne n a h1))
    · rw [h1, h2]
      exact hm
  · rcases key n a m' h1 h2 with ⟨h1, h2⟩ | ⟨h1, h2⟩
    · exact gd.fr n a m' h1 h2 h3
    · rw [h1]
      exact hf
/-- an object of the store changes -/
theorem Evo.mut {K : PySem.W.Frag} {g : G} {H : Hp} {n : Nat} {a : Addr} {o : HO} {m : MO} (h : g.r[n]? = some a) : Evo g H ⟨g.F, g.r, g.S.set n m⟩ (upd H a o) :=
  ⟨Same.refl _, List.prefix_rfl, fun b u e hb => by
    have : b ≠ a := fun z => hb (z ▸ List.mem_of_getElem? h)
    rw [upd_ne this]
    exact e, fun b u e => .inl e, fun b e => .inl e⟩
theorem Good.mut {K : PySem.W.Frag} {g : G} {H : Hp} {n : Nat} {a : Addr} {o : HO} {m m0 : MO} (gd : Good K g H) (h : g.r[n]? = some a) (h0 : g.S[n]? = some m0) (hd : m0 ≠ .dead) (hm : MR K g.F g.r (upd H a o) a m) : Good K ⟨g.F, g.r, g.S.set n m⟩ (upd H a o) := by
  have hf := gd.fr n a m0 h h0 hd
  have hinj : ∀ (j : Nat) (b : Addr), g.r[j]? = some b → j ≠ n → b ≠ a := fun j b e hj z => by
    rw [z] at e
    obtain ⟨l1, q1⟩ := List.getElem?_eq_some_iff.mp e
    obtain ⟨l2, q2⟩ := List.getElem?_eq_some_iff.mp h
    exact hj ((List.getElem_inj gd.nd).mp (q1.trans q2.symm))
  refine ⟨same_mut gd.ex hf, by rw [List.length_set]; exact gd.len, gd.nd, fun j b m' h1 h2 => ?_, fun j b m' h1 h2 h3 => ?_⟩
  · by_cases hj : j = n
    · subst hj
      have e : b = a := by
        have h1' : g.r[j]? = some b := h1
        rw [h] at h1'
        exact (Option.some.inj h1').symm
      have l := (List.getElem?_eq_some_iff.mp h0).1
      have h2' : (g.S.set j m)[j]? = some m' := h2
      rw [List.getElem?_set_self l] at h2'
      cases h2'
      rw [e]
      exact hm
    · have h2' : (g.S.set n m)[j]? = some m' := h2
      rw [List.getElem?_set_ne (Ne.symm hj)] at h2'
      exact (gd.mr j b m' h1 h2').mono (Same.refl _) List.prefix_rfl (upd_ne (hinj j b h1 hj))
  · by_cases hj : j = n
    · subst hj
      have h1' : g.r[j]? = some b := h1
      rw [h] at h1'
      cases h1'
      exact hf
    · have h2' : (g.S.set n m)[j]? = some m' := h2
      rw [List.getElem?_set_ne (Ne.symm hj)] at h2'
      exact gd.fr j b m' h1 h2' h3
/-- a tuple; a list as plain data; a list as an object -/
def fTup (t : Fx (List D)) : Fx D := bindF t fun ds => liftF fun _ => if ds.length ≤ 100000 then some (.tup ds) else none
def fLst (t : Fx (List D)) : Fx D := bindF t fun ds => liftF fun _ => if ds.length ≤ 100000 then some (.lst ds) else none
def fLstO (t : Fx (List D)) : Fx D := bindF t fun ds _ S => if ds.length ≤ 100000 then some (.ok (.obj S.length), S ++ [.lst ds]) else none
theorem sz_of {n : Nat} (h : n ≤ 100000) : n ≤ sizeLine := Nat.le_trans h (by decide)
theorem sz_lt {n : Nat} (h : n < 100000) : n < sizeLine := Nat.lt_of_lt_of_le h (by decide)
theorem ce_tup {es : List Expr} {t : Fx (List D)} {x1 pos} (h : CA X W es t) : CE X W (.Tuple es x1 pos) (fTup t) :=
  PE.imp (pe_tup h) fun σ H Q ⟨g, env, c⟩ => (c.bind (relB := relL X.K)).imp fun vs H1 ⟨ds, g1, rd, ev, c1⟩ => by
    obtain ⟨a, e, p⟩ := c1.lift
    split at e
    · rename_i hz
      cases e
      refine ⟨by rw [rd.length]; exact sz_of hz, fun q hq => p _ _ _ _ (Evo.frozen c1.good hq) (c1.good.frozen hq) ⟨q, vs, rfl, SqT.of upd_same, rd.mono (Evo.frozen c1.good hq).f List.prefix_rfl⟩⟩
    · cases e
theorem ce_lst {es : List Expr} {t : Fx (List D)} {pos} (h : CA X W es t) : CE X W (.List es pos) (fLst t) :=
  PE.imp (pe_lst h) fun σ H Q ⟨g, env, c⟩ => (c.bind (relB := relL X.K)).imp fun vs H1 ⟨ds, g1, rd, ev, c1⟩ => by
    obtain ⟨a, e, p⟩ := c1.lift
    split at e
    · rename_i hz
      cases e
      refine ⟨by rw [rd.length]; exact sz_of hz, fun q hq => p _ _ _ _ (Evo.frozen c1.good hq) (c1.good.frozen hq) ⟨q, vs, rfl, upd_same, rd.mono (Evo.frozen c1.good hq).f List.prefix_rfl⟩⟩
    · cases e
theorem ce_lstO {es : List Expr} {t : Fx (List D)} {pos} (h : CA X W es t) : CE X W (.List es pos) (fLstO t) :=
  PE.imp (pe_lst h) fun σ H Q ⟨g, env, c⟩ => (c.bind (relB := relL X.K)).imp fun vs H1 ⟨ds, g1, rd, ev, c1⟩ => by
    obtain ⟨gd, er, r, S', e, p⟩ := c1
    split at e
    · rename_i hz
      cases e
      refine ⟨by rw [rd.length]; exact sz_of hz, fun q hq => p _ _ _ _ (Evo.fresh gd hq) (gd.fresh hq ⟨vs, upd_same, rd.mono (Same.refl _) (List.prefix_append _ _)⟩) ⟨q, rfl, ?_⟩⟩
      rw [← gd.len]
      simp
    · cases e
end
end FL

namespace FL
open PySem L2

def viewL (S : List MO) : D → Option (List D)
  | .lst xs => some xs
  | .scr xs => some xs
  | .obj n => match S[n]? with
    | some (.lst xs) => some xs
    | _ => none
  | _ => none
/-- a list that is tracked -/
def viewM (S : List MO) : D → Option (List D)
  | .lst xs => some xs
  | .obj n => match S[n]? with
    | some (.lst xs) => some xs
    | _ => none
  | _ => none
def viewT : D → Option (List D)
  | .tup xs => some xs
  | _ => none
def viewS (S : List MO) (d : D) : Option (List D) := match viewL S d with
  | some xs => some xs
  | none => viewT d
section
variable {K : PySem.W.Frag} {g : G} {H : Hp} {d : D} {v : V} {xs : List D}
theorem viewM_ok (gd : Good K g H) (h : Rep K g.F g.r d v) (e : viewM g.S d = some xs) : ∃ a vs, v = .ref a ∧ H a = some (.lst vs) ∧ RepL K g.F g.r xs vs := by
  cases d with
  | lst ys =>
    obtain ⟨a, vs, h1, h2, h3⟩ := h
    have e' : ys = xs := Option.some.inj e
    subst e'
    exact ⟨a, vs, h1, gd.ex _ _ h2, h3⟩
  | obj n =>
    obtain ⟨a, h1, h2⟩ := h
    have e' : (match g.S[n]? with | some (.lst xs) => some xs | _ => none) = some xs := e
    cases q : g.S[n]? with
    | none => rw [q] at e'; cases e'
    | some m =>
      rw [q] at e'
      cases m with
      | lst ys =>
        have e2 : ys = xs := Option.some.inj e'
        subst e2
        obtain ⟨vs, h3, h4⟩ := gd.mr n a _ h2 q
        exact ⟨a, vs, h1, h3, h4⟩
      | _ => cases e'
  | _ => cases e
theorem viewL_ok (gd : Good K g H) (h : Rep K g.F g.r d v) (e : viewL g.S d = some xs) : ∃ a vs, v = .ref a ∧ SqL K H a vs ∧ RepL K g.F g.r xs vs := by
  cases d with
  | lst ys =>
    obtain ⟨a, vs, h1, h2, h3⟩ := viewM_ok gd h e
    exact ⟨a, vs, h1, SqL.of h2, h3⟩
  | scr ys =>
    obtain ⟨a, vs, h1, h2, h3⟩ := h
    have e' : ys = xs := Option.some.inj e
    subst e'
    exact ⟨a, vs, h1, same_l gd.ex h2, h3⟩
  | obj n =>
    obtain ⟨a, vs, h1, h2, h3⟩ := viewM_ok gd h e
    exact ⟨a, vs, h1, SqL.of h2, h3⟩
  | _ => cases e
theorem viewT_ok (gd : Good K g H) (h : Rep K g.F g.r d v) (e : viewT d = some xs) : ∃ a vs, v = .ref a ∧ SqT K H a vs ∧ RepL K g.F g.r xs vs := by
  cases d with
  | tup ys =>
    obtain ⟨a, vs, h1, h2, h3⟩ := h
    have e' : ys = xs := Option.some.inj e
    subst e'
    exact ⟨a, vs, h1, same_t gd.ex h2, h3⟩
  | _ => cases e
theorem viewS_ok (gd : Good K g H) (h : Rep K g.F g.r d v) (e : viewS g.S d = some xs) : ∃ a vs, v = .ref a ∧ (SqL K H a vs ∨ SqT K H a vs) ∧ RepL K g.F g.r xs vs := by
  unfold viewS at e
  cases q : viewL g.S d with
  | some ys =>
    rw [q] at e
    have e' : ys = xs := Option.some.inj e
    subst e'
    obtain ⟨a, vs, h1, h2, h3⟩ := viewL_ok gd h q
    exact ⟨a, vs, h1, .inl h2, h3⟩
  | none =>
    rw [q] at e
    obtain ⟨a, vs, h1, h2, h3⟩ := viewT_ok gd h e
    exact ⟨a, vs, h1, .inr h2, h3⟩
theorem rep_int {i : Int} {v : V} (h : Rep K g.F g.r (.int i) v) : v = .int i := h
theorem rep_str {i : Str} {v : V} (h : Rep K g.F g.r (.str i) v) : v = .str i := h
theorem rep_bl {i : Bool} {v : V} (h : Rep K g.F g.r (.bl i) v) : v = .bl i := h
end

theorem Cf.bindLift {K : PySem.W.Frag} {α β γ : Type} {rel : Rl α β} {W : Wx} {σ : L2.St} {H : Hp} {Q : β → Hp → Prop} {g : G} {env : Dv} {o : List MO → Option γ} {k : γ → Fx α} (c : Cf K rel (bindF (liftF o) k) W σ H Q g env) :
    ∃ a, o g.S = some a ∧ Cf K rel (k a) W σ H Q g env := by
  obtain ⟨gd, er, r, S', e, p⟩ := c
  unfold bindF liftF at e
  cases q : o g.S with
  | none =>
    simp only [q] at e
    cases e
  | some a =>
    simp only [q] at e
    exact ⟨a, rfl, gd, er, r, S', e, p⟩
theorem Cf.evo {K : PySem.W.Frag} {α β : Type} {rel : Rl α β} {W : Wx} {σ : L2.St} {H H' : Hp} {Q : β → Hp → Prop} {g : G} {F' : Hp} {r' : List Addr} {env : Dv} {f : Fx α} (c : Cf K rel f W σ H Q g env) (e1 : Evo g H ⟨F', r', g.S⟩ H') (e2 : Good K ⟨F', r', g.S⟩ H') :
    Cf K rel f W σ H' Q ⟨F', r', g.S⟩ env := by
  obtain ⟨gd, er, r, S', e, p⟩ := c
  exact ⟨e2, er.mono e1.f e1.r, r, S', e, p.evo e1 e2⟩

def Fin1 (K : PySem.W.Frag) (g : G) (H : Hp) (d : D) (Q : VK) : Prop := ∀ (F' : Hp) (H' : Hp) (v : V), Evo g H ⟨F', g.r, g.S⟩ H' → Good K ⟨F', g.r, g.S⟩ H' → Rep K F' g.r d v → Q v H'
theorem Fin1.here {K : PySem.W.Frag} {g : G} {H : Hp} {d : D} {Q : VK} {v : V} (f : Fin1 K g H d Q) (gd : Good K g H) (h : Rep K g.F g.r d v) : Q v H := f g.F H v (Evo.refl g H) gd h
/-- a new frozen object -/
theorem Fin1.new {K : PySem.W.Frag} {g : G} {H : Hp} {d : D} {Q : VK} {p : Addr} {o : HO} (f : Fin1 K g H d Q) (gd : Good K g H) (hp : H p = none) (h : Rep K (upd g.F p o) g.r d (.ref p)) : Q (.ref p) (upd H p o) :=
  f _ _ _ (Evo.frozen gd hp) (gd.frozen hp) h
theorem Good.up {K : PySem.W.Frag} {g : G} {H : Hp} {p : Addr} {o : HO} (gd : Good K g H) (hp : H p = none) : Same g.F (upd g.F p o) := (Evo.frozen gd hp).f
def OpLk (K : PySem.W.Frag) (r : R2) (op : List MO → D → D → Option D) : Prop :=
  ∀ (g : G) (H : Hp) (x y : V) (dx dy d : D) (Q : VK), Good K g H → Rep K g.F g.r dx x → Rep K g.F g.r dy y → op g.S dx dy = some d → Fin1 K g H d Q → r x y H Q
def fOp (op : List MO → D → D → Option D) (fa fb : Fx D) : Fx D := bindF fa fun x => bindF fb fun y => liftF fun S => op S x y
theorem OpR.or {X : Cx} {f : Value → Value → Sem Value} {r r' : R2} (h : OpR X f r) (h' : OpR X f r') : OpR X f (fun x y H Q => r x y H Q ∨ r' x y H Q) := fun pins s σ H x y v u Q I rx ry q => by
  rcases q with q | q
  · exact h pins s σ H x y v u Q I rx ry q
  · exact h' pins s σ H x y v u Q I rx ry q
section
variable {X : Cx} {W : Wx} {a b : Expr} {fa fb : Fx D} {pos : Pos}
theorem ox_op {r : R2} {op : List MO → D → D → Option D} (lk : OpLk X.K r op) {σ : L2.St} {H : Hp} {Q : VK} (h : tX X.K (relD X.K) (fOp op fa fb) W σ H Q) :
    tOp r (tX X.K (relD X.K) fa W) (tX X.K (relD X.K) fb W) σ H Q := by
  obtain ⟨g, env, c⟩ := h
  refine (c.bind (relB := relD X.K)).imp fun x H1 ⟨dx, g1, rx, ev, c1⟩ => ?_
  refine (c1.bind (relB := relD X.K)).imp fun y H2 ⟨dy, g2, ry, ev2, c2⟩ => ?_
  obtain ⟨d, e, p⟩ := c2.lift
  exact lk g2 H2 x y dx dy d Q c2.good (rx.mono ev2.f ev2.r) ry e fun F' H' v e1 e2 e3 => p F' g2.r H' v e1 e2 e3
theorem ce_bin {o : Operator} {r : R2} {op : List MO → D → D → Option D} (ho : OpR X (binaryOp o) r) (lk : OpLk X.K r op) (ha : CE X W a fa) (hb : CE X W b fb) : CE X W (.BinOp a o b pos) (fOp op fa fb) :=
  PE.imp (pe_op ho ha hb) fun σ H Q h => ox_op lk h
theorem ce_cmp {o : CmpOp} {r : R2} {op : List MO → D → D → Option D} (ho : OpR X (compareOp o) r) (lk : OpLk X.K r op) (ha : CE X W a fa) (hb : CE X W b fb) (hm : behindInMarks o b = false) : CE X W (.Compare a [o] [b] pos) (fOp op fa fb) :=
  PE.imp (pe_cmpR ho ha hb hm) fun σ H Q h => ox_op lk h

/-- a value that is a truth value -/
def fTest (f : Fx D) : Fx Bool := bindF f fun d => liftF fun _ => match d with
  | .bl b => some b
  | _ => none
theorem tTest_of {f : Fx D} {σ : L2.St} {H : Hp} {Q : Bool → Hp → Prop} (h : tX X.K relB (fTest f) W σ H Q) : tX X.K (relD X.K) f W σ H fun x H' => ∃ k, x = .bl k ∧ Q k H' := by
  obtain ⟨g, env, c⟩ := h
  refine (c.bind (relB := relD X.K)).imp fun x H1 ⟨d, g1, rx, ev, c1⟩ => ?_
  obtain ⟨b, e, p⟩ := c1.lift
  cases d with
  | bl k =>
    have e' : k = b := Option.some.inj e
    subst e'
    exact ⟨k, rep_bl rx, p _ _ _ _ (Evo.refl _ _) c1.good rfl⟩
  | _ => cases e
theorem ct_cmp {o : CmpOp} {r : R2} {op : List MO → D → D → Option D} (ho : OpR X (compareOp o) r) (lk : OpLk X.K r op) (ha : CE X W a fa) (hb : CE X W b fb) (hm : behindInMarks o b = false) : CT X W (.Compare a [o] [b] pos) (fTest (fOp op fa fb)) :=
  PT.imp (pt_cmpR ho ha hb hm) fun σ H Q h => (tTest_of h).elim fun g z => by
    obtain ⟨env, c⟩ := z
    exact ox_op lk ⟨g, env, c⟩
/-- a call, a name, an attribute .. whose value is a truth value -/
theorem ct_val {e : Expr} {f : Fx D} (h : CE X W e f) (he : ∀ whole, isTrue e X.env whole = (do let v ← whole; standAt e.pos; holding [v] (truthy v)) := by intro _; rfl) : CT X W e (fTest f) :=
  PT.imp (pt_val h he) fun σ H Q h => tTest_of h
/-- truth of any value -/
def truD (S : List MO) : D → Option Bool
  | .non => some false
  | .bl b => some b
  | .int i => some (i != 0)
  | .str s => if s.length ≤ 100000 then some ((s.length : Int) != 0) else none
  | d => match viewS S d with
    | some xs => some (!xs.isEmpty)
    | none => none
theorem RepL.isEmpty {K : PySem.W.Frag} {F : Hp} {r : List Addr} {ds : List D} {vs : List V} (h : RepL K F r ds vs) : vs.isEmpty = ds.isEmpty := by
  have := h.length
  cases ds <;> cases vs <;> simp_all
theorem truD_ok {K : PySem.W.Frag} {g : G} {H : Hp} {d : D} {v : V} {k : Bool} (gd : Good K g H) (h : Rep K g.F g.r d v) (e : truD g.S d = some k) : TruV K v H k := by
  have key : ∀ {d : D} {xs : List D}, Rep K g.F g.r d v → viewS g.S d = some xs → k = !xs.isEmpty → TruV K v H k := fun {d xs} h q e => by
    obtain ⟨a, vs, rfl, h2, h3⟩ := viewS_ok gd h q
    rcases h2 with h2 | h2
    · exact Or.inl ⟨vs, h2, by rw [e, h3.isEmpty]⟩
    · exact Or.inr (Or.inl ⟨vs, h2, by rw [e, h3.isEmpty]⟩)
  cases d with
  | non => cases h; exact (Option.some.inj e).symm
  | bl b => cases h; exact (Option.some.inj e).symm
  | int i => cases h; exact (Option.some.inj e).symm
  | str s =>
    cases h
    have e' : (if s.length ≤ 100000 then some ((s.length : Int) != 0) else none) = some k := e
    split at e'
    · rename_i hz
      exact ⟨sz_of hz, (Option.some.inj e').symm⟩
    · cases e'
  | tup xs => exact key h rfl (Option.some.inj e).symm
  | lst xs => exact key h rfl (Option.some.inj e).symm
  | scr xs => exact key h rfl (Option.some.inj e).symm
  | obj n =>
    have e' : (match viewS g.S (.obj n) with | some xs => some (!xs.isEmpty) | none => none) = some k := e
    cases q : viewS g.S (.obj n) with
    | none => rw [q] at e'; cases e'
    | some xs =>
      rw [q] at e'
      exact key h q (Option.some.inj e').symm
  | _ => cases e
def fTru (f : Fx D) : Fx Bool := bindF f fun d => liftF fun S => truD S d
theorem ct_tru {e : Expr} {f : Fx D} (h : CE X W e f) (he : ∀ whole, isTrue e X.env whole = (do let v ← whole; standAt e.pos; holding [v] (truthy v)) := by intro _; rfl) : CT X W e (fTru f) :=
  PT.imp (pt_truth h he) fun σ H Q ⟨g, env, c⟩ => (c.bind (relB := relD X.K)).imp fun x H1 ⟨d, g1, rx, ev, c1⟩ => by
    obtain ⟨b, e, p⟩ := c1.lift
    exact ⟨b, truD_ok c1.good rx e, p _ _ _ _ (Evo.refl _ _) c1.good rfl⟩
def fNot (f : Fx Bool) : Fx Bool := bindF f fun b => pureF (!b)
def fAnd (f g : Fx Bool) : Fx Bool := bindF f fun b => if b then g else pureF false
def fOr (f g : Fx Bool) : Fx Bool := bindF f fun b => if b then pureF true else g
theorem Cf.tX {K : PySem.W.Frag} {α β : Type} {rel : Rl α β} {f : Fx α} {W : Wx} {σ : L2.St} {H : Hp} {Q : β → Hp → Prop} {g : G} {env : Dv} (c : Cf K rel f W σ H Q g env) : FL.tX K rel f W σ H Q := ⟨g, env, c⟩
theorem ct_not {f : Fx Bool} (h : CT X W a f) : CT X W (.UnaryOp .Not a pos) (fNot f) :=
  PT.imp (pt_not h) fun σ H Q ⟨g, env, c⟩ => (c.bind (relB := relB)).imp fun x H1 ⟨d, g1, rx, ev, c1⟩ => by
    have e : x = d := rx
    subst e
    exact c1.pure rfl
theorem tAnd_of {f1 f2 : Fx Bool} {σ : L2.St} {H : Hp} {Q : Bool → Hp → Prop} (h : FL.tX X.K relB (fAnd f1 f2) W σ H Q) : tAnd (FL.tX X.K relB f1 W) (FL.tX X.K relB f2 W) σ H Q := by
  obtain ⟨g, env, c⟩ := h
  refine (c.bind (relB := relB)).imp fun x H1 ⟨d, g1, rx, ev, c1⟩ => ?_
  have e : x = d := rx
  subst e
  cases x with
  | true => exact iteT c1.tX
  | false => exact iteF (c1.pure rfl)
theorem tOr_of {f1 f2 : Fx Bool} {σ : L2.St} {H : Hp} {Q : Bool → Hp → Prop} (h : FL.tX X.K relB (fOr f1 f2) W σ H Q) : tOr (FL.tX X.K relB f1 W) (FL.tX X.K relB f2 W) σ H Q := by
  obtain ⟨g, env, c⟩ := h
  refine (c.bind (relB := relB)).imp fun x H1 ⟨d, g1, rx, ev, c1⟩ => ?_
  have e : x = d := rx
  subst e
  cases x with
  | true => exact iteT (c1.pure rfl)
  | false => exact iteF c1.tX
theorem cw_and1 {f : Fx Bool} (h : CT X W a f) : CW X W (.BoolOp .And [a] pos) f := pw_and1 h
theorem cw_or1 {f : Fx Bool} (h : CT X W a f) : CW X W (.BoolOp .Or [a] pos) f := pw_or1 h
theorem cw_and {rest : List Expr} {f1 f2 : Fx Bool} (h : CT X W a f1) (h2 : CW X W (.BoolOp .And (b :: rest) pos) f2) : CW X W (.BoolOp .And (a :: b :: rest) pos) (fAnd f1 f2) := PW.imp (pw_and h h2) fun _ _ _ z => tAnd_of z
theorem cw_or {rest : List Expr} {f1 f2 : Fx Bool} (h : CT X W a f1) (h2 : CW X W (.BoolOp .Or (b :: rest) pos) f2) : CW X W (.BoolOp .Or (a :: b :: rest) pos) (fOr f1 f2) := PW.imp (pw_or h h2) fun _ _ _ z => tOr_of z
theorem cw_t {f : Fx Bool} (h : CW X W a f) : CT X W a f := PW.pt h
/-- and, or, not as values, all parts truth values -/
def fBl (f : Fx Bool) : Fx D := bindF f fun b => pureF (.bl b)
def fAndV (f g : Fx D) : Fx D := bindF f fun d => match d with
  | .bl true => g
  | .bl false => pureF (.bl false)
  | _ => fun _ _ => none
def fOrV (f g : Fx D) : Fx D := bindF f fun d => match d with
  | .bl true => pureF (.bl true)
  | .bl false => g
  | _ => fun _ _ => none
def fNotV (f : Fx D) : Fx D := bindF f fun d => liftF fun _ => match d with
  | .bl b => some (.bl (!b))
  | _ => none
theorem Cf.none {K : PySem.W.Frag} {α β : Type} {rel : Rl α β} {W : Wx} {σ : L2.St} {H : Hp} {Q : β → Hp → Prop} {g : G} {env : Dv} {P : Prop} (c : Cf K rel (fun _ _ => none : Fx α) W σ H Q g env) : P := by
  obtain ⟨_, _, _, _, e, _⟩ := c
  cases e
theorem ce_one {o f} (h : CE X W a f) : CE X W (.BoolOp o [a] pos) f := pe_one h
theorem ce_and {rest : List Expr} {f1 f2 : Fx D} (h : CE X W a f1) (h2 : CE X W (.BoolOp .And (b :: rest) pos) f2) : CE X W (.BoolOp .And (a :: b :: rest) pos) (fAndV f1 f2) :=
  PE.imp (pe_and h h2) fun σ H Q ⟨g, env, c⟩ => (c.bind (relB := relD X.K)).imp fun x H1 ⟨d, g1, rx, ev, c1⟩ => by
    cases d with
    | bl k =>
      refine ⟨k, rep_bl rx, ?_⟩
      cases k with
      | true => exact iteT c1.tX
      | false => exact iteF (c1.pure rfl)
    | _ => exact c1.none
theorem ce_or {rest : List Expr} {f1 f2 : Fx D} (h : CE X W a f1) (h2 : CE X W (.BoolOp .Or (b :: rest) pos) f2) : CE X W (.BoolOp .Or (a :: b :: rest) pos) (fOrV f1 f2) :=
  PE.imp (pe_or h h2) fun σ H Q ⟨g, env, c⟩ => (c.bind (relB := relD X.K)).imp fun x H1 ⟨d, g1, rx, ev, c1⟩ => by
    cases d with
    | bl k =>
      refine ⟨k, rep_bl rx, ?_⟩
      cases k with
      | true => exact iteT (c1.pure rfl)
      | false => exact iteF c1.tX
    | _ => exact c1.none
theorem ce_not {f1 : Fx D} (h : CE X W a f1) : CE X W (.UnaryOp .Not a pos) (fNotV f1) :=
  PE.imp (pe_not h) fun σ H Q ⟨g, env, c⟩ => (c.bind (relB := relD X.K)).imp fun x H1 ⟨d, g1, rx, ev, c1⟩ => by
    obtain ⟨z, e, p⟩ := c1.lift
    cases d with
    | bl k =>
      cases e
      exact ⟨k, rep_bl rx, p _ _ _ _ (Evo.refl _ _) c1.good rfl⟩
    | _ => cases e
def fIf (t : Fx Bool) (f g : Fx D) : Fx D := bindF t fun b => if b then f else g
theorem ce_if {c : Expr} {t : Fx Bool} {f1 f2 : Fx D} (hc : CT X W c t) (h1 : CE X W a f1) (h2 : CE X W b f2) : CE X W (.IfExp c a b pos) (fIf t f1 f2) :=
  PE.imp (pe_ifExp hc h1 h2) fun σ H Q ⟨g, env, c⟩ => (c.bind (relB := relB)).imp fun x H1 ⟨d, g1, rx, ev, c1⟩ => by
    have e : x = d := rx
    subst e
    cases x with
    | true => exact iteT c1.tX
    | false => exact iteF c1.tX
/-- a < b < c -/
def fChain (op op' : List MO → D → D → Option D) (fa fb fc : Fx D) : Fx D := bindF fa fun x => bindF fb fun y => bindF (liftF fun S => op S x y) fun z => match z with
  | .bl true => bindF fc fun u => liftF fun S => op' S y u
  | .bl false => pureF (.bl false)
  | _ => fun _ _ => none
theorem ce_chain {c : Expr} {fc : Fx D} {o o' : CmpOp} {r r' : R2} {op op' : List MO → D → D → Option D} (ho : OpR X (compareOp o) r) (lk : OpLk X.K r op) (ho' : OpR X (compareOp o') r') (lk' : OpLk X.K r' op') (ha : CE X W a fa) (hb : CE X W b fb) (hc : CE X W c fc)
    (hm : lastMarks [o, o'] [b, c] = false := by with_unfolding_all rfl) : CE X W (.Compare a [o, o'] [b, c] pos) (fChain op op' fa fb fc) :=
  PE.imp (pe_chain ho ho' ha hb hc hm) fun σ H Q ⟨g, env, cf⟩ => (cf.bind (relB := relD X.K)).imp fun x H1 ⟨dx, g1, rx, ev, c1⟩ => (c1.bind (relB := relD X.K)).imp fun y H2 ⟨dy, g2, ry, ev2, c2⟩ => by
    obtain ⟨z, hz, c3⟩ := c2.bindLift
    refine lk g2 H2 x y dx dy z _ c2.good (rx.mono ev2.f ev2.r) ry hz fun F' H' v e1 e2' e3 => ?_
    have c4 := c3.evo e1 e2'
    cases z with
    | bl k =>
      refine ⟨k, e3, ?_⟩
      cases k with
      | false => exact iteF (c4.pure rfl)
      | true =>
        refine iteT ?_
        refine (c4.bind (relB := relD X.K)).imp fun u H3 ⟨du, g3, ru, ev3, c5⟩ => ?_
        obtain ⟨d, e, p⟩ := c5.lift
        exact lk' g3 H3 y u dy du d Q c5.good ((ry.mono e1.f e1.r).mono ev3.f ev3.r) ru e fun F' H' v e1 e2 e3 => p F' g3.r H' v e1 e2 e3
    | _ => exact c4.none
end
end FL

namespace FL
open PySem L2

mutual
def toPy0 : D → Option PyData
  | .non => some .none
  | .bl b => some (.bool b)
  | .int i => some (.int i)
  | .str s => some (.str s)
  | .tup xs => match toPy0L xs with
    | some ps => some (.tuple ps)
    | none => none
  | .lst xs => match toPy0L xs with
    | some ps => some (.list ps)
    | none => none
  | .scr xs => match toPy0L xs with
    | some ps => some (.list ps)
    | none => none
  | _ => none
def toPy0L : List D → Option (List PyData)
  | [] => some []
  | d :: ds => match toPy0 d with
    | some p => match toPy0L ds with
      | some ps => some (p :: ps)
      | none => none
    | none => none
end
mutual
def toPy (S : List MO) : D → Option PyData
  | .non => some .none
  | .bl b => some (.bool b)
  | .int i => some (.int i)
  | .str s => some (.str s)
  | .tup xs => match toPyL S xs with
    | some ps => some (.tuple ps)
    | none => none
  | .lst xs => match toPyL S xs with
    | some ps => some (.list ps)
    | none => none
  | .scr xs => match toPyL S xs with
    | some ps => some (.list ps)
    | none => none
  | .obj n => match S[n]? with
    | some (.lst xs) => match toPy0L xs with
      | some ps => some (.list ps)
      | none => none
    | _ => none
  | _ => none
def toPyL (S : List MO) : List D → Option (List PyData)
  | [] => some []
  | d :: ds => match toPy S d with
    | some p => match toPyL S ds with
      | some ps => some (p :: ps)
      | none => none
    | none => none
end
section
variable {K : PySem.W.Frag} {g : G} {H : Hp}
mutual
theorem toPy0_ok (gd : Good K g H) : ∀ (d : D) (v : V) (p : PyData), Rep K g.F g.r d v → toPy0 d = some p → Dp K H v p
  | .non, v, p, h, e => by cases h; cases e; exact .non
  | .bl b, v, p, h, e => by cases h; cases e; exact .bl b
  | .int i, v, p, h, e => by cases h; cases e; exact .int i
  | .str s, v, p, h, e => by cases h; cases e; exact .str s
  | .tup xs, v, p, h, e => by
    obtain ⟨a, vs, rfl, h2, h3⟩ := h
    unfold toPy0 at e
    split at e
    · rename_i ps q
      cases e
      exact .tup (same_t gd.ex h2) (toPy0L_ok gd xs vs ps h3 q)
    · cases e
  | .lst xs, v, p, h, e => by
    obtain ⟨a, vs, rfl, h2, h3⟩ := h
    unfold toPy0 at e
    split at e
    · rename_i ps q
      cases e
      exact .lst (SqL.of (gd.ex _ _ h2)) (toPy0L_ok gd xs vs ps h3 q)
    · cases e
  | .scr xs, v, p, h, e => by
    obtain ⟨a, vs, rfl, h2, h3⟩ := h
    unfold toPy0 at e
    split at e
    · rename_i ps q
      cases e
      exact .lst (same_l gd.ex h2) (toPy0L_ok gd xs vs ps h3 q)
    · cases e
  | .dK _ _, v, p, h, e => by cases e
  | .dT _ _, v, p, h, e => by cases e
  | .ins _ _ _, v, p, h, e => by cases e
  | .obj _, v, p, h, e => by cases e
theorem toPy0L_ok (gd : Good K g H) : ∀ (ds : List D) (vs : List V) (ps : List PyData), RepL K g.F g.r ds vs → toPy0L ds = some ps → DpAll K H vs ps
  | [], vs, ps, h, e => by cases h; cases e; exact .nil
  | d :: ds, vs, ps, h, e => by
    obtain ⟨v, ws, rfl, h2, h3⟩ := h
    unfold toPy0L at e
    split at e
    · rename_i p q
      split at e
      · rename_i ps' q'
        cases e
        exact .cons (toPy0_ok gd d v p h2 q) (toPy0L_ok gd ds ws ps' h3 q')
      · cases e
    · cases e
end
mutual
theorem toPy_ok (gd : Good K g H) : ∀ (d : D) (v : V) (p : PyData), Rep K g.F g.r d v → toPy g.S d = some p → Dp K H v p
  | .non, v, p, h, e => by cases h; cases e; exact .non
  | .bl b, v, p, h, e => by cases h; cases e; exact .bl b
  | .int i, v, p, h, e => by cases h; cases e; exact .int i
  | .str s, v, p, h, e => by cases h; cases e; exact .str s
  | .tup xs, v, p, h, e => by
    obtain ⟨a, vs, rfl, h2, h3⟩ := h
    unfold toPy at e
    split at e
    · rename_i ps q
      cases e
      exact .tup (same_t gd.ex h2) (toPyL_ok gd xs vs ps h3 q)
    · cases e
  | .lst xs, v, p, h, e => by
    obtain ⟨a, vs, rfl, h2, h3⟩ := h
    unfold toPy at e
    split at e
    · rename_i ps q
      cases e
      exact .lst (SqL.of (gd.ex _ _ h2)) (toPyL_ok gd xs vs ps h3 q)
    · cases e
  | .scr xs, v, p, h, e => by
    obtain ⟨a, vs, rfl, h2, h3⟩ := h
    unfold toPy at e
    split at e
    · rename_i ps q
      cases e
      exact .lst (same_l gd.ex h2) (toPyL_ok gd xs vs ps h3 q)
    · cases e
  | .dK _ _, v, p, h, e => by cases e
  | .dT _ _, v, p, h, e => by cases e
  | .ins _ _ _, v, p, h, e => by cases e
  | .obj n, v, p, h, e => by
    obtain ⟨a, rfl, h2⟩ := h
    unfold toPy at e
    split at e
    · rename_i xs q
      split at e
      · rename_i ps q'
        cases e
        obtain ⟨vs, h3, h4⟩ := gd.mr n a _ h2 q
        exact .lst (SqL.of h3) (toPy0L_ok gd xs vs ps h4 q')
      · cases e
    · cases e
theorem toPyL_ok (gd : Good K g H) : ∀ (ds : List D) (vs : List V) (ps : List PyData), RepL K g.F g.r ds vs → toPyL g.S ds = some ps → DpAll K H vs ps
  | [], vs, ps, h, e => by cases h; cases e; exact .nil
  | d :: ds, vs, ps, h, e => by
    obtain ⟨v, ws, rfl, h2, h3⟩ := h
    unfold toPyL at e
    split at e
    · rename_i p q
      split at e
      · rename_i ps' q'
        cases e
        exact .cons (toPy_ok gd d v p h2 q) (toPyL_ok gd ds ws ps' h3 q')
      · cases e
    · cases e
end
end

/-- scalars: none, truth values, ints, texts; the same kind, or none on a side -/
def eqS : D → D → Option Bool
  | .non, .non => some true
  | .non, .int _ => some false | .int _, .non => some false
  | .non, .bl _ => some false | .bl _, .non => some false
  | .non, .str _ => some false | .str _, .non => some false
  | .int i, .int j => some (decide (i = j))
  | .bl i, .bl j => some (decide (i = j))
  | .str i, .str j => some (decide (i = j))
  | _, _ => none
def eqD (S : List MO) (x y : D) : Option D := match eqS x y with
  | some b => some (.bl b)
  | none => match toPy S x, toPy S y with
    | some p, some q => if SeqAt.shaped p = true ∧ SeqAt.shaped q = true then some (.bl (PyData.eqv p q)) else none
    | _, _ => none
def neD (S : List MO) (x y : D) : Option D := match eqS x y with
  | some b => some (.bl (!b))
  | none => match toPy S x, toPy S y with
    | some p, some q => if SeqAt.shaped p = true ∧ SeqAt.shaped q = true then some (.bl (!PyData.eqv p q)) else none
    | _, _ => none
def rEqA (K : PySem.W.Frag) : R2 := fun x y H Q => rEq x y H Q ∨ rEqD K x y H Q
def rNeA (K : PySem.W.Frag) : R2 := fun x y H Q => rNe x y H Q ∨ rNeD K x y H Q
theorem eqS_ok {K : PySem.W.Frag} {g : G} {dx dy : D} {x y : V} {b : Bool} (hx : Rep K g.F g.r dx x) (hy : Rep K g.F g.r dy y) (e : eqS dx dy = some b) : scal x y = true ∧ decide (x = y) = b := by
  cases dx <;> cases dy <;> first
    | cases e; done
    | (cases hx; cases hy; cases e; exact ⟨rfl, by simp⟩)
    | (cases hx; cases hy; cases e; exact ⟨rfl, rfl⟩)
theorem lk_eq {K : PySem.W.Frag} : OpLk K (rEqA K) eqD := fun g H x y dx dy d Q gd hx hy e f => by
  unfold eqD at e
  split at e
  · rename_i b q
    obtain ⟨h1, h2⟩ := eqS_ok hx hy q
    cases e
    exact .inl ⟨h1, by rw [h2]; exact f.here gd rfl⟩
  · split at e
    · rename_i p q hp hq
      split at e
      · rename_i hs
        cases e
        exact .inr ⟨p, q, toPy_ok gd _ _ _ hx hp, toPy_ok gd _ _ _ hy hq, hs.1, hs.2, f.here gd rfl⟩
      · cases e
    · cases e
theorem lk_ne {K : PySem.W.Frag} : OpLk K (rNeA K) neD := fun g H x y dx dy d Q gd hx hy e f => by
  unfold neD at e
  split at e
  · rename_i b q
    obtain ⟨h1, h2⟩ := eqS_ok hx hy q
    cases e
    exact .inl ⟨h1, by rw [h2]; exact f.here gd rfl⟩
  · split at e
    · rename_i p q hp hq
      split at e
      · rename_i hs
        cases e
        exact .inr ⟨p, q, toPy_ok gd _ _ _ hx hp, toPy_ok gd _ _ _ hy hq, hs.1, hs.2, f.here gd rfl⟩
      · cases e
    · cases e
section
variable {X : Cx}
theorem opx_eq (hu : X.A.units + 64 < cLine) : OpR X (compareOp .Eq) (rEqA X.K) := OpR.or op_eq (op_eqD hu)
theorem opx_ne (hu : X.A.units + 64 < cLine) : OpR X (compareOp .NotEq) (rNeA X.K) := OpR.or op_ne (op_neD hu)

def ltD (_ : List MO) : D → D → Option D
  | .int i, .int j => some (.bl (decide (i < j)))
  | .str i, .str j => some (.bl (decide (i.cps.toList < j.cps.toList)))
  | _, _ => none
def leD (_ : List MO) : D → D → Option D
  | .int i, .int j => some (.bl (decide (i ≤ j)))
  | .str i, .str j => some (.bl (!decide (j.cps.toList < i.cps.toList)))
  | _, _ => none
def gtD (_ : List MO) : D → D → Option D
  | .int i, .int j => some (.bl (decide (j < i)))
  | .str i, .str j => some (.bl (decide (j.cps.toList < i.cps.toList)))
  | _, _ => none
def geD (_ : List MO) : D → D → Option D
  | .int i, .int j => some (.bl (decide (j ≤ i)))
  | .str i, .str j => some (.bl (!decide (i.cps.toList < j.cps.toList)))
  | _, _ => none
def rStr (f : Str → Str → V) : R2 := fun x y H Q => ∃ i j, x = .str i ∧ y = .str j ∧ Q (f i j) H
def rIS (f : Int → Int → V) (h : Str → Str → V) : R2 := fun x y H Q => rI0 f x y H Q ∨ rStr h x y H Q
theorem lk_IS {K : PySem.W.Frag} {f : Int → Int → Bool} {h : Str → Str → Bool} {op : List MO → D → D → Option D} (h1 : ∀ S i j, op S (.int i) (.int j) = some (.bl (f i j))) (h2 : ∀ S i j, op S (.str i) (.str j) = some (.bl (h i j)))
    (h3 : ∀ S x y d, op S x y = some d → (∃ i j, x = .int i ∧ y = .int j) ∨ ∃ i j, x = .str i ∧ y = .str j) : OpLk K (rIS (fun i j => .bl (f i j)) fun i j => .bl (h i j)) op := fun g H x y dx dy d Q gd hx hy e fin => by
  rcases h3 _ _ _ _ e with ⟨i, j, rfl, rfl⟩ | ⟨i, j, rfl, rfl⟩
  · cases hx; cases hy
    rw [h1] at e
    cases e
    exact .inl ⟨i, j, rfl, rfl, fin.here gd rfl⟩
  · cases hx; cases hy
    rw [h2] at e
    cases e
    exact .inr ⟨i, j, rfl, rfl, fin.here gd rfl⟩
theorem lk_lt {K : PySem.W.Frag} : OpLk K (rIS (fun i j => .bl (decide (i < j))) fun i j => .bl (decide (i.cps.toList < j.cps.toList))) ltD := lk_IS (fun _ _ _ => rfl) (fun _ _ _ => rfl) fun S x y d e => by
  cases x <;> cases y <;> first | exact .inl ⟨_, _, rfl, rfl⟩ | exact .inr ⟨_, _, rfl, rfl⟩ | cases e
theorem lk_le {K : PySem.W.Frag} : OpLk K (rIS (fun i j => .bl (decide (i ≤ j))) fun i j => .bl (!decide (j.cps.toList < i.cps.toList))) leD := lk_IS (fun _ _ _ => rfl) (fun _ _ _ => rfl) fun S x y d e => by
  cases x <;> cases y <;> first | exact .inl ⟨_, _, rfl, rfl⟩ | exact .inr ⟨_, _, rfl, rfl⟩ | cases e
theorem lk_gt {K : PySem.W.Frag} : OpLk K (rIS (fun i j => .bl (decide (j < i))) fun i j => .bl (decide (j.cps.toList < i.cps.toList))) gtD := lk_IS (fun _ _ _ => rfl) (fun _ _ _ => rfl) fun S x y d e => by
  cases x <;> cases y <;> first | exact .inl ⟨_, _, rfl, rfl⟩ | exact .inr ⟨_, _, rfl, rfl⟩ | cases e
theorem lk_ge {K : PySem.W.Frag} : OpLk K (rIS (fun i j => .bl (decide (j ≤ i))) fun i j => .bl (!decide (i.cps.toList < j.cps.toList))) geD := lk_IS (fun _ _ _ => rfl) (fun _ _ _ => rfl) fun S x y d e => by
  cases x <;> cases y <;> first | exact .inl ⟨_, _, rfl, rfl⟩ | exact .inr ⟨_, _, rfl, rfl⟩ | cases e
theorem opx_lt : OpR X (compareOp .Lt) (rIS (fun i j => .bl (decide (i < j))) fun i j => .bl (decide (i.cps.toList < j.cps.toList))) := OpR.or op_lt op_lt_str
theorem opx_le : OpR X (compareOp .LtE) (rIS (fun i j => .bl (decide (i ≤ j))) fun i j => .bl (!decide (j.cps.toList < i.cps.toList))) := OpR.or op_le op_le_str
theorem opx_gt : OpR X (compareOp .Gt) (rIS (fun i j => .bl (decide (j < i))) fun i j => .bl (decide (j.cps.toList < i.cps.toList))) := OpR.or op_gt op_gt_str
theorem opx_ge : OpR X (compareOp .GtE) (rIS (fun i j => .bl (decide (j ≤ i))) fun i j => .bl (!decide (i.cps.toList < j.cps.toList))) := OpR.or op_ge op_ge_str

def isNon : D → Bool
  | .non => true
  | _ => false
theorem Rep.non_iff {K : PySem.W.Frag} {F : Hp} {r : List Addr} : ∀ {d : D} {v : V}, Rep K F r d v → decide (v = .non) = isNon d
  | .non, v, h => by cases h; rfl
  | .bl _, v, h => by cases h; rfl
  | .int _, v, h => by cases h; rfl
  | .str _, v, h => by cases h; rfl
  | .tup _, v, h => by obtain ⟨_, _, rfl, _⟩ := h; rfl
  | .lst _, v, h => by obtain ⟨_, _, rfl, _⟩ := h; rfl
  | .scr _, v, h => by obtain ⟨_, _, rfl, _⟩ := h; rfl
  | .dK _ _, v, h => by obtain ⟨_, _, rfl, _⟩ := h; rfl
  | .dT _ _, v, h => by obtain ⟨_, _, rfl, _⟩ := h; rfl
  | .ins _ _ _, v, h => by obtain ⟨_, _, _, rfl, _⟩ := h; rfl
  | .obj _, v, h => by obtain ⟨_, rfl, _⟩ := h; rfl
def isD (_ : List MO) : D → D → Option D
  | x, .non => some (.bl (isNon x))
  | _, _ => none
def isnD (_ : List MO) : D → D → Option D
  | x, .non => some (.bl (!isNon x))
  | _, _ => none
theorem lk_is {K : PySem.W.Frag} : OpLk K (fun x y H Q => y = .non ∧ Q (.bl (decide (x = .non))) H) isD := fun g H x y dx dy d Q gd hx hy e f => by
  cases dy with
  | non =>
    cases e
    exact ⟨hy, by rw [hx.non_iff]; exact f.here gd rfl⟩
  | _ => cases e
theorem lk_isn {K : PySem.W.Frag} : OpLk K (fun x y H Q => y = .non ∧ Q (.bl (!decide (x = .non))) H) isnD := fun g H x y dx dy d Q gd hx hy e f => by
  cases dy with
  | non =>
    cases e
    exact ⟨hy, by rw [hx.non_iff]; exact f.here gd rfl⟩
  | _ => cases e

def addD (S : List MO) : D → D → Option D
  | .int i, .int j => some (.int (i + j))
  | .str a, .str b => if a.length + b.length ≤ 100000 then some (.str (a ++ b)) else none
  | .tup xs, .tup ys => if xs.length + ys.length ≤ 100000 then some (.tup (xs ++ ys)) else none
  | x, y => match viewM S x, viewM S y with
    | some xs, some ys => if xs.length + ys.length ≤ 100000 then some (.lst (xs ++ ys)) else none
    | _, _ => none
def rAddA (K : PySem.W.Frag) : R2 := fun x y H Q => ((rI0 (fun i j => .int (i + j)) x y H Q ∨ ∃ i j, x = .str i ∧ y = .str j ∧ i.length + j.length ≤ sizeLine ∧ Q (.str (i ++ j)) H) ∨ rCat x y H Q) ∨ rCatA K x y H Q
theorem opx_add : OpR X (binaryOp .Add) (rAddA X.K) := OpR.or (OpR.or (OpR.or op_add op_add_str) op_cat) op_catA
theorem lk_add {K : PySem.W.Frag} : OpLk K (rAddA K) addD := fun g H x y dx dy d Q gd hx hy e f => by
  have lists : ∀ {xs ys : List D}, viewM g.S dx = some xs → viewM g.S dy = some ys → xs.length + ys.length ≤ 100000 → D.lst (xs ++ ys) = d → rAddA K x y H Q := fun {xs ys} q1 q2 hz ed => by
    obtain ⟨a, vs, rfl, h1, h2⟩ := viewM_ok gd hx q1
    obtain ⟨b, ws, rfl, h3, h4⟩ := viewM_ok gd hy q2
    subst ed
    exact .inl <| .inr ⟨a, b, vs, ws, rfl, rfl, h1, h3, by rw [h2.length, h4.length]; exact sz_of hz, fun p hp => f.new gd hp ⟨p, _, rfl, upd_same, (h2.append h4).mono (gd.up hp) List.prefix_rfl⟩⟩
  unfold addD at e
  split at e
  · cases hx; cases hy; cases e
    exact .inl (.inl (.inl ⟨_, _, rfl, rfl, f.here gd rfl⟩))
  · split at e
    · rename_i hz
      cases hx; cases hy; cases e
      exact .inl (.inl (.inr ⟨_, _, rfl, rfl, sz_of hz, f.here gd rfl⟩))
    · cases e
  · split at e
    · rename_i xs ys hz
      obtain ⟨a, vs, rfl, h1, h2⟩ := hx
      obtain ⟨b, ws, rfl, h3, h4⟩ := hy
      cases e
      refine .inr ⟨a, b, vs, ws, rfl, rfl, same_t gd.ex h1, same_t gd.ex h3, by rw [h2.length, h4.length]; exact sz_of hz, fun ev => ?_, fun _ ew => ?_, fun _ _ p hp => f.new gd hp ⟨p, _, rfl, SqT.of upd_same, (h2.append h4).mono (gd.up hp) List.prefix_rfl⟩⟩
      · refine f.here gd ⟨b, ws, rfl, h3, ?_⟩
        have q := h2.append h4
        rw [ev] at q
        exact q
      · refine f.here gd ⟨a, vs, rfl, h1, ?_⟩
        have q := h2.append h4
        rw [ew, List.append_nil] at q
        exact q
    · cases e
  · split at e
    · rename_i xs ys q1 q2
      split at e
      · rename_i hz
        exact lists q1 q2 hz (Option.some.inj e)
      · cases e
    · cases e
def subD (_ : List MO) : D → D → Option D
  | .int i, .int j => some (.int (i - j))
  | _, _ => none
theorem lk_sub {K : PySem.W.Frag} : OpLk K (rI0 fun i j => .int (i - j)) subD := fun g H x y dx dy d Q gd hx hy e f => by
  unfold subD at e
  split at e
  · cases hx; cases hy; cases e
    exact ⟨_, _, rfl, rfl, f.here gd rfl⟩
  · cases e
/-- one factor below 2^64; a list times an int -/
def mulD (S : List MO) : D → D → Option D
  | .int i, .int j => if (-(2 ^ 64) < i ∧ i < 2 ^ 64) ∨ (-(2 ^ 64) < j ∧ j < 2 ^ 64) then some (.int (i * j)) else none
  | x, .int k => match viewM S x with
    | some xs => if k ≤ 100000 ∧ xs.length * k.toNat ≤ 100000 ∧ -100000 ≤ k then some (.lst (List.replicate k.toNat xs).flatten) else none
    | none => none
  | _, _ => none
def rMulA : R2 := fun x y H Q => rI CMul (fun i j => .int (i * j)) x y H Q ∨ rRep x y H Q
theorem opx_mul : OpR X (binaryOp .Mult) rMulA := OpR.or op_mul op_rep
theorem RepL.rep {K : PySem.W.Frag} {F : Hp} {r : List Addr} {ds : List D} {vs : List V} (h : RepL K F r ds vs) : ∀ n : Nat, RepL K F r (List.replicate n ds).flatten (List.replicate n vs).flatten
  | 0 => rfl
  | n + 1 => by
    rw [List.replicate_succ, List.replicate_succ, List.flatten_cons, List.flatten_cons]
    exact h.append (RepL.rep h n)
theorem lk_mul {K : PySem.W.Frag} : OpLk K rMulA mulD := fun g H x y dx dy d Q gd hx hy e f => by
  unfold mulD at e
  split at e
  · split at e
    · rename_i i j hz
      cases hx; cases hy; cases e
      exact .inl ⟨_, _, rfl, rfl, hz, f.here gd rfl⟩
    · cases e
  · split at e
    · rename_i xs q
      split at e
      · rename_i k _ hz
        obtain ⟨a, vs, rfl, h1, h2⟩ := viewM_ok gd hx q
        cases hy; cases e
        refine .inr ⟨a, _, vs, rfl, rfl, h1, by omega, by omega, by rw [h2.length]; exact sz_of hz.2.1, fun p hp => f.new gd hp ⟨p, _, rfl, upd_same, (h2.rep _).mono (gd.up hp) List.prefix_rfl⟩⟩
      · cases e
    · cases e
  · cases e
/-- a positive divisor below 2^30 -/
def fdivD (_ : List MO) : D → D → Option D
  | .int i, .int j => if 0 < j ∧ j < 1073741824 then some (.int (i / j)) else none
  | _, _ => none
theorem lk_fdiv {K : PySem.W.Frag} : OpLk K (rI CDiv fun i j => .int (i / j)) fdivD := fun g H x y dx dy d Q gd hx hy e f => by
  unfold fdivD at e
  split at e
  · split at e
    · rename_i hz
      cases hx; cases hy; cases e
      exact ⟨_, _, rfl, rfl, hz, f.here gd rfl⟩
    · cases e
  · cases e
def modD (_ : List MO) : D → D → Option D
  | .int i, .int j => if 0 < j then some (.int (i % j)) else none
  | _, _ => none
theorem lk_mod {K : PySem.W.Frag} : OpLk K (rI (fun _ j => 0 < j) fun i j => .int (i % j)) modD := fun g H x y dx dy d Q gd hx hy e f => by
  unfold modD at e
  split at e
  · split at e
    · rename_i hz
      cases hx; cases hy; cases e
      exact ⟨_, _, rfl, rfl, hz, f.here gd rfl⟩
    · cases e
  · cases e
def powD (_ : List MO) : D → D → Option D
  | .int i, .int j => if 0 ≤ j ∧ j ≤ 1000 ∧ i.natAbs < 2 ^ 64 then some (.int (i ^ j.toNat)) else none
  | _, _ => none
theorem lk_pow {K : PySem.W.Frag} : OpLk K (rI CPow fun i j => .int (i ^ j.toNat)) powD := fun g H x y dx dy d Q gd hx hy e f => by
  unfold powD at e
  split at e
  · split at e
    · rename_i hz
      cases hx; cases hy; cases e
      exact ⟨_, _, rfl, rfl, ⟨hz.1, by omega, hz.2.2⟩, f.here gd rfl⟩
    · cases e
  · cases e
end
end FL

namespace FL
open PySem L2

def cutA {α : Type} (xs : List α) (lo hi : Option Int) : List α := (xs.drop (HT.sIx xs.length 0 lo)).take (HT.sIx xs.length xs.length hi - HT.sIx xs.length 0 lo)
section
variable {K : PySem.W.Frag} {F : Hp} {r : List Addr}
theorem RepL.at_ {ds : List D} {vs : List V} {i : Int} {d : D} (h : RepL K F r ds vs) (e : atI ds i = some d) : ∃ v, atI vs i = some v ∧ Rep K F r d v := by
  unfold atI at e ⊢
  rw [h.length]
  cases q : ixN ds.length i with
  | none => rw [q] at e; cases e
  | some j =>
    rw [q] at e
    exact h.get e
theorem RepL.cut {ds : List D} {vs : List V} (h : RepL K F r ds vs) (lo hi : Option Int) : RepL K F r (cutA ds lo hi) (cutV vs lo hi) := by
  unfold cutA cutV
  rw [h.length]
  exact (h.drop _).take _
end
def getD (S : List MO) (x y : D) : Option D := match x, y with
  | .str z, .int i => if z.length ≤ 100000 then (match atI z.cps.toList i with
    | some c => some (.str ⟨#[c]⟩)
    | none => none) else none
  | x, .int i => match viewS S x with
    | some xs => atI xs i
    | none => none
  | _, _ => none
theorem lk_ix {K : PySem.W.Frag} : OpLk K (rIx K) getD := fun g H x y dx dy d Q gd hx hy e f => by
  have seq : ∀ {xs : List D} {i : Int}, y = .int i → viewS g.S dx = some xs → atI xs i = some d → rIx K x y H Q := fun {xs i} ey q e => by
    obtain ⟨a, vs, rfl, h1, h2⟩ := viewS_ok gd hx q
    obtain ⟨v, h3, h4⟩ := h2.at_ e
    subst ey
    rcases h1 with h1 | h1
    · exact .inl ⟨a, vs, i, v, rfl, rfl, h1, h3, f.here gd h4⟩
    · exact .inr (.inl ⟨a, vs, i, v, rfl, rfl, h1, h3, f.here gd h4⟩)
  unfold getD at e
  split at e
  · split at e
    · rename_i z i hz
      split at e
      · rename_i c hc
        cases hx; cases hy; cases e
        exact .inr (.inr ⟨_, _, c, rfl, rfl, sz_of hz, hc, f.here gd rfl⟩)
      · cases e
    · cases e
  · split at e
    · rename_i xs q
      exact seq hy q e
    · cases e
  · cases e
section
variable {X : Cx} {W : Wx} {a b : Expr} {fa fb : Fx D} {pos p2 : Pos}
theorem ce_ix (ha : CE X W a fa) (hb : CE X W b fb) (hs : PlainIx b := by exact fun _ _ => rfl) : CE X W (.Subscript a b pos) (fOp getD fa fb) := PE.imp (pe_ix ix_seq ha hb hs) fun σ H Q h => ox_op lk_ix h
abbrev CO (X : Cx) (W : Wx) (e : Option Expr) (f : Fx (Option Int)) : Prop := PO X e (tX X.K (fun _ _ a b => b = a) f W)
theorem PO.imp {e : Option Expr} {t t' : TO} (h : PO X e t) (w : ∀ σ H Q, t' σ H Q → t σ H Q) : PO X e t' := ⟨fun pins s σ H Q I q => h.run pins s σ H Q I (w σ H Q q)⟩
theorem co_none : CO X W none (pureF none) := PO.imp po_none fun σ H Q ⟨g, env, c⟩ => c.pure rfl
def fInt (f : Fx D) : Fx (Option Int) := bindF f fun d => liftF fun _ => match d with
  | .int i => some (some i)
  | _ => none
theorem co_some {f : Fx D} (h : CE X W a f) : CO X W (some a) (fInt f) := PO.imp (po_some h) fun σ H Q ⟨g, env, c⟩ => (c.bind (relB := relD X.K)).imp fun v H1 ⟨d, g1, rv, ev, c1⟩ => by
  obtain ⟨o, e, p⟩ := c1.lift
  cases d with
  | int i =>
    cases e
    exact ⟨i, rv, p _ _ _ _ (Evo.refl _ _) c1.good rfl⟩
  | _ => cases e
def sliceD (S : List MO) (x : D) (lo hi : Option Int) : Option D := match x with
  | .str z => if z.length ≤ 100000 then some (.str (cutS z lo hi)) else none
  | .tup xs => some (.tup (cutA xs lo hi))
  | x => match viewL S x with
    | some xs => some (.lst (cutA xs lo hi))
    | none => none
def fSlice (f : Fx D) (lo hi : Fx (Option Int)) : Fx D := bindF f fun x => bindF lo fun l => bindF hi fun h => liftF fun S => sliceD S x l h
theorem cutV_whole {xs : List V} {lo hi : Option Int} (h : HT.sIx xs.length 0 lo = 0 ∧ HT.sIx xs.length xs.length hi = xs.length) : cutV xs lo hi = xs := by
  unfold cutV
  rw [h.1, h.2]
  simp
theorem ce_slice {lo hi : Option Expr} {f : Fx D} {fl fh : Fx (Option Int)} (ha : CE X W a f) (hl : CO X W lo fl) (hh : CO X W hi fh) : CE X W (.Subscript a (.Slice lo hi none p2) pos) (fSlice f fl fh) :=
  PE.imp (pe_slice ((sl_list.or sl_str).or sl_tupA) ha hl hh) fun σ H Q ⟨g, env, c⟩ => (c.bind (relB := relD X.K)).imp fun x H1 ⟨dx, g1, rx, ev, c1⟩ => (c1.bind (relB := fun _ _ a b => b = a)).imp fun l H2 ⟨dl, g2, rl, ev2, c2⟩ =>
    (c2.bind (relB := fun _ _ a b => b = a)).imp fun h H3 ⟨dh, g3, rh, ev3, c3⟩ => by
      obtain ⟨d, e, p⟩ := c3.lift
      have hx := (rx.mono ev2.f ev2.r).mono ev3.f ev3.r
      subst rl rh
      have fin : Fin1 X.K g3 H3 d Q := fun F' H' v e1 e2 e3 => p F' g3.r H' v e1 e2 e3
      have gd := c3.good
      have lst : ∀ {xs : List D}, viewL g3.S dx = some xs → D.lst (cutA xs l h) = d → rSlL X.K x l h H3 Q := fun {xs} q ed => by
        obtain ⟨a, vs, rfl, h1, h2⟩ := viewL_ok gd hx q
        subst ed
        exact ⟨a, vs, rfl, h1, fun p hp => fin.new gd hp ⟨p, _, rfl, upd_same, (h2.cut l h).mono (gd.up hp) List.prefix_rfl⟩⟩
      unfold sliceD at e
      split at e
      · split at e
        · rename_i z hz
          cases hx; cases e
          exact .inl (.inr ⟨_, rfl, sz_of hz, fin.here gd rfl⟩)
        · cases e
      · rename_i xs
        obtain ⟨a, vs, rfl, h1, h2⟩ := hx
        cases e
        refine .inr ⟨a, vs, rfl, same_t gd.ex h1, fun hw => ?_, fun _ p hp => fin.new gd hp ⟨p, _, rfl, SqT.of upd_same, (h2.cut l h).mono (gd.up hp) List.prefix_rfl⟩⟩
        have q := h2.cut l h
        rw [cutV_whole hw] at q
        exact fin.here gd ⟨a, vs, rfl, h1, q⟩
      · split at e
        · rename_i xs q
          exact .inl (.inl (lst q (Option.some.inj e)))
        · cases e
/-- xs[::-1] -/
def revD (S : List MO) (x : D) : Option D := match viewL S x with
  | some xs => some (.lst xs.reverse)
  | none => none

def CallLk (K : PySem.W.Frag) (r : List V → Hp → VK → Prop) (op : List MO → List D → Option D) : Prop :=
  ∀ (g : G) (H : Hp) (vs : List V) (ds : List D) (d : D) (Q : VK), Good K g H → RepL K g.F g.r ds vs → op g.S ds = some d → Fin1 K g H d Q → r vs H Q
def fCB (op : List MO → List D → Option D) (fs : Fx (List D)) : Fx D := bindF fs fun ds => liftF fun S => op S ds
theorem ox_cb {r : List V → Hp → VK → Prop} {op : List MO → List D → Option D} {fs : Fx (List D)} (lk : CallLk X.K r op) {σ : L2.St} {H : Hp} {Q : VK} (h : tX X.K (relD X.K) (fCB op fs) W σ H Q) : tCB r (tX X.K (relL X.K) fs W) σ H Q := by
  obtain ⟨g, env, c⟩ := h
  refine (c.bind (relB := relL X.K)).imp fun vs H1 ⟨ds, g1, rs, ev, c1⟩ => ?_
  obtain ⟨d, e, p⟩ := c1.lift
  exact lk g1 H1 vs ds d Q c1.good rs e fun F' H' v e1 e2 e3 => p F' g1.r H' v e1 e2 e3
theorem ce_cb {x : Str} {p pos : Pos} {e : Expr} {es : List Expr} {id : String} {r : List V → Hp → VK → Prop} {op : List MO → List D → Option D} {fs : Fx (List D)} (hc : CallR X (.builtin id) r) (lk : CallLk X.K r op) (hm : X.mg x = none) (hv : bootBuiltins x = some (.builtin id)) (ha : CA X W (e :: es) fs)
    (hg : Gl X x := by rfl) (hn : x ≠ "__name__" := by decide) (hdb : (x == ("__debug__" : Str)) = false := by decide) (he : starEach (e :: es) X.env = (false, eval e X.env) :: starEach es X.env := by rfl) (hpl : (backTo pos (starEach es X.env)).any (·.1) = false := by rfl) :
    CE X W (.Call (.Name x p) (e :: es) [] pos) (fCB op fs) := PE.imp (pe_callB hc hg hm hv ha hn hdb he hpl) fun σ H Q h => ox_cb lk h
theorem ce_ct {x : Str} {p pos : Pos} {e : Expr} {es : List Expr} {T : String} {r : List V → Hp → VK → Prop} {op : List MO → List D → Option D} {fs : Fx (List D)} (hc : CallR X (.type T) r) (lk : CallLk X.K r op) (hm : X.mg x = none) (hv : bootBuiltins x = some (.type T)) (ha : CA X W (e :: es) fs)
    (hg : Gl X x := by rfl) (hn : x ≠ "__name__" := by decide) (hdb : (x == ("__debug__" : Str)) = false := by decide) (he : starEach (e :: es) X.env = (false, eval e X.env) :: starEach es X.env := by rfl) (hpl : (backTo pos (starEach es X.env)).any (·.1) = false := by rfl) :
    CE X W (.Call (.Name x p) (e :: es) [] pos) (fCB op fs) := PE.imp (pe_callTy hc hg hm hv ha hn hdb he hpl) fun σ H Q h => ox_cb lk h
end
section
variable {K : PySem.W.Frag}
theorem repL1 {F : Hp} {r : List Addr} {d : D} {vs : List V} (h : RepL K F r [d] vs) : ∃ v, vs = [v] ∧ Rep K F r d v := by
  obtain ⟨v, ws, rfl, h1, h2⟩ := h
  cases h2
  exact ⟨v, rfl, h1⟩
theorem repL2 {F : Hp} {r : List Addr} {d e : D} {vs : List V} (h : RepL K F r [d, e] vs) : ∃ v w, vs = [v, w] ∧ Rep K F r d v ∧ Rep K F r e w := by
  obtain ⟨v, ws, rfl, h1, h2⟩ := h
  obtain ⟨w, rfl, h3⟩ := repL1 h2
  exact ⟨v, w, rfl, h1, h3⟩
def lenD (S : List MO) : List D → Option D
  | [.str z] => if z.length ≤ 100000 then some (.int z.length) else none
  | [d] => match viewS S d with
    | some xs => some (.int xs.length)
    | none => none
  | _ => none
def rLenA (K : PySem.W.Frag) : List V → Hp → VK → Prop := fun xs H Q => (∃ p ys, xs = [.ref p] ∧ (SqL K H p ys ∨ SqT K H p ys) ∧ Q (.int ys.length) H) ∨ ∃ z, xs = [.str z] ∧ z.length ≤ sizeLine ∧ Q (.int z.length) H
theorem CallR.or {X : Cx} {f : Value} {r r' : List V → Hp → VK → Prop} (h : CallR X f r) (h' : CallR X f r') : CallR X f (fun x H Q => r x H Q ∨ r' x H Q) := fun pins s σ H x v Q I rx q => by
  rcases q with q | q
  · exact h pins s σ H x v Q I rx q
  · exact h' pins s σ H x v Q I rx q
theorem cx_len {X : Cx} : CallR X (.builtin "len") (rLenA X.K) := CallR.or call_len_seq call_len_str
theorem lk_len : CallLk K (rLenA K) lenD := fun g H vs ds d Q gd hs e f => by
  unfold lenD at e
  split at e
  · split at e
    · rename_i z hz
      obtain ⟨v, rfl, h⟩ := repL1 hs
      cases h; cases e
      exact .inr ⟨_, rfl, sz_of hz, f.here gd rfl⟩
    · cases e
  · split at e
    · rename_i d0 _ xs q
      obtain ⟨v, rfl, h⟩ := repL1 hs
      obtain ⟨a, vs, rfl, h1, h2⟩ := viewS_ok gd h q
      cases e
      exact .inl ⟨a, vs, rfl, h1, by rw [h2.length]; exact f.here gd rfl⟩
    · cases e
  · cases e
def absD (_ : List MO) : List D → Option D
  | [.int i] => some (.int (if i < 0 then -i else i))
  | _ => none
theorem lk_abs : CallLk K (fun xs H Q => ∃ i, xs = [.int i] ∧ Q (.int (if i < 0 then -i else i)) H) absD := fun g H vs ds d Q gd hs e f => by
  unfold absD at e
  split at e
  · obtain ⟨v, rfl, h⟩ := repL1 hs
    cases h; cases e
    exact ⟨_, rfl, f.here gd rfl⟩
  · cases e
def int1D (_ : List MO) : List D → Option D
  | [.int i] => some (.int i)
  | [.bl k] => some (.int (if k then 1 else 0))
  | _ => none
theorem lk_int1 : CallLk K (fun xs H Q => (∃ i, xs = [.int i] ∧ Q (.int i) H) ∨ ∃ k, xs = [.bl k] ∧ Q (.int (if k then 1 else 0)) H) int1D := fun g H vs ds d Q gd hs e f => by
  unfold int1D at e
  split at e
  · obtain ⟨v, rfl, h⟩ := repL1 hs
    cases h; cases e
    exact .inl ⟨_, rfl, f.here gd rfl⟩
  · obtain ⟨v, rfl, h⟩ := repL1 hs
    cases h; cases e
    exact .inr ⟨_, rfl, f.here gd rfl⟩
  · cases e
def max2D (_ : List MO) : List D → Option D
  | [.int i, .int j] => some (.int (if j > i then j else i))
  | _ => none
def min2D (_ : List MO) : List D → Option D
  | [.int i, .int j] => some (.int (if j < i then j else i))
  | _ => none
theorem lk_max2 : CallLk K (fun xs H Q => ∃ i j, xs = [.int i, .int j] ∧ Q (.int (if j > i then j else i)) H) max2D := fun g H vs ds d Q gd hs e f => by
  unfold max2D at e
  split at e
  · obtain ⟨v, w, rfl, h, h'⟩ := repL2 hs
    cases h; cases h'; cases e
    exact ⟨_, _, rfl, f.here gd rfl⟩
  · cases e
theorem lk_min2 : CallLk K (fun xs H Q => ∃ i j, xs = [.int i, .int j] ∧ Q (.int (if j < i then j else i)) H) min2D := fun g H vs ds d Q gd hs e f => by
  unfold min2D at e
  split at e
  · obtain ⟨v, w, rfl, h, h'⟩ := repL2 hs
    cases h; cases h'; cases e
    exact ⟨_, _, rfl, f.here gd rfl⟩
  · cases e
def intsOf : List D → Option (List Int)
  | [] => some []
  | .int i :: r => match intsOf r with
    | some ns => some (i :: ns)
    | none => none
  | _ => none
theorem intsOf_ok {F : Hp} {r : List Addr} : ∀ {ds : List D} {vs : List V} {ns : List Int}, RepL K F r ds vs → intsOf ds = some ns → vs = ns.map V.int
  | [], vs, ns, h, e => by cases h; cases e; rfl
  | d :: ds, vs, ns, h, e => by
    obtain ⟨v, ws, rfl, h1, h2⟩ := h
    cases d with
    | int i =>
      unfold intsOf at e
      split at e
      · rename_i ms q
        cases e; cases h1
        rw [intsOf_ok h2 q]
        rfl
      · cases e
    | _ => cases e
def blsOf : List D → Option (List Bool)
  | [] => some []
  | .bl i :: r => match blsOf r with
    | some ns => some (i :: ns)
    | none => none
  | _ => none
theorem blsOf_ok {F : Hp} {r : List Addr} : ∀ {ds : List D} {vs : List V} {ns : List Bool}, RepL K F r ds vs → blsOf ds = some ns → vs = ns.map V.bl
  | [], vs, ns, h, e => by cases h; cases e; rfl
  | d :: ds, vs, ns, h, e => by
    obtain ⟨v, ws, rfl, h1, h2⟩ := h
    cases d with
    | bl i =>
      unfold blsOf at e
      split at e
      · rename_i ms q
        cases e; cases h1
        rw [blsOf_ok h2 q]
        rfl
      · cases e
    | _ => cases e
def strsOf : List D → Option (List Str)
  | [] => some []
  | .str i :: r => match strsOf r with
    | some ns => some (i :: ns)
    | none => none
  | _ => none
theorem strsOf_ok {F : Hp} {r : List Addr} : ∀ {ds : List D} {vs : List V} {ns : List Str}, RepL K F r ds vs → strsOf ds = some ns → vs = ns.map V.str
  | [], vs, ns, h, e => by cases h; cases e; rfl
  | d :: ds, vs, ns, h, e => by
    obtain ⟨v, ws, rfl, h1, h2⟩ := h
    cases d with
    | str i =>
      unfold strsOf at e
      split at e
      · rename_i ms q
        cases e; cases h1
        rw [strsOf_ok h2 q]
        rfl
      · cases e
    | _ => cases e
def sumD (S : List MO) : List D → Option D
  | [d] => match viewL S d with
    | some xs => match intsOf xs with
      | some ns => some (.int ns.sum)
      | none => none
    | none => none
  | _ => none
theorem lk_sum : CallLk K (rSum K) sumD := fun g H vs ds d Q gd hs e f => by
  unfold sumD at e
  split at e
  · split at e
    · rename_i d0 xs q
      split at e
      · rename_i ns qn
        obtain ⟨v, rfl, h⟩ := repL1 hs
        obtain ⟨a, vs, rfl, h1, h2⟩ := viewL_ok gd h q
        cases e
        rw [intsOf_ok h2 qn] at h1
        exact ⟨a, ns, rfl, h1, f.here gd rfl⟩
      · cases e
    · cases e
  · cases e
def allD (S : List MO) : List D → Option D
  | [d] => match viewL S d with
    | some xs => match blsOf xs with
      | some ns => some (.bl (ns.all id))
      | none => none
    | none => none
  | _ => none
def anyD (S : List MO) : List D → Option D
  | [d] => match viewL S d with
    | some xs => match blsOf xs with
      | some ns => some (.bl (ns.any id))
      | none => none
    | none => none
  | _ => none
theorem lk_all : CallLk K (rAll K) allD := fun g H vs ds d Q gd hs e f => by
  unfold allD at e
  split at e
  · split at e
    · rename_i d0 xs q
      split at e
      · rename_i ns qn
        obtain ⟨v, rfl, h⟩ := repL1 hs
        obtain ⟨a, vs, rfl, h1, h2⟩ := viewL_ok gd h q
        cases e
        rw [blsOf_ok h2 qn] at h1
        exact ⟨a, ns, rfl, h1, f.here gd rfl⟩
      · cases e
    · cases e
  · cases e
theorem lk_any : CallLk K (rAny K) anyD := fun g H vs ds d Q gd hs e f => by
  unfold anyD at e
  split at e
  · split at e
    · rename_i d0 xs q
      split at e
      · rename_i ns qn
        obtain ⟨v, rfl, h⟩ := repL1 hs
        obtain ⟨a, vs, rfl, h1, h2⟩ := viewL_ok gd h q
        cases e
        rw [blsOf_ok h2 qn] at h1
        exact ⟨a, ns, rfl, h1, f.here gd rfl⟩
      · cases e
    · cases e
  · cases e
def listD (S : List MO) : List D → Option D
  | [d] => match viewS S d with
    | some xs => some (.lst xs)
    | none => none
  | _ => none
theorem lk_list : CallLk K (fun xs H Q => ∃ p ys, xs = [.ref p] ∧ (SqL K H p ys ∨ SqT K H p ys) ∧ ∀ l, H l = none → Q (.ref l) (upd H l (.lst ys))) listD := fun g H vs ds d Q gd hs e f => by
  unfold listD at e
  split at e
  · split at e
    · rename_i d0 xs q
      obtain ⟨v, rfl, h⟩ := repL1 hs
      obtain ⟨a, vs, rfl, h1, h2⟩ := viewS_ok gd h q
      cases e
      exact ⟨a, vs, rfl, h1, fun p hp => f.new gd hp ⟨p, vs, rfl, upd_same, h2.mono (gd.up hp) List.prefix_rfl⟩⟩
    · cases e
  · cases e
def tupleD (S : List MO) : List D → Option D
  | [.tup xs] => some (.tup xs)
  | [d] => match viewL S d with
    | some xs => some (.tup xs)
    | none => none
  | _ => none
theorem lk_tuple : CallLk K (fun xs H Q => ∃ a ys, xs = [.ref a] ∧ ((SqL K H a ys ∧ ∀ l, H l = none → Q (.ref l) (upd H l (.tup ys))) ∨ (SqT K H a ys ∧ Q (.ref a) H))) tupleD := fun g H vs ds d Q gd hs e f => by
  unfold tupleD at e
  split at e
  · obtain ⟨v, rfl, h⟩ := repL1 hs
    cases e
    have h' := h
    obtain ⟨a, vs, rfl, h1, h2⟩ := h
    exact ⟨a, vs, rfl, .inr ⟨same_t gd.ex h1, f.here gd h'⟩⟩
  · split at e
    · rename_i d0 _ xs q
      obtain ⟨v, rfl, h⟩ := repL1 hs
      obtain ⟨a, vs, rfl, h1, h2⟩ := viewL_ok gd h q
      cases e
      exact ⟨a, vs, rfl, .inl ⟨h1, fun p hp => f.new gd hp ⟨p, vs, rfl, SqT.of upd_same, h2.mono (gd.up hp) List.prefix_rfl⟩⟩⟩
    · cases e
  · cases e
/-- str(n) -/
def strID (_ : List MO) : List D → Option D
  | [.int i] => if i.natAbs < 2 ^ 1000 then some (.str (toString i)) else none
  | _ => none
theorem log2_lt {n : Nat} (h : n < 2 ^ 1000) : n.log2 < 1920 := by
  by_cases h0 : n = 0
  · subst h0; decide
  · have := (Nat.log2_lt h0).mpr h
    omega
theorem lk_strI : CallLk K (fun xs H Q => ∃ i, xs = [.int i] ∧ i.natAbs.log2 < 1920 ∧ Q (.str (toString i)) H) strID := fun g H vs ds d Q gd hs e f => by
  unfold strID at e
  split at e
  · split at e
    · rename_i i hz
      obtain ⟨v, rfl, h⟩ := repL1 hs
      cases h; cases e
      exact ⟨_, rfl, log2_lt hz, f.here gd rfl⟩
    · cases e
  · cases e
end
section
variable {X : Cx} {W : Wx} {a : Expr} {fa : Fx D}
/-- len(set(xs)), xs a list of ints -/
def dedupI (ns : List Int) : List Int := PyProof.Rows.firstMet (fun i => ns.getD i 0) ns.length
def fLenSet (f : Fx D) : Fx D := bindF f fun d => liftF fun S => match viewL S d with
  | some xs => match intsOf xs with
    | some ns => if ns.length ≤ 4000 then some (.int (dedupI ns).length) else none
    | none => none
  | none => none
end
end FL

namespace FL
open PySem L2

/-- how a statement ends -/
inductive Fl where
  | nx | bk | ct
  | rt (d : D)
  | ex (c : Str) (p : Option (Str × D))
abbrev Sx := Dv → List MO → Option (Fl × Dv × List MO)
def EndOk (K : PySem.W.Frag) (Dn : Ends) (W : Wx) (F : Hp) (r : List Addr) (H : Hp) (env : Dv) : Fl → Prop
  | .nx => ∀ σ, EnvR W.x K F r σ env → Dn.nx σ H
  | .bk => ∀ σ, EnvR W.x K F r σ env → Dn.bk σ H
  | .ct => ∀ σ, EnvR W.x K F r σ env → Dn.ct σ H
  | .rt d => ∀ v, Rep K F r d v → Dn.rt v H
  | .ex c p => ∀ σ cls dd, EnvR W.x K F r σ env → XR K F r H c p cls dd → W.w cls dd σ H
def PostS (K : PySem.W.Frag) (g : G) (H : Hp) (Dn : Ends) (W : Wx) (fl : Fl) (env : Dv) (S' : List MO) : Prop :=
  ∀ (F' : Hp) (r' : List Addr) (H' : Hp), Evo g H ⟨F', r', S'⟩ H' → Good K ⟨F', r', S'⟩ H' → EndOk K Dn W F' r' H' env fl
def Cs (K : PySem.W.Frag) (f : Sx) (W : Wx) (Dn : Ends) (σ : L2.St) (H : Hp) (g : G) (env : Dv) : Prop :=
  Good K g H ∧ EnvR W.x K g.F g.r σ env ∧ ∃ fl env' S', f env g.S = some (fl, env', S') ∧ PostS K g H Dn W fl env' S'
def tS (K : PySem.W.Frag) (f : Sx) (W : Wx) : TS := fun Dn σ H => ∃ g env, Cs K f W Dn σ H g env
abbrev CS (X : Cx) (W : Wx) (st : Stmt) (f : Sx) : Prop := PS X st (tS X.K f W)
abbrev CSs (X : Cx) (W : Wx) (sts : List Stmt) (f : Sx) : Prop := PSs X sts (tS X.K f W)
section
variable {K : PySem.W.Frag} {W : Wx} {Dn : Ends} {σ : L2.St} {H H1 : Hp} {g g1 : G} {env : Dv} {fl : Fl} {S' : List MO}
theorem PostS.evo (e : Evo g H g1 H1) (k : Good K g1 H1) (h : PostS K g H Dn W fl env S') : PostS K g1 H1 Dn W fl env S' := fun F' r' H' ev gd => h F' r' H' (e.trans k ev) gd
theorem Cs.tS {f : Sx} (c : Cs K f W Dn σ H g env) : FL.tS K f W Dn σ H := ⟨g, env, c⟩
theorem Cs.evo {f : Sx} {F' : Hp} {r' : List Addr} {H' : Hp} (c : Cs K f W Dn σ H g env) (e : Evo g H ⟨F', r', g.S⟩ H') (k : Good K ⟨F', r', g.S⟩ H') : Cs K f W Dn σ H' ⟨F', r', g.S⟩ env := by
  obtain ⟨gd, er, fl, env', S', q, p⟩ := c
  exact ⟨k, er.mono e.f e.r, fl, env', S', q, p.evo e k⟩
/-- from a state that is reached -/
theorem mkCs {f : Sx} {σ0 : L2.St} {env0 env' : Dv} {F' : Hp} {r' : List Addr} {H' : Hp} {S1 : List MO} (p : PostS K g H Dn W fl env' S') (e : Evo g H ⟨F', r', S1⟩ H') (k : Good K ⟨F', r', S1⟩ H') (er : EnvR W.x K F' r' σ0 env0) (q : f env0 S1 = some (fl, env', S')) : Cs K f W Dn σ0 H' ⟨F', r', S1⟩ env0 :=
  ⟨k, er, fl, env', S', q, p.evo e k⟩
end
/-- an expression first -/
def bindS {α : Type} (f : Fx α) (k : α → Sx) : Sx := fun env S => match f env S with
  | some (.ok a, S1) => k a env S1
  | some (.ex c p, S1) => some (.ex c p, env, S1)
  | none => none
section
variable {K : PySem.W.Frag} {α β : Type} {rel : Rl α β} {W : Wx} {Dn : Ends} {σ : L2.St} {H : Hp} {g : G} {env : Dv}
theorem Cs.bind {fa : Fx α} {k : α → Sx} (c : Cs K (bindS fa k) W Dn σ H g env) : tX K rel fa W σ H (fun b H1 => ∃ a g1, rel g1.F g1.r a b ∧ Evo g H g1 H1 ∧ Cs K (k a) W Dn σ H1 g1 env) := by
  obtain ⟨gd, er, fl, env', S', e, p⟩ := c
  unfold bindS at e
  cases q : fa env g.S with
  | none =>
    rw [q] at e
    cases e
  | some z =>
    obtain ⟨z, S1⟩ := z
    rw [q] at e
    cases z with
    | ok a =>
      exact ⟨g, env, gd, er, .ok a, S1, q, fun F' r' H' b ev gd' rb => ⟨a, ⟨F', r', S1⟩, rb, ev, mkCs p ev gd' (er.mono ev.f ev.r) e⟩⟩
    | ex c pp =>
      have e' : (Fl.ex c pp, env, S1) = (fl, env', S') := Option.some.inj e
      cases e'
      exact ⟨g, env, gd, er, .ex c pp, _, q, fun F' r' H' cls dd ev gd' x => p F' r' H' ev gd' σ cls dd (er.mono ev.f ev.r) x⟩
end
section
variable {X : Cx} {W : Wx}
def fNx : Sx := fun env S => some (.nx, env, S)
def fBk : Sx := fun env S => some (.bk, env, S)
def fCt : Sx := fun env S => some (.ct, env, S)
theorem tS_nx {K : PySem.W.Frag} {Dn : Ends} {σ : L2.St} {H : Hp} (h : tS K fNx W Dn σ H) : Dn.nx σ H := by
  obtain ⟨g, env, gd, er, fl, env', S', e, p⟩ := h
  cases e
  exact p g.F g.r H (Evo.refl _ _) gd σ er
theorem cs_pass {pos} : CS X W (.Pass pos) fNx := PS.imp ps_pass fun D σ H h => tS_nx h
theorem cs_break {pos} : CS X W (.Break pos) fBk := PS.imp ps_break fun D σ H h => by
  obtain ⟨g, env, gd, er, fl, env', S', e, p⟩ := h
  cases e
  exact p g.F g.r H (Evo.refl _ _) gd σ er
theorem cs_cont {pos} : CS X W (.Continue pos) fCt := PS.imp ps_continue fun D σ H h => by
  obtain ⟨g, env, gd, er, fl, env', S', e, p⟩ := h
  cases e
  exact p g.F g.r H (Evo.refl _ _) gd σ er
def seqS (f h : Sx) : Sx := fun env S => match f env S with
  | some (.nx, env1, S1) => h env1 S1
  | o => o
theorem css_nil : CSs X W [] fNx := PSs.imp pss_nil fun D σ H h => tS_nx h
theorem tS_seq {K : PySem.W.Frag} {Dn : Ends} {σ : L2.St} {H : Hp} {f h : Sx} (c : tS K (seqS f h) W Dn σ H) : tSeq (tS K f W) (tS K h W) Dn σ H := by
  obtain ⟨g, env, gd, er, fl, env', S', e, p⟩ := c
  unfold seqS at e
  cases q : f env g.S with
  | none => rw [q] at e; cases e
  | some z =>
    obtain ⟨fl1, env1, S1⟩ := z
    rw [q] at e
    refine ⟨g, env, gd, er, fl1, env1, S1, q, fun F' r' H' ev gd' => ?_⟩
    cases fl1 with
    | nx => exact fun σ' er' => (mkCs p ev gd' er' e).tS
    | bk => cases e; exact p F' r' H' ev gd'
    | ct => cases e; exact p F' r' H' ev gd'
    | rt d => cases e; exact p F' r' H' ev gd'
    | ex c pp => cases e; exact p F' r' H' ev gd'
theorem css_cons {st : Stmt} {sts : List Stmt} {f h : Sx} (h1 : CS X W st f) (h2 : CSs X W sts h) : CSs X W (st :: sts) (seqS f h) := PSs.imp (pss_cons h1 h2) fun D σ H c => tS_seq c
theorem css_one {st : Stmt} {f : Sx} (h1 : CS X W st f) : CSs X W [st] f := pss_one h1
def ifS (t : Fx Bool) (f h : Sx) : Sx := bindS t fun b => if b then f else h
theorem cs_if {c : Expr} {a b : List Stmt} {t : Fx Bool} {f h : Sx} {pos} (hc : CT X W c t) (ha : CSs X W a f) (hb : CSs X W b h) : CS X W (.If c a b pos) (ifS t f h) :=
  PS.imp (ps_if hc ha hb) fun D σ H ⟨g, env, c⟩ => (c.bind (rel := relB)).imp fun x H1 ⟨d, g1, rx, ev, c1⟩ => by
    have e : x = d := rx
    subst e
    cases x with
    | true => exact iteT c1.tS
    | false => exact iteF c1.tS
def retS (f : Fx D) : Sx := bindS f fun d env S => some (.rt d, env, S)
theorem cs_ret {e : Expr} {f : Fx D} {pos} (h : CE X W e f) : CS X W (.Return (some e) pos) (retS f) :=
  PS.imp (ps_ret h) fun D σ H ⟨g, env, c⟩ => (c.bind (rel := relD X.K)).imp fun v H1 ⟨d, g1, rv, ev, gd, er, fl, env', S', q, p⟩ => by
    cases q
    exact p g1.F g1.r H1 (Evo.refl _ _) gd v rv
def retN : Sx := fun env S => some (.rt .non, env, S)
theorem cs_retN {pos} : CS X W (.Return none pos) retN := PS.imp ps_retN fun D σ H ⟨g, env, gd, er, fl, env', S', q, p⟩ => by
  cases q
  exact p g.F g.r H (Evo.refl _ _) gd .non rfl
def dropS (f : Fx D) : Sx := bindS f fun _ => fNx
theorem cs_expr {e : Expr} {f : Fx D} {pos} (h : CE X W e f) (hs : swapsWith e none pos.line X.env = pure false := by rfl) : CS X W (.Expr e pos) (dropS f) :=
  PS.imp (ps_expr h hs) fun D σ H ⟨g, env, c⟩ => (c.bind (rel := relD X.K)).imp fun v H1 ⟨d, g1, rv, ev, c1⟩ => tS_nx c1.tS

abbrev Gx := D → Dv → List MO → Option (Dv × List MO)
abbrev GxL := List D → Dv → List MO → Option (Dv × List MO)
def tGr (K : PySem.W.Frag) {α β : Type} (rel : Rl α β) (f : α → Dv → List MO → Option (Dv × List MO)) : β → L2.St → Hp → (L2.St → Hp → Prop) → Prop := fun v σ H Q =>
  ∃ (w : Gh) (g : G) (env : Dv) (d : α) (env' : Dv) (S' : List MO), Good K g H ∧ EnvR w K g.F g.r σ env ∧ rel g.F g.r d v ∧ f d env g.S = some (env', S') ∧
    ∀ (F' : Hp) (r' : List Addr) (H' : Hp) (σ' : L2.St), Evo g H ⟨F', r', S'⟩ H' → Good K ⟨F', r', S'⟩ H' → EnvR w K F' r' σ' env' → Q σ' H'
abbrev CG (X : Cx) (tg : Expr) (f : Gx) : Prop := PG X tg (tGr X.K (relD X.K) f)
abbrev CGs (X : Cx) (tgs : List Expr) (f : GxL) : Prop := PGs X tgs (tGr X.K (relL X.K) f)
theorem PG.imp {tg : Expr} {t t' : TG} (h : PG X tg t) (w : ∀ v σ H Q, t' v σ H Q → t v σ H Q) : PG X tg t' := ⟨fun pins s σ H v u Q I r q => h.run pins s σ H v u Q I r (w v σ H Q q)⟩
theorem PGs.imp {tg : List Expr} {t t' : TGs} (h : PGs X tg t) (w : ∀ v σ H Q, t' v σ H Q → t v σ H Q) : PGs X tg t' := ⟨fun pins s σ H v u Q I r q => h.run pins s σ H v u Q I r (w v σ H Q q)⟩
def gSet (i : Nat) : Gx := fun d env S => some (env.set i (some d), S)
theorem cg_name (i : Nat) {x : Str} {pos : Pos} (hN : X.N.Nodup) (hi : X.N[i]? = some x := by rfl) (hx : Loc X.env.scope x := by first | exact Or.inl rfl | exact Or.inr rfl) (hf : X.fn x = true ∨ X.env.scope.names.lookup x = some .local := by first | exact .inl rfl | exact .inr rfl) : CG X (.Name x pos) (gSet i) :=
  PG.imp (pg_name hN hi hx hf) fun v σ H Q ⟨w, g, env, d, env', S', gd, er, rv, e, p⟩ => by
    cases e
    exact p g.F g.r H _ (Evo.refl _ _) gd (er.set i rv)
def gNils : GxL := fun ds env S => match ds with
  | [] => some (env, S)
  | _ => none
def gConss (f : Gx) (h : GxL) : GxL := fun ds env S => match ds with
  | d :: r => match f d env S with
    | some (env1, S1) => h r env1 S1
    | none => none
  | [] => none
theorem cgs_nil : CGs X [] gNils := PGs.imp pgs_nil fun v σ H Q ⟨w, g, env, d, env', S', gd, er, rv, e, p⟩ => by
  cases d with
  | nil =>
    cases e; cases rv
    exact ⟨rfl, p g.F g.r H σ (Evo.refl _ _) gd er⟩
  | cons _ _ => cases e
theorem cgs_cons {e : Expr} {es : List Expr} {f : Gx} {h : GxL} (h1 : CG X e f) (h2 : CGs X es h) (hp : (assignEach (e :: es) X.env).map (·.2) = assign e X.env :: (assignEach es X.env).map (·.2) := by intros; rfl) : CGs X (e :: es) (gConss f h) :=
  PGs.imp (pgs_cons h1 h2 hp) fun v σ H Q ⟨w, g, env, d, env', S', gd, er, rv, q, p⟩ => by
    cases d with
    | nil => cases q
    | cons d ds =>
      obtain ⟨v, ws, rfl, h3, h4⟩ := rv
      unfold gConss at q
      dsimp only at q
      split at q
      · rename_i env1 S1 q1
        refine ⟨v, ws, rfl, w, g, env, d, env1, S1, gd, er, h3, q1, fun F' r' H' σ' ev gd' er' => ?_⟩
        exact ⟨w, ⟨F', r', S1⟩, env1, ds, env', S', gd', er', h4.mono ev.f ev.r, q, fun F2 r2 H2 σ2 ev2 gd2 er2 => p F2 r2 H2 σ2 (ev.trans gd' ev2) gd2 er2⟩
      · cases q
/-- (a, b, ..) = a tuple | a list -/
def gTupG (n : Nat) (h : GxL) : Gx := fun d env S => match viewT d with
  | some xs => if xs.length = n then h xs env S else none
  | none => none
def gLstG (n : Nat) (h : GxL) : Gx := fun d env S => match viewL S d with
  | some xs => if xs.length = n then h xs env S else none
  | none => none
end
theorem sFields {K : PySem.W.Frag} {F : Hp} {r : List Addr} {f : Str} : ∀ {fs : List (Str × V)} {vs : List D} {d : D}, RepL K F r vs (fs.map (·.2)) → ((fs.map (·.1)).zip vs).lookup f = some d → ∃ v, fs.lookup f = some v ∧ Rep K F r d v
  | [], vs, d, h, e => by simp at e
  | (x, v) :: fs, vs, d, h, e => by
    cases vs with
    | nil => cases h
    | cons d0 ds =>
      obtain ⟨v', ws, e1, h2, h3⟩ := h
      injection e1 with e1 e2
      have e1' : v = v' := e1
      have e2' : fs.map (·.2) = ws := e2
      subst e1' e2'
      rw [List.map_cons, List.zip_cons_cons, List.lookup_cons] at e
      rw [List.lookup_cons]
      cases q : f == x with
      | true =>
        simp only [q] at e
        cases e
        exact ⟨v, rfl, h2⟩
      | false =>
        simp only [q] at e
        exact sFields h3 e
end FL

namespace FL
open PySem L2

structure FldOk (K : PySem.W.Frag) (c f : Str) : Prop where
  cls : Cls K (He.ga K c)
  na : NoAttr K (He.ga K c) f
def insView (S : List MO) : D → Option (Str × List Str × List D)
  | .ins c ns vs => some (c, ns, vs)
  | .obj n => match S[n]? with
    | some (.ins c ns vs) => some (c, ns, vs)
    | _ => none
  | _ => none
theorem insView_ok {K : PySem.W.Frag} {g : G} {H : Hp} {d : D} {v : V} {c : Str} {ns : List Str} {ds : List D} (gd : Good K g H) (h : Rep K g.F g.r d v) (e : insView g.S d = some (c, ns, ds)) :
    ∃ a dx fs, v = .ref a ∧ H a = some (.ins (He.ga K c) dx fs) ∧ fs.map (·.1) = ns ∧ RepL K g.F g.r ds (fs.map (·.2)) := by
  cases d with
  | ins c' ns' ds' =>
    cases e
    obtain ⟨a, dx, fs, h1, h2, h3, h4⟩ := h
    exact ⟨a, dx, fs, h1, gd.ex _ _ h2, h3, h4⟩
  | obj n =>
    obtain ⟨a, h1, h2⟩ := h
    have e' : (match g.S[n]? with | some (.ins c ns vs) => some (c, ns, vs) | _ => none) = some (c, ns, ds) := e
    cases q : g.S[n]? with
    | none => rw [q] at e'; cases e'
    | some m =>
      rw [q] at e'
      cases m with
      | ins c' ns' ds' =>
        cases e'
        obtain ⟨dx, fs, h3, h4, h5⟩ := gd.mr n a _ h2 q
        exact ⟨a, dx, fs, h1, h3, h4, h5⟩
      | _ => cases e'
  | _ => cases e
def fldD (cs : List Str) (f : Str) (S : List MO) (o : D) : Option D := match insView S o with
  | some (c, ns, vs) => if c ∈ cs then (ns.zip vs).lookup f else none
  | none => none
def fFld (cs : List Str) (f : Str) (fo : Fx D) : Fx D := bindF fo fun o => liftF fun S => fldD cs f S o
section
variable {X : Cx} {W : Wx}
theorem ce_fld {e : Expr} {f : Str} {pos : Pos} {fo : Fx D} (cs : List Str) (hc : ∀ c ∈ cs, FldOk X.K c f) (he : CE X W e fo) (hb : attributeBase e f X.env (eval e X.env) = eval e X.env := by rfl) : CE X W (.Attribute e f pos) (fFld cs f fo) :=
  PE.imp (pe_fld he hb) fun σ H Q ⟨g, env, c⟩ => (c.bind (relB := relD X.K)).imp fun x H1 ⟨d, g1, rx, ev, c1⟩ => by
    obtain ⟨z, e, p⟩ := c1.lift
    unfold fldD at e
    split at e
    · rename_i c ns vs q
      split at e
      · rename_i hm
        obtain ⟨a, dx, fs, h1, h2, h3, h4⟩ := insView_ok c1.good rx q
        rw [← h3] at e
        obtain ⟨v, h5, h6⟩ := sFields h4 e
        exact ⟨a, _, dx, fs, v, h1, h2, (hc c hm).cls, (hc c hm).na, h5, p _ _ _ _ (Evo.refl _ _) c1.good h6⟩
      · cases e
    · cases e
end
def putN (f : Str) : List Str → List Str
  | [] => [f]
  | g :: r => if g = f then g :: r else g :: putN f r
def putD (f : Str) (d : D) : List Str → List D → List D
  | [], _ => [d]
  | g :: r, v :: vs => if g = f then d :: vs else v :: putD f d r vs
  | _, [] => [d]
theorem put_ok {K : PySem.W.Frag} {F : Hp} {r : List Addr} {f : Str} {d : D} {v : V} (hv : Rep K F r d v) : ∀ {fs : List (Str × V)} {ds : List D}, RepL K F r ds (fs.map (·.2)) →
    (putF f v fs).map (·.1) = putN f (fs.map (·.1)) ∧ RepL K F r (putD f d (fs.map (·.1)) ds) ((putF f v fs).map (·.2))
  | [], ds, h => ⟨rfl, RepL.cons hv RepL.nil⟩
  | (g, x) :: fs, ds, h => by
    cases ds with
    | nil => cases h
    | cons d0 ds =>
      obtain ⟨v', ws, e1, h2, h3⟩ := h
      injection e1 with e1 e2
      have e1' : x = v' := e1
      have e2' : fs.map (·.2) = ws := e2
      subst e1' e2'
      obtain ⟨i1, i2⟩ := put_ok hv h3
      by_cases q : g = f
      · have ep : putF f v ((g, x) :: fs) = (g, v) :: fs := by
          show (if g = f then (g, v) :: fs else (g, x) :: putF f v fs) = _
          rw [if_pos q]
        rw [ep]
        refine ⟨?_, ?_⟩
        · show g :: fs.map (·.1) = if g = f then g :: fs.map (·.1) else g :: putN f (fs.map (·.1))
          rw [if_pos q]
        · show RepL K F r (if g = f then d :: ds else d0 :: putD f d (fs.map (·.1)) ds) (v :: fs.map (·.2))
          rw [if_pos q]
          exact RepL.cons hv h3
      · have ep : putF f v ((g, x) :: fs) = (g, x) :: putF f v fs := by
          show (if g = f then (g, v) :: fs else (g, x) :: putF f v fs) = _
          rw [if_neg q]
        rw [ep]
        refine ⟨?_, ?_⟩
        · show g :: (putF f v fs).map (·.1) = if g = f then g :: fs.map (·.1) else g :: putN f (fs.map (·.1))
          rw [if_neg q, i1]
        · show RepL K F r (if g = f then d :: ds else d0 :: putD f d (fs.map (·.1)) ds) (x :: (putF f v fs).map (·.2))
          rw [if_neg q]
          exact RepL.cons h2 i2
/-- o.f = d: the store behind -/
def storeF (cs : List Str) (f : Str) (o d : D) (S : List MO) : Option (List MO) := match o with
  | .obj n => match S[n]? with
    | some (.ins c ns vs) => if c ∈ cs ∧ ns.length < 900 then some (S.set n (.ins c (putN f ns) (putD f d ns vs))) else none
    | _ => none
  | _ => none
theorem storeF_ok {K : PySem.W.Frag} {g : G} {H : Hp} {cs : List Str} {f : Str} {o d : D} {x y : V} {S' : List MO} (gd : Good K g H) (hc : ∀ c ∈ cs, FldOk K c f) (ho : Rep K g.F g.r o x) (hd : Rep K g.F g.r d y) (e : storeF cs f o d g.S = some S') :
    ∃ a c dx fs, x = .ref a ∧ H a = some (.ins (He.ga K c) dx fs) ∧ Cls K (He.ga K c) ∧ NoAttr K (He.ga K c) f ∧ fs.length < 1000 ∧
      Evo g H ⟨g.F, g.r, S'⟩ (upd H a (.ins (He.ga K c) dx (putF f y fs))) ∧ Good K ⟨g.F, g.r, S'⟩ (upd H a (.ins (He.ga K c) dx (putF f y fs))) := by
  unfold storeF at e
  split at e
  · rename_i n
    split at e
    · rename_i c ns vs q
      split at e
      · rename_i hm
        cases e
        obtain ⟨a, h1, h2⟩ := ho
        obtain ⟨dx, fs, h3, h4, h5⟩ := gd.mr n a _ h2 q
        obtain ⟨i1, i2⟩ := put_ok (f := f) hd h5
        rw [h4] at i1 i2
        refine ⟨a, c, dx, fs, h1, h3, (hc c hm.1).cls, (hc c hm.1).na, ?_, Evo.mut (K := K) h2, gd.mut h2 q (fun z => by cases z) ⟨dx, _, upd_same, i1, i2⟩⟩
        have : fs.length = ns.length := by rw [← h4, List.length_map]
        omega
      · cases e
    · cases e
  · cases e
/-- self.f = e -/
def fldS (cs : List Str) (f : Str) (fv fo : Fx D) : Sx := bindS fv fun d => bindS fo fun o env S => match storeF cs f o d S with
  | some S' => some (.nx, env, S')
  | none => none
section
variable {X : Cx} {W : Wx}
theorem cs_fld {o e : Expr} {f : Str} {pos pos' : Pos} {fv fo : Fx D} (cs : List Str) (hc : ∀ c ∈ cs, FldOk X.K c f) (ho : CE X W o fo) (he : CE X W e fv) (hs : swapsWith e (some (.Attribute o f pos')) pos.line X.env = pure false := by rfl) :
    CS X W (.Assign [.Attribute o f pos'] e pos) (fldS cs f fv fo) :=
  PS.imp (ps_fld ho he hs) fun D σ H ⟨g, env, c⟩ => (c.bind (rel := relD X.K)).imp fun y H1 ⟨d, g1, ry, ev, c1⟩ => (c1.bind (rel := relD X.K)).imp fun x H2 ⟨o, g2, rx, ev2, gd, er, fl, env', S', q, p⟩ => by
    dsimp only at q
    split at q
    · rename_i S1 q1
      cases q
      obtain ⟨a, c, dx, fs, h1, h2, h3, h4, h5, h6, h7⟩ := storeF_ok gd hc rx (ry.mono ev2.f ev2.r) q1
      exact ⟨a, _, dx, fs, h1, h2, h3, h4, h5, p _ _ _ h6 h7 σ (er.mono h6.f h6.r)⟩
    · cases q
/-- o.f as a target among others -/
def gFldG (cs : List Str) (f : Str) (fo : Fx D) : Gx := fun d env S => match fo env S with
  | some (.ok o, S1) => match storeF cs f o d S1 with
    | some S' => some (env, S')
    | none => none
  | _ => none
theorem pgx_fld {o : Expr} {f : Str} {pos : Pos} {to : TE} (ho : PE X o to) : PG X (.Attribute o f pos) (fun v σ H Q => to σ H fun x H2 => ∃ a C dx fs, x = .ref a ∧ H2 a = some (.ins C dx fs) ∧ Cls X.K C ∧ NoAttr X.K C f ∧ fs.length < 1000 ∧ Q σ (upd H2 a (.ins C dx (putF f v fs)))) :=
  ⟨fun pins s σ H v u Q I r h => by
    rw [assign_Attribute]
    refine wpAny_bind (wpAny_holding (thn (ho.run pins s σ H _ I h) fun ov s1 ⟨x, H1, I1, r1, a, C, dx, fs, ex, ea, cl, na, hl, q⟩ => ?_))
    subst ex
    cases r1
    refine wpAny_bind (wpAny_standAt (wpAny_bind (wpAny_holding (setattr_ok I1 ea cl na hl r fun s2 I2 => ?_))))
    exact wpAny_release ⟨σ, _, I2, q⟩⟩
theorem PE.any {α : Type} {e : Expr} {t : α → TE} (h : ∀ x, PE X e (t x)) : PE X e (fun σ H Q => ∃ x, t x σ H Q) := ⟨fun pins s σ H Q I ⟨x, q⟩ => (h x).run pins s σ H Q I q⟩
theorem cg_fld {o : Expr} {f : Str} {pos : Pos} {fo : Fx D} (cs : List Str) (hc : ∀ c ∈ cs, FldOk X.K c f) (ho : ∀ x : Gh, CE X ⟨fun _ _ _ _ => False, x⟩ o fo) : CG X (.Attribute o f pos) (gFldG cs f fo) :=
  PG.imp (pgx_fld (PE.any ho)) fun v σ H Q ⟨w, g, env, d, env', S', gd, er, rv, e, p⟩ => by
    unfold gFldG at e
    split at e
    · rename_i o' S1 q1
      split at e
      · rename_i S2 q2
        cases e
        refine ⟨w, g, env, gd, er, .ok o', S1, q1, fun F' r' H' x ev gd' rx => ?_⟩
        obtain ⟨a, c, dx, fs, h1, h2, h3, h4, h5, h6, h7⟩ := storeF_ok (K := X.K) (g := ⟨F', r', S1⟩) gd' hc rx (rv.mono ev.f ev.r) q2
        exact ⟨a, _, dx, fs, h1, h2, h3, h4, h5, p _ _ _ σ (ev.trans gd' h6) h7 ((er.mono ev.f ev.r).mono h6.f h6.r)⟩
      · cases e
    · cases e
def asgS (f : Fx D) (gx : Gx) : Sx := bindS f fun d env S => match gx d env S with
  | some (env', S') => some (.nx, env', S')
  | none => none
theorem tS_asg {K : PySem.W.Frag} {f : Fx D} {gx : Gx} {Dn : Ends} {σ : L2.St} {H : Hp} (h : tS K (asgS f gx) W Dn σ H) : tAsg (tX K (relD K) f W) (tGr K (relD K) gx) Dn σ H := by
  obtain ⟨g, env, c⟩ := h
  refine (c.bind (rel := relD K)).imp fun v H1 ⟨d, g1, rv, ev, gd, er, fl, env', S', q, p⟩ => ?_
  dsimp only at q
  split at q
  · rename_i env1 S1 q1
    cases q
    exact ⟨_, g1, env, d, _, _, gd, er, rv, q1, fun F' r' H' σ' ev' gd' er' => p F' r' H' ev' gd' σ' er'⟩
  · cases q
theorem cs_asg {tg e : Expr} {f : Fx D} {gx : Gx} {pos : Pos} (he : CE X W e f) (hg : CG X tg gx) (hs : swapsWithSole [tg] e pos.line X.env = pure false := by rfl) (hw : swappedStores [tg] e X.env = pure none := by rfl)
    (h1 : (assignEach [tg] X.env).map (·.2) = [assign tg X.env] := by rfl) : CS X W (.Assign [tg] e pos) (asgS f gx) := PS.imp (ps_asg he hg hs hw h1) fun D σ H h => tS_asg h
def parS (i j : Nat) (fs : Fx (List D)) : Sx := bindS fs fun ds env S => match ds with
  | [d, e] => some (.nx, (env.set i (some d)).set j (some e), S)
  | _ => none
theorem cs_par (i j : Nat) {x y : Str} {a b : Expr} {fs : Fx (List D)} {px py pt pos : Pos} {kt k2 pt2} (hc : X.calm = true) (hN : X.N.Nodup) (ha : CA X W [a, b] fs)
    (hw : swappedStores [.Tuple [.Name x px, .Name y py] kt pt] (.Tuple [a, b] k2 pt2) X.env = pure (some [x, y]) := by rfl) (hi : X.N[i]? = some x := by rfl) (hj : X.N[j]? = some y := by rfl) (hij : i ≠ j := by decide)
    (hx : X.env.scope.names.lookup x = some .local := by rfl) (hy : X.env.scope.names.lookup y = some .local := by rfl)
    (hs : swapsWithSole [.Tuple [.Name x px, .Name y py] kt pt] (.Tuple [a, b] k2 pt2) pos.line X.env = pure false := by rfl) :
    CS X W (.Assign [.Tuple [.Name x px, .Name y py] kt pt] (.Tuple [a, b] k2 pt2) pos) (parS i j fs) :=
  PS.imp (ps_par hc hN hi hj hij hx hy ha hw hs) fun D σ H ⟨g, env, c⟩ => (c.bind (rel := relL X.K)).imp fun vs H1 ⟨ds, g1, rv, ev, gd, er, fl, env', S', q, p⟩ => by
    dsimp only at q
    split at q
    · rename_i d e
      cases q
      obtain ⟨v, w, rfl, h1, h2⟩ := repL2 rv
      exact ⟨v, w, rfl, p g1.F g1.r H1 (Evo.refl _ _) gd _ ((er.set i h1).set j h2)⟩
    · cases q
theorem cg_tup {es : List Expr} {k : Nat} {h : GxL} {pos : Pos} {n : Nat} (hc : X.calm = true) (hg : CGs X es h) (hn : (assignEach es X.env).length = n := by rfl) (hst : (assignEach es X.env).findIdx? (·.1) = none := by rfl) : CG X (.Tuple es k pos) (gTupG n h) :=
  PG.imp (pg_tup hc hg hn hst) fun v σ H Q ⟨w, g, env, d, env', S', gd, er, rv, e, p⟩ => by
    unfold gTupG at e
    split at e
    · rename_i xs q
      split at e
      · rename_i hl
        obtain ⟨a, vs, h1, h2, h3⟩ := viewT_ok gd rv q
        exact ⟨a, vs, h1, h2, by rw [h3.length]; exact hl, w, g, env, xs, env', S', gd, er, h3, e, p⟩
      · cases e
    · cases e
theorem cg_lst {es : List Expr} {k : Nat} {h : GxL} {pos : Pos} {n : Nat} (hc : X.calm = true) (hg : CGs X es h) (hn : (assignEach es X.env).length = n := by rfl) (hst : (assignEach es X.env).findIdx? (·.1) = none := by rfl) : CG X (.Tuple es k pos) (gLstG n h) :=
  PG.imp (pg_unl hc hg hn hst) fun v σ H Q ⟨w, g, env, d, env', S', gd, er, rv, e, p⟩ => by
    unfold gLstG at e
    split at e
    · rename_i xs q
      split at e
      · rename_i hl
        obtain ⟨a, vs, h1, h2, h3⟩ := viewL_ok gd rv q
        exact ⟨a, vs, h1, h2, by rw [h3.length]; exact hl, w, g, env, xs, env', S', gd, er, h3, e, p⟩
      · cases e
    · cases e
/-- xs[i] = .., xs an object -/
def setD (o i d : D) (S : List MO) : Option (List MO) := match o, i with
  | .obj n, .int k => match S[n]? with
    | some (.lst xs) => match ixN xs.length k with
      | some j => some (S.set n (.lst (xs.set j d)))
      | none => none
    | _ => none
  | _, _ => none
def gSubG (fo fi : Fx D) : Gx := fun d env S => match fo env S with
  | some (.ok o, S1) => match fi env S1 with
    | some (.ok i, S2) => match setD o i d S2 with
      | some S' => some (env, S')
      | none => none
    | _ => none
  | _ => none
theorem cg_sub {o i : Expr} {fo fi : Fx D} {pos : Pos} (ho : ∀ x : Gh, CE X ⟨fun _ _ _ _ => False, x⟩ o fo) (hi : ∀ x : Gh, CE X ⟨fun _ _ _ _ => False, x⟩ i fi)
    (ha : ∀ v, assign (.Subscript o i pos) X.env v = (do
      let ov ← holding [v] (eval o X.env)
      let iv ← holding [v, ov] (eval i X.env)
      standAt pos
      holding [v, ov, iv] (setItem ov iv v)
      release [v, ov, iv] []) := by intro _; rfl) : CG X (.Subscript o i pos) (gSubG fo fi) :=
  PG.imp (pg_sub (PE.any ho) (PE.any hi) set_list ha) fun v σ H Q ⟨w, g, env, d, env', S', gd, er, rv, e, p⟩ => by
    unfold gSubG at e
    split at e
    · rename_i o' S1 q1
      split at e
      · rename_i i' S2 q2
        split at e
        · rename_i S3 q3
          cases e
          refine ⟨w, g, env, gd, er, .ok o', S1, q1, fun F1 r1 H1 x ev gd1 rx => ⟨w, ⟨F1, r1, S1⟩, env, gd1, er.mono ev.f ev.r, .ok i', S2, q2, fun F2 r2 H2 y ev2 gd2 ry => ?_⟩⟩
          unfold setD at q3
          split at q3
          · rename_i n k
            split at q3
            · rename_i xs q4
              split at q3
              · rename_i j q5
                cases q3; cases ry
                have rx2 := rx.mono ev2.f ev2.r
                obtain ⟨a, h1, h2⟩ := rx2
                obtain ⟨vs, h3, h4⟩ := gd2.mr n a _ h2 q4
                have em := Evo.mut (K := X.K) (g := ⟨F2, r2, S2⟩) (H := H2) (o := .lst (vs.set j v)) (m := .lst (xs.set j d)) h2
                have ev3 := ev.trans gd1 ev2
                refine ⟨a, vs, k, j, h1, rfl, h3, by rw [h4.length]; exact q5, p F2 r2 _ σ (ev3.trans gd2 em) (gd2.mut h2 q4 (fun z => by cases z) ⟨_, upd_same, h4.set j (rv.mono ev3.f ev3.r)⟩) (er.mono ev3.f ev3.r)⟩
              · cases q3
            · cases q3
          · cases q3
        · cases e
      · cases e
    · cases e

def MtLk (K : PySem.W.Frag) (r : V → List V → Hp → VK → Prop) (op : List D → List D → Option (List D × D)) : Prop :=
  ∀ (F : Hp) (rr : List Addr) (H : Hp) (a : Addr) (vs ws : List V) (xs ds xs' : List D) (d : D) (Q : VK), H a = some (.lst vs) → RepL K F rr xs vs → RepL K F rr ds ws → op xs ds = some (xs', d) →
    (∀ vs' v, RepL K F rr xs' vs' → Rep K F rr d v → Q v (upd H a (.lst vs'))) → r (.ref a) ws H Q
def mtD (op : List D → List D → Option (List D × D)) (o : D) (ds : List D) (S : List MO) : Option (R D × List MO) := match o with
  | .obj n => match S[n]? with
    | some (.lst xs) => match op xs ds with
      | some (xs', d) => some (.ok d, S.set n (.lst xs'))
      | none => none
    | _ => none
  | _ => none
def fMt (op : List D → List D → Option (List D × D)) (fo : Fx D) (fs : Fx (List D)) : Fx D := bindF fo fun o => bindF (liftF fun S => viewL S o) fun _ => bindF fs fun ds _ S => mtD op o ds S
def fMt0 (op : List D → List D → Option (List D × D)) (fo : Fx D) : Fx D := bindF fo fun o _ S => mtD op o [] S
theorem mtD_ok {K : PySem.W.Frag} {g : G} {H : Hp} {r : V → List V → Hp → VK → Prop} {op : List D → List D → Option (List D × D)} {o : D} {ds : List D} {x : V} {ws : List V} {R' : R D} {S' : List MO} {E : XK} {Q : VK} (lk : MtLk K r op) (gd : Good K g H) (ho : Rep K g.F g.r o x) (hd : RepL K g.F g.r ds ws)
    (e : mtD op o ds g.S = some (R', S')) (p : PostX K (relD K) g H Q E R' S') : tyV K "list" x H ∧ r x ws H Q := by
  unfold mtD at e
  split at e
  · rename_i n
    split at e
    · rename_i xs q
      split at e
      · rename_i xs' d q2
        cases e
        obtain ⟨a, rfl, h2⟩ := ho
        obtain ⟨vs, h3, h4⟩ := gd.mr n a _ h2 q
        refine ⟨Or.inl ⟨rfl, _, SqL.of h3⟩, lk g.F g.r H a vs ws xs ds xs' d Q h3 h4 hd q2 fun vs' v h5 h6 => ?_⟩
        exact p g.F g.r _ v (Evo.mut (K := K) h2) (gd.mut h2 q (fun z => by cases z) ⟨vs', upd_same, h5⟩) h6
      · cases e
    · cases e
  · cases e
theorem ce_mt {o e : Expr} {es : List Expr} {name : Str} {id : String} {r : V → List V → Hp → VK → Prop} {op : List D → List D → Option (List D × D)} {fo : Fx D} {fs : Fx (List D)} {apos cpos : Pos} (slot : Slot "list" name id) (hty : typeOf (.builtin id) = pure (.type "method_descriptor")) (hm : MtR X id r) (lk : MtLk X.K r op)
    (ho : CE X W o fo) (ha : CA X W (e :: es) fs)
    (hbase : attributeBase o name X.env (eval o X.env) = eval o X.env := by rfl)
    (hfew : ((backTo cpos (starEach (e :: es) X.env)).all (fun x => !x.1) && (backToKw cpos (keywordEach [] X.env)).all (fun x => x.1.isSome)
      && decide ((e :: es).length + ([] : List Keyword).length + (if ([] : List Keyword).isEmpty then 0 else 1) < 30)) = true := by rfl)
    (hline : (apos.endLine == cpos.line) = true := by rfl) (hs : starEach (e :: es) X.env = (false, eval e X.env) :: starEach es X.env := by rfl) (hplain : (backTo cpos (starEach es X.env)).any (·.1) = false := by rfl) :
    CE X W (.Call (.Attribute o name apos) (e :: es) [] cpos) (fMt op fo fs) :=
  PE.imp (pe_bm PySem.F.plainAttrs_list slot hty hm ho ha hbase hfew hline hs hplain) fun σ H Q ⟨g, env, c⟩ => (c.bind (relB := relD X.K)).imp fun x H1 ⟨d, g1, rx, ev, c1⟩ => by
    obtain ⟨xs, q1, c2⟩ := c1.bindLift
    obtain ⟨a, vs, h1, h2, h3⟩ := viewL_ok c1.good rx q1
    refine ⟨by rw [h1]; exact Or.inl ⟨rfl, _, h2⟩, ?_⟩
    refine (c2.bind (relB := relL X.K)).imp fun ws H2 ⟨ds, g2, rs, ev2, gd2, er2, R', S', q, p⟩ => ?_
    exact (mtD_ok lk gd2 (rx.mono ev2.f ev2.r) rs q p).2
theorem ce_mt0 {o : Expr} {name : Str} {id : String} {r : V → List V → Hp → VK → Prop} {op : List D → List D → Option (List D × D)} {fo : Fx D} {apos cpos : Pos} (slot : Slot "list" name id) (hty : typeOf (.builtin id) = pure (.type "method_descriptor")) (hm : MtR X id r) (lk : MtLk X.K r op)
    (ho : CE X W o fo) (hbase : attributeBase o name X.env (eval o X.env) = eval o X.env := by rfl) (hline : (apos.endLine == cpos.line) = true := by rfl) :
    CE X W (.Call (.Attribute o name apos) [] [] cpos) (fMt0 op fo) :=
  PE.imp (pe_bm0 PySem.F.plainAttrs_list slot hty hm ho hbase hline) fun σ H Q ⟨g, env, c⟩ => (c.bind (relB := relD X.K)).imp fun x H1 ⟨d, g1, rx, ev, gd2, er2, R', S', q, p⟩ => mtD_ok lk gd2 rx RepL.nil q p
def appO (xs : List D) : List D → Option (List D × D)
  | [d] => if xs.length < 100000 then some (xs ++ [d], .non) else none
  | _ => none
theorem lk_app {K : PySem.W.Frag} : MtLk K rAppend appO := fun F rr H a vs ws xs ds xs' d Q h h1 h2 e k => by
  unfold appO at e
  split at e
  · split at e
    · rename_i hz
      cases e
      obtain ⟨w, rfl, h3⟩ := repL1 h2
      exact ⟨a, vs, w, rfl, rfl, h, by rw [h1.length]; exact sz_lt hz, k _ _ (h1.append (RepL.cons h3 RepL.nil)) rfl⟩
    · cases e
  · cases e
def revO (xs : List D) : List D → Option (List D × D)
  | [] => some (xs.reverse, .non)
  | _ => none
theorem lk_rev {K : PySem.W.Frag} : MtLk K rReverse revO := fun F rr H a vs ws xs ds xs' d Q h h1 h2 e k => by
  unfold revO at e
  split at e
  · cases e; cases h2
    exact ⟨a, vs, rfl, rfl, h, k _ _ h1.reverse rfl⟩
  · cases e
def clearO (xs : List D) : List D → Option (List D × D)
  | [] => some ([], .non)
  | _ => none
theorem lk_clear {K : PySem.W.Frag} : MtLk K rClear clearO := fun F rr H a vs ws xs ds xs' d Q h h1 h2 e k => by
  unfold clearO at e
  split at e
  · cases e; cases h2
    exact ⟨a, vs, rfl, rfl, h, k _ _ RepL.nil rfl⟩
  · cases e
def popO (xs : List D) : List D → Option (List D × D)
  | [.int i] => if -100000 ≤ i ∧ i ≤ 100000 then (match seqIndex? i xs.length with
    | some k => match xs[k]? with
      | some y => some (xs.eraseIdx k, y)
      | none => none
    | none => none) else none
  | _ => none
theorem lk_pop {K : PySem.W.Frag} : MtLk K rPopAt popO := fun F rr H a vs ws xs ds xs' d Q h h1 h2 e k => by
  unfold popO at e
  split at e
  · split at e
    · rename_i i hz
      split at e
      · rename_i j q
        split at e
        · rename_i y q2
          cases e
          obtain ⟨w, rfl, h3⟩ := repL1 h2
          cases h3
          obtain ⟨v, h4, h5⟩ := h1.get q2
          exact ⟨a, vs, i, j, v, rfl, rfl, h, by omega, by omega, by rw [h1.length]; exact q, h4, k _ _ (h1.eraseIdx j) h5⟩
        · cases e
      · cases e
    · cases e
  · cases e
end
end FL

namespace FL
open PySem L2

/-- an iterator that yields these data, while what is frozen stands -/
def relW (K : PySem.W.Frag) : Rl (List D) It := fun F r xs J =>
  (∀ i H, Same F H → i < xs.length → J.go i H) ∧ (∀ i H, Same F H → xs.length ≤ i → J.stop i H) ∧
    ∀ (g : G) (H : Hp) (i : Nat) (x : V) (H' : Hp) (d : D), Good K g H → Same F g.F → r <+: g.r → J.yld i H x H' → xs[i]? = some d → ∃ F', Evo g H ⟨F', g.r, g.S⟩ H' ∧ Good K ⟨F', g.r, g.S⟩ H' ∧ Rep K F' g.r d x
abbrev CI (X : Cx) (W : Wx) (tg e : Expr) (f : Fx (List D)) : Prop := PI X tg e (tX X.K (relW X.K) f W)
theorem PI.imp {X : Cx} {tg e : Expr} {t t' : TI} (h : PI X tg e t) (w : ∀ σ H Q, t' σ H Q → t σ H Q) : PI X tg e t' := ⟨fun pins s σ H R I q => h.run pins s σ H R I (w σ H R q)⟩
section
variable {X : Cx} {W : Wx} {tg e : Expr} {f : Fx D}
/-- a tuple -/
def fItT (f : Fx D) : Fx (List D) := bindF f fun d => liftF fun _ => viewT d
theorem ci_tup (h : CE X W e f) : CI X W tg e (fItT f) := PI.imp (pi_tup h) fun σ H Q ⟨g, env, c⟩ => (c.bind (relB := relD X.K)).imp fun v H1 ⟨d, g1, rv, ev, c1⟩ => by
  obtain ⟨xs, e, p⟩ := c1.lift
  cases d with
  | tup ys =>
    cases e
    obtain ⟨a, vs, rfl, h1, h2⟩ := rv
    refine ⟨a, rfl, ⟨vs, same_t c1.good.ex h1⟩, p _ _ _ _ (Evo.refl _ _) c1.good ⟨fun i H' sm hi => ?_, fun i H' sm hi => ⟨vs, same_t sm h1, by rw [h2.length]; exact hi⟩, fun g2 H2 i x H' d gd2 sm pr y q => ?_⟩⟩
    · obtain ⟨v, q, _⟩ := h2.get (List.getElem?_eq_getElem hi)
      exact ⟨vs, v, same_t sm h1, q⟩
    · obtain ⟨rfl, y2⟩ := y
      have q2 := y2 vs (same_t (sm.trans gd2.ex) h1)
      obtain ⟨d', q3, rd⟩ := h2.getV q2
      rw [q] at q3
      cases q3
      exact ⟨g2.F, Evo.refl _ _, gd2, rd.mono sm pr⟩
  | _ => cases e
/-- a list that is plain data -/
def fItL (f : Fx D) : Fx (List D) := bindF f fun d => liftF fun _ => match d with
  | .lst xs => some xs
  | .scr xs => some xs
  | _ => none
theorem ci_lst (h : CE X W e f) : CI X W tg e (fItL f) := PI.imp (pi_list h) fun σ H Q ⟨g, env, c⟩ => (c.bind (relB := relD X.K)).imp fun v H1 ⟨d, g1, rv, ev, c1⟩ => by
  obtain ⟨xs, e, p⟩ := c1.lift
  have key : ∃ a vs, v = .ref a ∧ SqL X.K g1.F a vs ∧ RepL X.K g1.F g1.r xs vs := by
    cases d with
    | lst ys => cases e; obtain ⟨a, vs, h1, h2, h3⟩ := rv; exact ⟨a, vs, h1, SqL.of h2, h3⟩
    | scr ys => cases e; exact rv
    | _ => cases e
  obtain ⟨a, vs, rfl, h1, h2⟩ := key
  refine ⟨a, rfl, ⟨vs, same_l c1.good.ex h1⟩, p _ _ _ _ (Evo.refl _ _) c1.good ⟨fun i H' sm hi => ?_, fun i H' sm hi => ⟨vs, same_l sm h1, by rw [h2.length]; exact hi⟩, fun g2 H2 i x H' d gd2 sm pr y q => ?_⟩⟩
  · obtain ⟨v, q, _⟩ := h2.get (List.getElem?_eq_getElem hi)
    exact ⟨vs, v, same_l sm h1, q⟩
  · obtain ⟨rfl, y2⟩ := y
    have q2 := y2 vs (same_l (sm.trans gd2.ex) h1)
    obtain ⟨d', q3, rd⟩ := h2.getV q2
    rw [q] at q3
    cases q3
    exact ⟨g2.F, Evo.refl _ _, gd2, rd.mono sm pr⟩
def rngD (lo : Int) (n : Nat) : List D := (List.range n).map fun k => .int (lo + (k : Nat))
theorem rngD_len (lo : Int) (n : Nat) : (rngD lo n).length = n := by simp [rngD]
theorem relW_rng {K : PySem.W.Frag} {F : Hp} {r : List Addr} (lo : Int) (n : Nat) : relW K F r (rngD lo n) (Itr lo n) := by
  refine ⟨fun i H' _ hi => by rw [rngD_len] at hi; exact hi, fun i H' _ hi => by rw [rngD_len] at hi; exact hi, fun g2 H2 i x H' d gd2 sm pr y q => ?_⟩
  obtain ⟨rfl, rfl⟩ := y
  refine ⟨g2.F, Evo.refl _ _, gd2, ?_⟩
  unfold rngD at q
  rw [List.getElem?_map] at q
  by_cases hi : i < n
  · rw [List.getElem?_range hi] at q
    cases q
    exact rfl
  · rw [List.getElem?_eq_none (by simpa using hi)] at q
    cases q
def fRng1 (fs : Fx (List D)) : Fx (List D) := bindF fs fun ds => liftF fun _ => match ds with
  | [.int j] => if -100000 ≤ j ∧ j ≤ 100000 then some (rngD 0 j.toNat) else none
  | _ => none
def fRng2 (fs : Fx (List D)) : Fx (List D) := bindF fs fun ds => liftF fun _ => match ds with
  | [.int i, .int j] => if -100000 ≤ i ∧ i ≤ 100000 ∧ -100000 ≤ j ∧ j ≤ 100000 then some (rngD i (j - i).toNat) else none
  | _ => none
theorem ci_rng1 {a : Expr} {fs : Fx (List D)} {p pos : Pos} (hm : X.mg "range" = none) (ha : CA X W [a] fs) (hg : Gl X "range" := by rfl) (hs : starEach [a] X.env = [(false, eval a X.env)] := by rfl) : CI X W tg (.Call (.Name "range" p) [a] [] pos) (fRng1 fs) :=
  PI.imp (pi_range1 hg hm ha hs) fun σ H Q ⟨g, env, c⟩ => (c.bind (relB := relL X.K)).imp fun vs H1 ⟨ds, g1, rv, ev, c1⟩ => by
    obtain ⟨xs, e, p⟩ := c1.lift
    split at e
    · split at e
      · rename_i j hz
        cases e
        obtain ⟨v, rfl, h⟩ := repL1 rv
        cases h
        exact ⟨j, rfl, by omega, by omega, p _ _ _ _ (Evo.refl _ _) c1.good (relW_rng _ _)⟩
      · cases e
    · cases e
theorem ci_rng2 {a b : Expr} {fs : Fx (List D)} {p pos : Pos} (hm : X.mg "range" = none) (ha : CA X W [a, b] fs) (hg : Gl X "range" := by rfl) (hs : starEach [a, b] X.env = [(false, eval a X.env), (false, eval b X.env)] := by rfl) (hs2 : starEach [b] X.env = [(false, eval b X.env)] := by rfl) :
    CI X W tg (.Call (.Name "range" p) [a, b] [] pos) (fRng2 fs) :=
  PI.imp (pi_range2 hg hm ha hs hs2) fun σ H Q ⟨g, env, c⟩ => (c.bind (relB := relL X.K)).imp fun vs H1 ⟨ds, g1, rv, ev, c1⟩ => by
    obtain ⟨xs, e, p⟩ := c1.lift
    split at e
    · split at e
      · rename_i i j hz
        cases e
        obtain ⟨v, w, rfl, h, h'⟩ := repL2 rv
        cases h; cases h'
        exact ⟨i, j, rfl, by omega, p _ _ _ _ (Evo.refl _ _) c1.good (relW_rng _ _)⟩
      · cases e
    · cases e
/-- a text, sign by sign -/
def signsD (z : Str) : List D := z.cps.toList.map fun c => .str ⟨#[c]⟩
def fItS (f : Fx D) : Fx (List D) := bindF f fun d => liftF fun _ => match d with
  | .str z => some (signsD z)
  | _ => none
theorem ci_str (h : CE X W e f) : CI X W tg e (fItS f) := PI.imp (pi_str h) fun σ H Q ⟨g, env, c⟩ => (c.bind (relB := relD X.K)).imp fun v H1 ⟨d, g1, rv, ev, c1⟩ => by
  obtain ⟨xs, e, p⟩ := c1.lift
  cases d with
  | str z =>
    cases e
    have hl : (signsD z).length = z.cps.size := by simp [signsD]
    refine ⟨z, rv, p _ _ _ _ (Evo.refl _ _) c1.good ⟨fun i H' _ hi => by rw [hl] at hi; exact hi, fun i H' _ hi => by rw [hl] at hi; exact hi, fun g2 H2 i x H' d gd2 sm pr y q => ?_⟩⟩
    obtain ⟨rfl, c, q2, rfl⟩ := y
    refine ⟨g2.F, Evo.refl _ _, gd2, ?_⟩
    unfold signsD at q
    rw [List.getElem?_map, Array.getElem?_toList, q2] at q
    cases q
    exact rfl
  | _ => cases e
end

def loopS (gx : Gx) (body : Sx) : List D → Sx
  | [] => fNx
  | d :: ds => fun env S => match gx d env S with
    | some (env1, S1) => match body env1 S1 with
      | some (.nx, env2, S2) => loopS gx body ds env2 S2
      | some (.ct, env2, S2) => loopS gx body ds env2 S2
      | some (.bk, env2, S2) => some (.nx, env2, S2)
      | some (.rt v, env2, S2) => some (.rt v, env2, S2)
      | _ => none
    | none => none
def forS (f : Fx (List D)) (gx : Gx) (body : Sx) : Sx := bindS f fun xs => loopS gx body xs
theorem Good.same {K : PySem.W.Frag} {g : G} {H : Hp} (gd : Good K g H) : Same g.F H := gd.ex
/-- one turn -/
theorem loop_turn {K : PySem.W.Frag} {gx : Gx} {body : Sx} {rest : Sx} {W : Wx} {Dn : Ends} {σ : L2.St} {H : Hp} {g : G} {env : Dv} {fl : Fl} {env' : Dv} {S' : List MO} {d : D} {x : V} {N : L2.St → Hp → Prop} (gd : Good K g H) (er : EnvR W.x K g.F g.r σ env) (rd : Rep K g.F g.r d x) (p : PostS K g H Dn W fl env' S')
    (e : (match gx d env g.S with
      | some (env1, S1) => match body env1 S1 with
        | some (.nx, env2, S2) => rest env2 S2
        | some (.ct, env2, S2) => rest env2 S2
        | some (.bk, env2, S2) => some (.nx, env2, S2)
        | some (.rt v, env2, S2) => some (.rt v, env2, S2)
        | _ => none
      | none => none) = some (fl, env', S'))
    (hN : ∀ (σ' : L2.St) (H' : Hp) (g' : G) (env1 : Dv), Evo g H g' H' → Cs K rest W Dn σ' H' g' env1 → N σ' H') :
    tGr K (relD K) gx x σ H fun σ2 H2 => tS K body W { Dn with nx := N, ct := N, bk := Dn.nx } σ2 H2 := by
  split at e
  · rename_i env1 S1 q1
    refine ⟨_, g, env, d, _, _, gd, er, rd, q1, fun F1 r1 H1 σ1 ev1 gd1 er1 => ?_⟩
    split at e
    · rename_i env2 S2 q2
      exact ⟨⟨F1, r1, _⟩, _, gd1, er1, .nx, env2, S2, q2, fun F2 r2 H2 ev2 gd2 σ2 er2 => hN σ2 H2 ⟨F2, r2, S2⟩ env2 (ev1.trans gd1 ev2) (mkCs p (ev1.trans gd1 ev2) gd2 er2 e)⟩
    · rename_i env2 S2 q2
      exact ⟨⟨F1, r1, _⟩, _, gd1, er1, .ct, env2, S2, q2, fun F2 r2 H2 ev2 gd2 σ2 er2 => hN σ2 H2 ⟨F2, r2, S2⟩ env2 (ev1.trans gd1 ev2) (mkCs p (ev1.trans gd1 ev2) gd2 er2 e)⟩
    · rename_i env2 S2 q2
      cases e
      exact ⟨⟨F1, r1, _⟩, _, gd1, er1, .bk, _, _, q2, fun F2 r2 H2 ev2 gd2 σ2 er2 => p F2 r2 H2 (ev1.trans gd1 ev2) gd2 σ2 er2⟩
    · rename_i v env2 S2 q2
      cases e
      exact ⟨⟨F1, r1, _⟩, _, gd1, er1, .rt _, _, _, q2, fun F2 r2 H2 ev2 gd2 => p F2 r2 H2 (ev1.trans gd1 ev2) gd2⟩
    · cases e
  · cases e
section
variable {X : Cx} {W : Wx} {tg it : Expr} {pos : Pos} {body : List Stmt} {gx : Gx} {fb : Sx}
theorem cs_for {f : Fx (List D)} (hp : PassesOwn (model X.prog X.w) X.A X.env X.xe) (hc : X.calm = true) (hi : CI X W tg it f) (hg : CG X tg gx) (hb : CSs X W body fb) (hs : ∀ x, foldedSetIterable it X.env x = pure x := by intro _; rfl) : CS X W (.For tg it body [] pos) (forS f gx fb) :=
  PS.imp (ps_for hp hc hi hg hb hs) fun D σ H ⟨g, env, c⟩ => (c.bind (rel := relW X.K)).imp fun J H1 ⟨xs, g1, ⟨w1, w2, w3⟩, ev, c1⟩ => by
    refine ⟨fun i m σ' H' => m = xs.length - i ∧ i ≤ xs.length ∧ ∃ g' env', Same g1.F g'.F ∧ g1.r <+: g'.r ∧ Cs X.K (loopS gx fb (xs.drop i)) W D σ' H' g' env', ⟨xs.length, by simp, Nat.zero_le _, g1, env, Same.refl _, List.prefix_rfl, c1⟩, ?_⟩
    rintro i m σ' H' ⟨rfl, hi, g', env', sm, pr, c2⟩
    by_cases hlt : i < xs.length
    · refine .inr ⟨w1 i H' (sm.trans c2.1.ex) hlt, _, fun _ _ n => n, fun x H2 y => ?_⟩
      have q : xs[i]? = some xs[i] := List.getElem?_eq_getElem hlt
      have ed : xs.drop i = xs[i] :: xs.drop (i + 1) := List.drop_eq_getElem_cons hlt
      obtain ⟨F2, e1, e2, e3⟩ := w3 g' H' i x H2 _ c2.1 sm pr y q
      obtain ⟨gd, er, fl, env2, S2, qe, p⟩ := c2.evo e1 e2
      rw [ed] at qe
      exact loop_turn gd er e3 p qe fun σ3 H3 g3 env3 ev3 c3 => ⟨xs.length - (i + 1), by omega, rfl, hlt, g3, env3, (sm.trans e1.f).trans ev3.f, (pr.trans e1.r).trans ev3.r, c3⟩
    · have e : i = xs.length := by omega
      subst e
      refine .inl ⟨w2 _ H' (sm.trans c2.1.ex) (Nat.le_refl _), ?_⟩
      rw [List.drop_length] at c2
      exact tS_nx c2.tS

def liveS (d : D) (gx : Gx) (body : Sx) : Nat → Nat → Sx
  | 0, _ => fun _ _ => none
  | m + 1, i => fun env S => match viewL S d with
    | some xs => match xs[i]? with
      | none => some (.nx, env, S)
      | some x => match gx x env S with
        | some (env1, S1) => match body env1 S1 with
          | some (.nx, env2, S2) => liveS d gx body m (i + 1) env2 S2
          | some (.ct, env2, S2) => liveS d gx body m (i + 1) env2 S2
          | some (.bk, env2, S2) => some (.nx, env2, S2)
          | some (.rt v, env2, S2) => some (.rt v, env2, S2)
          | _ => none
        | none => none
    | none => none
def forL (f : Fx D) (gx : Gx) (body : Sx) : Sx := bindS f fun d env S => match viewL S d with
  | some xs => liveS d gx body (xs.length + 1) 0 env S
  | none => none
theorem cs_forL {f : Fx D} (hp : PassesOwn (model X.prog X.w) X.A X.env X.xe) (hc : X.calm = true) (hi : CE X W it f) (hg : CG X tg gx) (hb : CSs X W body fb) (hs : ∀ x, foldedSetIterable it X.env x = pure x := by intro _; rfl) : CS X W (.For tg it body [] pos) (forL f gx fb) :=
  PS.imp (ps_for hp hc (pi_list hi) hg hb hs) fun D σ H ⟨g, env, c⟩ => (c.bind (rel := relD X.K)).imp fun v H1 ⟨d, g1, rv, ev, gd1, er1, fl, env1, S1, q, p⟩ => by
    dsimp only at q
    split at q
    · rename_i xs0 q0
      obtain ⟨a, vs, rfl, h1, h2⟩ := viewL_ok gd1 rv q0
      refine ⟨a, rfl, ⟨vs, h1⟩, fun i m σ' H' => ∃ g' env', Rep X.K g'.F g'.r d (.ref a) ∧ Cs X.K (liveS d gx fb m i) W D σ' H' g' env', ⟨xs0.length + 1, g1, env, rv, gd1, er1, fl, env1, S1, q, p⟩, ?_⟩
      rintro i m σ' H' ⟨g', env', rv', c2⟩
      obtain ⟨gd, er, fl2, env2, S2, qe, p2⟩ := id c2
      cases m with
      | zero => cases qe
      | succ m =>
        unfold liveS at qe
        try dsimp only at qe
        split at qe
        · rename_i xs qv
          obtain ⟨a', vs', e', h3, h4⟩ := viewL_ok gd rv' qv
          cases e'
          split at qe
          · rename_i qn
            cases qe
            refine .inl ⟨⟨vs', h3, by rw [h4.length]; exact List.getElem?_eq_none_iff.mp qn⟩, p2 g'.F g'.r H' (Evo.refl _ _) gd σ' er⟩
          · rename_i x qx
            obtain ⟨y, h5, h6⟩ := h4.get qx
            refine .inr ⟨⟨vs', y, h3, h5⟩, fun σ3 H3 => ∃ m', m' < m + 1 ∧ ∃ g3 env3, Rep X.K g3.F g3.r d (.ref a) ∧ Cs X.K (liveS d gx fb m' (i + 1)) W D σ3 H3 g3 env3, fun _ _ n => n, fun z H2 yl => ?_⟩
            obtain ⟨rfl, y2⟩ := yl
            have := y2 vs' h3
            rw [h5] at this
            cases this
            exact loop_turn gd er h6 p2 qe fun σ3 H3 g3 env3 ev3 c3 => ⟨m, Nat.lt_succ_self _, g3, env3, rv'.mono ev3.f ev3.r, c3⟩
        · cases qe
    · cases q

def whileS (t : Fx Bool) (body : Sx) : Nat → Sx
  | 0 => fun _ _ => none
  | m + 1 => fun env S => match t env S with
    | some (.ok true, S1) => match body env S1 with
      | some (.nx, env2, S2) => whileS t body m env2 S2
      | some (.ct, env2, S2) => whileS t body m env2 S2
      | some (.bk, env2, S2) => some (.nx, env2, S2)
      | some (.rt v, env2, S2) => some (.rt v, env2, S2)
      | _ => none
    | some (.ok false, S1) => some (.nx, env, S1)
    | _ => none
theorem cs_while (fuel : Nat) {c : Expr} {t : Fx Bool} (hp : PassesOwn (model X.prog X.w) X.A X.env X.xe) (hc : CT X W c t) (hb : CSs X W body fb) : CS X W (.While c body [] pos) (whileS t fb fuel) :=
  PS.imp (ps_while hp hc hb) fun D σ H ⟨g, env, c⟩ => by
    refine ⟨fun m σ' H' => ∃ g' env', Cs X.K (whileS t fb m) W D σ' H' g' env', ⟨fuel, g, env, c⟩, ?_⟩
    rintro m σ' H' ⟨g', env', gd, er, fl, env1, S1, qe, p⟩
    cases m with
    | zero => cases qe
    | succ m =>
      unfold whileS at qe
      try dsimp only at qe
      split at qe
      · rename_i S2 qt
        refine ⟨g', env', gd, er, .ok true, S2, qt, fun F1 r1 H1 b ev1 gd1 eb => ?_⟩
        have eb' : b = true := eb
        subst eb'
        refine iteT ⟨fun σ3 H3 => ∃ m', m' < m + 1 ∧ ∃ g3 env3, Cs X.K (whileS t fb m') W D σ3 H3 g3 env3, fun _ _ n => n, ?_⟩
        have er1 := er.mono ev1.f ev1.r
        split at qe
        · rename_i env2 S3 q2
          exact ⟨⟨F1, r1, S2⟩, env', gd1, er1, .nx, env2, S3, q2, fun F2 r2 H2 ev2 gd2 σ2 er2 => ⟨m, Nat.lt_succ_self _, ⟨F2, r2, S3⟩, env2, mkCs p (ev1.trans gd1 ev2) gd2 er2 qe⟩⟩
        · rename_i env2 S3 q2
          exact ⟨⟨F1, r1, S2⟩, env', gd1, er1, .ct, env2, S3, q2, fun F2 r2 H2 ev2 gd2 σ2 er2 => ⟨m, Nat.lt_succ_self _, ⟨F2, r2, S3⟩, env2, mkCs p (ev1.trans gd1 ev2) gd2 er2 qe⟩⟩
        · rename_i env2 S3 q2
          cases qe
          exact ⟨⟨F1, r1, S2⟩, env', gd1, er1, .bk, _, _, q2, fun F2 r2 H2 ev2 gd2 σ2 er2 => p F2 r2 H2 (ev1.trans gd1 ev2) gd2 σ2 er2⟩
        · rename_i v env2 S3 q2
          cases qe
          exact ⟨⟨F1, r1, S2⟩, env', gd1, er1, .rt _, _, _, q2, fun F2 r2 H2 ev2 gd2 => p F2 r2 H2 (ev1.trans gd1 ev2) gd2⟩
        · cases qe
      · rename_i S2 qt
        cases qe
        refine ⟨g', env', gd, er, .ok false, _, qt, fun F1 r1 H1 b ev1 gd1 eb => ?_⟩
        have eb' : b = false := eb
        subst eb'
        exact iteF (p F1 r1 H1 ev1 gd1 σ' (er.mono ev1.f ev1.r))
      · cases qe
end
end FL

namespace FL
open PySem L2

def tGv (K : PySem.W.Frag) (vs : List Nat) {α β : Type} (rel : Rl α β) (f : α → Dv → List MO → Option (Dv × List MO)) : β → L2.St → Hp → (L2.St → Hp → Prop) → Prop := fun v σ H Q =>
  ∃ (w : Gh) (g : G) (env : Dv) (d : α) (env' : Dv) (S' : List MO), Good K g H ∧ EnvR w K g.F g.r σ env ∧ rel g.F g.r d v ∧ f d env g.S = some (env', S') ∧
    ∀ (F' : Hp) (r' : List Addr) (H' : Hp) (σ' : L2.St), Evo g H ⟨F', r', S'⟩ H' → Good K ⟨F', r', S'⟩ H' → EnvR w K F' r' σ' env' → wipe σ' vs = wipe σ vs → Q σ' H'
abbrev CGv (X : Cx) (vs : List Nat) (tg : Expr) (f : Gx) : Prop := PG X tg (tGv X.K vs (relD X.K) f)
abbrev CGvs (X : Cx) (vs : List Nat) (tgs : List Expr) (f : GxL) : Prop := PGs X tgs (tGv X.K vs (relL X.K) f)
theorem wipe_set {i : Nat} {a : Option V} : ∀ {vs : List Nat} {σ : L2.St}, i ∈ vs → wipe (σ.set i a) vs = wipe σ vs
  | [], _, h => by cases h
  | v :: vs, σ, h => by
    show (wipe (σ.set i a) vs).set v none = (wipe σ vs).set v none
    by_cases hm : i ∈ vs
    · rw [wipe_set hm]
    · have e : i = v := by
        rcases List.mem_cons.mp h with e | e
        · exact e
        · exact absurd e hm
      subst e
      have key : ∀ {ws : List Nat}, i ∉ ws → wipe (σ.set i a) ws = (wipe σ ws).set i a := fun {ws} hw => by
        induction ws with
        | nil => rfl
        | cons w ws ih =>
          have h1 : i ≠ w := fun z => hw (by simp [z])
          have h2 : i ∉ ws := fun z => hw (by simp [z])
          show (wipe (σ.set i a) ws).set w none = ((wipe σ ws).set w none).set i a
          rw [ih h2, List.set_comm _ _ h1]
      rw [key hm, List.set_set]
theorem wipe_wipe : ∀ {us vs : List Nat} {σ : L2.St}, (∀ u ∈ us, u ∈ vs) → wipe (wipe σ us) vs = wipe σ vs
  | [], _, _, _ => rfl
  | u :: us, vs, σ, h => by
    show wipe ((wipe σ us).set u none) vs = wipe σ vs
    rw [wipe_set (h u (by simp)), wipe_wipe fun w hw => h w (by simp [hw])]
def wipeD (env : Dv) : List Nat → Dv
  | [] => env
  | v :: vs => (wipeD env vs).set v none
theorem EnvR.wipe {x : Gh} {K : PySem.W.Frag} {F : Hp} {r : List Addr} {σ : L2.St} {env : Dv} (h : EnvR x K F r σ env) : ∀ vs : List Nat, EnvR x K F r (wipe σ vs) (wipeD env vs)
  | [] => h
  | v :: vs => by
    have ih := EnvR.wipe h vs
    refine ⟨?_, fun j d hj => ?_, h.2.2⟩
    · show ((L2.wipe σ vs).set v none).length = ((wipeD env vs).set v none).length
      rw [List.length_set, List.length_set, ih.1]
    · have hj' : ((wipeD env vs).set v none)[j]? = some (some d) := hj
      by_cases hv : v = j
      · subst hv
        have hl : v < (wipeD env vs).length := by
          have := (List.getElem?_eq_some_iff.mp hj').1
          rwa [List.length_set] at this
        rw [List.getElem?_set_self hl] at hj'
        cases hj'
      · rw [List.getElem?_set_ne hv] at hj'
        obtain ⟨w, h1, h2⟩ := ih.2.1 j d hj'
        refine ⟨w, ?_, h2⟩
        show ((L2.wipe σ vs).set v none)[j]? = _
        rw [List.getElem?_set_ne hv]
        exact h1
section
variable {X : Cx}
theorem cgv_name (i : Nat) {vs : List Nat} {x : Str} {pos : Pos} (hN : X.N.Nodup) (hv : i ∈ vs := by decide) (hi : X.N[i]? = some x := by rfl) (hx : Loc X.env.scope x := by first | exact Or.inl rfl | exact Or.inr rfl) (hf : X.fn x = true ∨ X.env.scope.names.lookup x = some .local := by first | exact .inl rfl | exact .inr rfl) :
    CGv X vs (.Name x pos) (gSet i) :=
  PG.imp (pg_name hN hi hx hf) fun v σ H Q ⟨w, g, env, d, env', S', gd, er, rv, e, p⟩ => by
    cases e
    exact p g.F g.r H _ (Evo.refl _ _) gd (er.set i rv) (wipe_set hv)
theorem cgvs_nil {vs : List Nat} : CGvs X vs [] gNils := PGs.imp pgs_nil fun v σ H Q ⟨w, g, env, d, env', S', gd, er, rv, e, p⟩ => by
  cases d with
  | nil =>
    cases e; cases rv
    exact ⟨rfl, p g.F g.r H σ (Evo.refl _ _) gd er rfl⟩
  | cons _ _ => cases e
theorem cgvs_cons {vs : List Nat} {e : Expr} {es : List Expr} {f : Gx} {h : GxL} (h1 : CGv X vs e f) (h2 : CGvs X vs es h) (hp : (assignEach (e :: es) X.env).map (·.2) = assign e X.env :: (assignEach es X.env).map (·.2) := by intros; rfl) : CGvs X vs (e :: es) (gConss f h) :=
  PGs.imp (pgs_cons h1 h2 hp) fun v σ H Q ⟨w, g, env, d, env', S', gd, er, rv, q, p⟩ => by
    cases d with
    | nil => cases q
    | cons d ds =>
      obtain ⟨v, ws, rfl, h3, h4⟩ := rv
      unfold gConss at q
      dsimp only at q
      split at q
      · rename_i env1 S1 q1
        refine ⟨v, ws, rfl, w, g, env, d, env1, S1, gd, er, h3, q1, fun F' r' H' σ' ev gd' er' w1 => ?_⟩
        exact ⟨w, ⟨F', r', S1⟩, env1, ds, env', S', gd', er', h4.mono ev.f ev.r, q, fun F2 r2 H2 σ2 ev2 gd2 er2 w2 => p F2 r2 H2 σ2 (ev.trans gd' ev2) gd2 er2 (w2.trans w1)⟩
      · cases q
theorem cgv_tup {vs : List Nat} {es : List Expr} {k : Nat} {h : GxL} {pos : Pos} {n : Nat} (hc : X.calm = true) (hg : CGvs X vs es h) (hn : (assignEach es X.env).length = n := by rfl) (hst : (assignEach es X.env).findIdx? (·.1) = none := by rfl) : CGv X vs (.Tuple es k pos) (gTupG n h) :=
  PG.imp (pg_tup hc hg hn hst) fun v σ H Q ⟨w, g, env, d, env', S', gd, er, rv, e, p⟩ => by
    unfold gTupG at e
    split at e
    · rename_i xs q
      split at e
      · rename_i hl
        obtain ⟨a, vs, h1, h2, h3⟩ := viewT_ok gd rv q
        exact ⟨a, vs, h1, h2, by rw [h3.length]; exact hl, w, g, env, xs, env', S', gd, er, h3, e, p⟩
      · cases e
    · cases e
theorem cgv_lst {vs : List Nat} {es : List Expr} {k : Nat} {h : GxL} {pos : Pos} {n : Nat} (hc : X.calm = true) (hg : CGvs X vs es h) (hn : (assignEach es X.env).length = n := by rfl) (hst : (assignEach es X.env).findIdx? (·.1) = none := by rfl) : CGv X vs (.Tuple es k pos) (gLstG n h) :=
  PG.imp (pg_unl hc hg hn hst) fun v σ H Q ⟨w, g, env, d, env', S', gd, er, rv, e, p⟩ => by
    unfold gLstG at e
    split at e
    · rename_i xs q
      split at e
      · rename_i hl
        obtain ⟨a, vs, h1, h2, h3⟩ := viewL_ok gd rv q
        exact ⟨a, vs, h1, h2, by rw [h3.length]; exact hl, w, g, env, xs, env', S', gd, er, h3, e, p⟩
      · cases e
    · cases e
end

structure Side (K : PySem.W.Frag) (g0 : G) (H0 : Hp) (g : G) (H : Hp) (p : Addr) (acc : List V) : Prop where
  gd : Good K g H
  ev : Evo g0 H0 g H
  at_ : H p = some (.lst acc)
  nf : g.F p = none
  nr : p ∉ g.r
  n0 : H0 p = none
section
variable {K : PySem.W.Frag} {g0 g g' : G} {H0 H H' : Hp} {p : Addr} {acc : List V}
theorem Good.side {o : HO} (gd : Good K g H) (nf : g.F p = none) (nr : p ∉ g.r) : Good K g (upd H p o) := by
  have hne : ∀ (n : Nat) (a : Addr), g.r[n]? = some a → a ≠ p := fun n a e z => nr (z ▸ List.mem_of_getElem? e)
  exact ⟨same_mut gd.ex nf, gd.len, gd.nd, fun n a m h1 h2 => (gd.mr n a m h1 h2).mono (Same.refl _) List.prefix_rfl (upd_ne (hne n a h1)), gd.fr⟩
theorem Side.start (gd : Good K g0 H0) (n0 : H0 p = none) : Side K g0 H0 g0 (upd H0 p (.lst [])) p [] := by
  have nf : g0.F p = none := by
    cases q : g0.F p with
    | none => rfl
    | some u => rw [gd.ex p u q] at n0; cases n0
  have nr : p ∉ g0.r := fun z => by
    obtain ⟨o, q⟩ := gd.there z
    rw [n0] at q
    cases q
  exact ⟨gd.side nf nr, ⟨Same.refl _, List.prefix_rfl, fun b o e _ => by rw [upd_ne (ne_of_none e n0)]; exact e, fun b o e => .inl e, fun b e => .inl e⟩, upd_same, nf, nr, n0⟩
theorem Side.step (s : Side K g0 H0 g H p acc) (e : Evo g H g' H') (k : Good K g' H') : Side K g0 H0 g' H' p acc := by
  refine ⟨k, s.ev.trans s.gd e, e.keep p _ s.at_ s.nr, ?_, fun z => ?_, s.n0⟩
  · cases q : g'.F p with
    | none => rfl
    | some u =>
      rcases e.newF p u q with h | h | h
      · rw [s.nf] at h; cases h
      · exact absurd h s.nr
      · rw [s.at_] at h; cases h
  · rcases e.newR p z with h | h
    · exact s.nr h
    · rw [s.at_] at h; cases h
theorem Side.app (s : Side K g0 H0 g H p acc) (ys : List V) : Side K g0 H0 g (upd H p (.lst ys)) p ys :=
  ⟨s.gd.side s.nf s.nr, ⟨s.ev.f, s.ev.r, fun b o e n => by rw [upd_ne (ne_of_none e s.n0)]; exact s.ev.keep b o e n, s.ev.newF, s.ev.newR⟩, upd_same, s.nf, s.nr, s.n0⟩
theorem Side.fin (s : Side K g0 H0 g H p acc) : Evo g0 H0 ⟨upd g.F p (.lst acc), g.r, g.S⟩ H ∧ Good K ⟨upd g.F p (.lst acc), g.r, g.S⟩ H := by
  have sm : Same g.F (upd g.F p (.lst acc)) := same_new s.nf
  refine ⟨⟨s.ev.f.trans sm, s.ev.r, s.ev.keep, fun b o e => ?_, s.ev.newR⟩, fun b o e => ?_, s.gd.len, s.gd.nd, fun n a m h1 h2 => (s.gd.mr n a m h1 h2).mono sm List.prefix_rfl rfl, fun n a m h1 h2 h3 => ?_⟩
  · by_cases hb : b = p
    · exact .inr (.inr (hb ▸ s.n0))
    · have e' : upd g.F p (.lst acc) b = some o := e
      rw [upd_ne hb] at e'
      exact s.ev.newF b o e'
  · have e' : upd g.F p (.lst acc) b = some o := e
    by_cases hb : b = p
    · subst hb
      rw [upd_same] at e'
      cases e'
      exact s.at_
    · rw [upd_ne hb] at e'
      exact s.gd.ex b o e'
  · have hne : a ≠ p := fun z => s.nr (z ▸ List.mem_of_getElem? h1)
    show upd g.F p (.lst acc) a = none
    rw [upd_ne hne]
    exact s.gd.fr n a m h1 h2 h3
end

def lcRun (gx : Gx) (tt : Fx Bool) (te : Fx D) (env0 : Dv) : List D → List MO → Option (List D × List MO)
  | [], S => some ([], S)
  | d :: ds, S => match gx d env0 S with
    | some (env1, S1) => match tt env1 S1 with
      | some (.ok true, S2) => match te env1 S2 with
        | some (.ok y, S3) => match lcRun gx tt te env0 ds S3 with
          | some (ys, S4) => some (y :: ys, S4)
          | none => none
        | _ => none
      | some (.ok false, S2) => lcRun gx tt te env0 ds S2
      | _ => none
    | none => none
def fLc (src : Fx (List D)) (vs : List Nat) (gx : Gx) (tt : Fx Bool) (te : Fx D) : Fx D := bindF src fun xs env S => if xs.length ≤ 50000 then match lcRun gx tt te (wipeD env vs) xs S with
  | some (ys, S') => some (.ok (.lst ys), S')
  | none => none else none
abbrev W0 (x : Gh) : Wx := ⟨fun _ _ _ _ => False, x⟩
/-- what a turn comes to: K' is what is wanted behind it -/
theorem lc_turn {K : PySem.W.Frag} {W : Wx} {gx : Gx} {tt : Fx Bool} {te : Fx D} {vs : List Nat} {σ : L2.St} {env0 : Dv} {g0 g : G} {H0 H : Hp} {p : Addr} {acc : List V} {accD : List D} {d : D} {x : V} {rest : List MO → Option (List D × List MO)} {out : List D × List MO} {Nx : Hp → Prop}
    (s : Side K g0 H0 g H p acc) (ra : RepL K g.F g.r accD acc) (hz : acc.length < 100000) (er : EnvR W.x K g.F g.r (wipe σ vs) env0) (rd : Rep K g.F g.r d x)
    (e : (match gx d env0 g.S with
      | some (env1, S1) => match tt env1 S1 with
        | some (.ok true, S2) => match te env1 S2 with
          | some (.ok y, S3) => match rest S3 with
            | some (ys, S4) => some (y :: ys, S4)
            | none => none
          | _ => none
        | some (.ok false, S2) => rest S2
        | _ => none
      | none => none) = some out)
    (hN : ∀ (g' : G) (H' : Hp) (acc' : List V) (accD' : List D) (ys : List D) (S4 : List MO), Side K g0 H0 g' H' p acc' → RepL K g'.F g'.r accD' acc' → Same g.F g'.F → g.r <+: g'.r → acc'.length ≤ acc.length + 1 → rest g'.S = some (ys, S4) → out = (accD'.drop accD.length ++ ys, S4) → accD'.take accD.length = accD → Nx H') :
    tGv K vs (relD K) gx x (wipe σ vs) H fun σ2 H2 => wipe σ2 vs = wipe σ vs ∧ tX K relB tt (W0 W.x) σ2 H2 fun b H3 => if b = true then tX K (relD K) te (W0 W.x) σ2 H3 fun y H4 => ∃ ac, H4 p = some (.lst ac) ∧ ac.length < sizeLine ∧ Nx (upd H4 p (.lst (ac ++ [y]))) else Nx H3 := by
  split at e
  · rename_i env1 S1 q1
    refine ⟨_, g, env0, d, _, _, s.gd, er, rd, q1, fun F1 r1 H1 σ1 ev1 gd1 er1 w1 => ⟨w1.trans (wipe_wipe fun _ h => h), ?_⟩⟩
    have s1 := s.step ev1 gd1
    split at e
    · rename_i S2 q2
      refine ⟨⟨F1, r1, S1⟩, env1, gd1, er1, .ok true, S2, q2, fun F2 r2 H2 b ev2 gd2 eb => ?_⟩
      have eb' : b = true := eb
      subst eb'
      have s2 := s1.step ev2 gd2
      split at e
      · rename_i y S3 q3
        split at e
        · rename_i ys S4 q4
          cases e
          refine iteT ⟨⟨F2, r2, S2⟩, env1, gd2, er1.mono ev2.f ev2.r, .ok y, S3, q3, fun F3 r3 H3 v ev3 gd3 rv => ?_⟩
          have s3 := s2.step ev3 gd3
          have ev := (ev1.trans gd1 ev2).trans gd2 ev3
          have ra3 := ra.mono ev.f ev.r
          refine ⟨acc, s3.at_, sz_lt hz, hN ⟨F3, r3, S3⟩ _ (acc ++ [v]) (accD ++ [y]) ys _ (s3.app _) (ra3.append (RepL.cons rv RepL.nil)) ev.f ev.r (by simp) q4 (by simp) (by simp)⟩
        · cases e
      · cases e
    · rename_i S2 q2
      refine ⟨⟨F1, r1, S1⟩, env1, gd1, er1, .ok false, S2, q2, fun F2 r2 H2 b ev2 gd2 eb => ?_⟩
      have eb' : b = false := eb
      subst eb'
      have ev := ev1.trans gd1 ev2
      obtain ⟨ys, S4⟩ := out
      exact iteF (hN ⟨F2, r2, S2⟩ H2 acc accD ys S4 (s1.step ev2 gd2) (ra.mono ev.f ev.r) ev.f ev.r (by omega) e (by simp) (by simp))
    · cases e
  · cases e
/-- the whole, by its walk -/
theorem lc_walk {K : PySem.W.Frag} {W : Wx} {gx : Gx} {tt : Fx Bool} {te : Fx D} {vs : List Nat} {σ : L2.St} {env : Dv} {g1 : G} {H1 : Hp} {xs ys : List D} {S' : List MO} {J : It} {p : Addr} {Q : Hp → Prop} (gd : Good K g1 H1) (er : EnvR W.x K g1.F g1.r σ env) (w : relW K g1.F g1.r xs J) (hl : xs.length ≤ 50000)
    (e : lcRun gx tt te (wipeD env vs) xs g1.S = some (ys, S')) (hp : H1 p = none)
    (hq : ∀ (F' : Hp) (r' : List Addr) (H' : Hp), Evo g1 H1 ⟨F', r', S'⟩ H' → Good K ⟨F', r', S'⟩ H' → Rep K F' r' (.lst ys) (.ref p) → Q H') :
    ∃ Wk : Nat → Nat → Hp → Prop, (∃ m, Wk 0 m (upd H1 p (.lst []))) ∧ ∀ i m H, Wk i m H →
      (J.stop i H ∧ Q H) ∨ (J.go i H ∧ ∃ Nx : Hp → Prop, (∀ H', Nx H' → ∃ m', m' < m ∧ Wk (i + 1) m' H') ∧ ∀ x H', J.yld i H x H' → tGv K vs (relD K) gx x (wipe σ vs) H' fun σ2 H2 => wipe σ2 vs = wipe σ vs ∧ tX K relB tt (W0 W.x) σ2 H2 fun b H3 =>
        if b = true then tX K (relD K) te (W0 W.x) σ2 H3 fun y H4 => ∃ acc, H4 p = some (.lst acc) ∧ acc.length < sizeLine ∧ Nx (upd H4 p (.lst (acc ++ [y]))) else Nx H3) := by
  obtain ⟨w1, w2, w3⟩ := w
  refine ⟨fun i m H => m = xs.length - i ∧ i ≤ xs.length ∧ ∃ g acc accD zs, Side K g1 H1 g H p acc ∧ RepL K g.F g.r accD acc ∧ acc.length ≤ i ∧ lcRun gx tt te (wipeD env vs) (xs.drop i) g.S = some (zs, S') ∧ accD ++ zs = ys,
    ⟨xs.length, by simp, Nat.zero_le _, g1, [], [], ys, Side.start gd hp, RepL.nil, Nat.le_refl _, e, rfl⟩, ?_⟩
  rintro i m H ⟨rfl, hi, g, acc, accD, zs, s, ra, hz, qe, ey⟩
  have sm := s.ev.f
  have pr := s.ev.r
  by_cases hlt : i < xs.length
  · refine .inr ⟨w1 i H (sm.trans s.gd.ex) hlt, _, fun _ n => n, fun x H' y => ?_⟩
    have q : xs[i]? = some xs[i] := List.getElem?_eq_getElem hlt
    have ed : xs.drop i = xs[i] :: xs.drop (i + 1) := List.drop_eq_getElem_cons hlt
    obtain ⟨F2, e1, e2, e3⟩ := w3 g H i x H' _ s.gd sm pr y q
    have s2 := s.step e1 e2
    rw [ed] at qe
    refine lc_turn s2 (ra.mono e1.f e1.r) (by omega) ((er.mono (sm.trans e1.f) (pr.trans e1.r)).wipe vs) e3 qe fun g' H3 acc' accD' zs' S4 s' ra' f1 r1 hl' q' eo et => ?_
    injection eo with eo1 eo2
    subst eo2
    refine ⟨xs.length - (i + 1), by omega, rfl, hlt, g', acc', accD', zs', s', ra', by omega, q', ?_⟩
    rw [← ey, eo1, ← List.append_assoc]
    conv => lhs; rw [← List.take_append_drop accD.length accD', et]
  · have ei : i = xs.length := by omega
    subst ei
    refine .inl ⟨w2 _ H (sm.trans s.gd.ex) (Nat.le_refl _), ?_⟩
    rw [List.drop_length] at qe
    have qe' : some (([] : List D), g.S) = some (zs, S') := qe
    injection qe' with qe'
    injection qe' with z1 z2
    subst z1 z2
    obtain ⟨f1, f2⟩ := s.fin
    rw [List.append_nil] at ey
    subst ey
    exact hq _ _ _ f1 f2 ⟨p, acc, rfl, upd_same, ra.mono (same_new s.nf) List.prefix_rfl⟩
section
variable {X : Cx} {W : Wx} {elt tg iter : Expr} {ifs : List Expr} {scope : Scope} {pos spos : Pos} {f : Fx (List D)} {gx : Gx} {tt : Fx Bool} {te : Fx D}
abbrev CTs (X : Cx) (W : Wx) (ifs : List Expr) (f : Fx Bool) : Prop := PTs X ifs (tX X.K relB f W)
theorem PTs.imp {t t' : TT} (h : PTs X ifs t) (w : ∀ σ H Q, t' σ H Q → t σ H Q) : PTs X ifs t' := ⟨fun pins s σ H Q I q => h.run pins s σ H Q I (w σ H Q q)⟩
theorem cts_nil : CTs X W [] (pureF true) := PTs.imp pts_nil fun σ H Q ⟨g, env, c⟩ => c.pure rfl
theorem cts_one {e : Expr} {t : Fx Bool} (h : CT X W e t) : CTs X W [e] t := pts_one h
theorem ox_lc {vs : List Nat} {σ : L2.St} {H : Hp} {Q : VK} (h : tX X.K (relD X.K) (fLc f vs gx tt te) W σ H Q) : tLc (tX X.K (relW X.K) f W) (tGv X.K vs (relD X.K) gx) (tX X.K relB tt (W0 W.x)) (tX X.K (relD X.K) te (W0 W.x)) vs σ H Q := by
  obtain ⟨g, env, c⟩ := h
  refine (c.bind (relB := relW X.K)).imp fun J H1 ⟨xs, g1, w, ev, gd, er, r, S', q, p⟩ => ?_
  dsimp only at q
  split at q
  · rename_i hl
    split at q
    · rename_i ys S2 q2
      cases q
      intro D hD
      exact lc_walk (Q := fun H => Q (.ref D) H) gd er w hl q2 hD fun F' r' H' e1 e2 e3 => p F' r' H' _ e1 e2 e3
    · cases q
  · cases q
theorem ce_lc (own : List (Str × Nat)) (hc : X.calm = true) (hN : X.N.Nodup) (ok : BlkOk X.N X.env.scope scope own) (hi : CI X W tg iter f)
    (hg : ∀ (s : Shared) (H : Hp) (C : Addr) (cl : List (Str × Addr)) (fp : List Addr), CGv (X.blk s H scope (compEnvC scope cl C X.env) fp) (own.map (·.2)) tg gx) (ht : ∀ (s : Shared) (H : Hp) (C : Addr) (cl : List (Str × Addr)) (fp : List Addr), CTs (X.blk s H scope (compEnvC scope cl C X.env) fp) (W0 W.x) ifs tt)
    (he : ∀ (s : Shared) (H : Hp) (C : Addr) (cl : List (Str × Addr)) (fp : List Addr), CE (X.blk s H scope (compEnvC scope cl C X.env) fp) (W0 W.x) elt te) (hs : ∀ x, foldedSetIterable iter X.env x = pure x := by intro _; rfl) :
    CE X W (.ListComp elt [⟨tg, iter, ifs, 0⟩] scope pos) (fLc f (own.map (·.2)) gx tt te) := PE.imp (pe_lc hc hN hi ok hg ht he hs) fun σ H Q h => ox_lc h
/-- y = [..] on one line -/
theorem cs_setLc (i : Nat) (own : List (Str × Nat)) {y : Str} {py : Pos} (hc : X.calm = true) (hN : X.N.Nodup) (ok : BlkOk X.N X.env.scope scope own) (hi : CI X W tg iter f)
    (hg : ∀ (s : Shared) (H : Hp) (C : Addr) (cl : List (Str × Addr)) (fp : List Addr), CGv (X.blk s H scope (compEnvC scope cl C X.env) fp) (own.map (·.2)) tg gx) (ht : ∀ (s : Shared) (H : Hp) (C : Addr) (cl : List (Str × Addr)) (fp : List Addr), CTs (X.blk s H scope (compEnvC scope cl C X.env) fp) (W0 W.x) ifs tt)
    (he : ∀ (s : Shared) (H : Hp) (C : Addr) (cl : List (Str × Addr)) (fp : List Addr), CE (X.blk s H scope (compEnvC scope cl C X.env) fp) (W0 W.x) elt te)
    (hsw : swapsWith (.ListComp elt [⟨tg, iter, ifs, 0⟩] scope pos) (some (.Name y py)) spos.line X.env = pure true) (hy : X.N[i]? = some y := by rfl) (hyl : X.env.scope.names.lookup y = some .local := by rfl) (hs : ∀ x, foldedSetIterable iter X.env x = pure x := by intro _; rfl) :
    CS X W (.Assign [.Name y py] (.ListComp elt [⟨tg, iter, ifs, 0⟩] scope pos) spos) (asgS (fLc f (own.map (·.2)) gx tt te) (gSet i)) :=
  PS.imp (ps_setLc hc hN hy hyl hsw hi ok hg ht he hs) fun D σ H h => by
    obtain ⟨g, env, c⟩ := h
    refine ox_lc ((c.bind (rel := relD X.K)).imp fun v H1 ⟨d, g1, rv, ev, gd, er, fl, env', S', q, p⟩ => ?_)
    cases q
    exact p g1.F g1.r H1 (Evo.refl _ _) gd _ (er.set i rv)
end

def liveC (d : D) (gx : Gx) (tt : Fx Bool) (te : Fx D) (env0 : Dv) : Nat → Nat → List MO → Option (List D × List MO)
  | 0, _, _ => none
  | m + 1, i, S => match viewL S d with
    | some xs => match xs[i]? with
      | none => some ([], S)
      | some x => match gx x env0 S with
        | some (env1, S1) => match tt env1 S1 with
          | some (.ok true, S2) => match te env1 S2 with
            | some (.ok y, S3) => match liveC d gx tt te env0 m (i + 1) S3 with
              | some (ys, S4) => some (y :: ys, S4)
              | none => none
            | _ => none
          | some (.ok false, S2) => liveC d gx tt te env0 m (i + 1) S2
          | _ => none
        | none => none
    | none => none
def fLcL (src : Fx D) (vs : List Nat) (gx : Gx) (tt : Fx Bool) (te : Fx D) : Fx D := bindF src fun d env S => match viewL S d with
  | some xs => if xs.length ≤ 50000 then match liveC d gx tt te (wipeD env vs) (xs.length + 1) 0 S with
    | some (ys, S') => some (.ok (.lst ys), S')
    | none => none else none
  | none => none
section
variable {X : Cx} {W : Wx} {elt tg iter : Expr} {ifs : List Expr} {scope : Scope} {pos spos : Pos} {f : Fx D} {gx : Gx} {tt : Fx Bool} {te : Fx D}
theorem ox_lcL {vs : List Nat} {σ : L2.St} {H : Hp} {Q : VK} (h : tX X.K (relD X.K) (fLcL f vs gx tt te) W σ H Q) : tLc (iList X.K (tX X.K (relD X.K) f W)) (tGv X.K vs (relD X.K) gx) (tX X.K relB tt (W0 W.x)) (tX X.K (relD X.K) te (W0 W.x)) vs σ H Q := by
  obtain ⟨g, env, c⟩ := h
  refine (c.bind (relB := relD X.K)).imp fun v H1 ⟨d, g1, rv, ev, gd, er, r, S', q, p⟩ => ?_
  dsimp only at q
  split at q
  · rename_i xs0 q0
    split at q
    · rename_i hl
      split at q
      · rename_i ys S2 q2
        cases q
        obtain ⟨a, vs0, rfl, h1, h2⟩ := viewL_ok gd rv q0
        refine ⟨a, rfl, ⟨vs0, h1⟩, fun D hD => ?_⟩
        refine ⟨fun i m H => m + i ≤ xs0.length + 1 ∧ ∃ g acc accD zs, Side X.K g1 H1 g H D acc ∧ RepL X.K g.F g.r accD acc ∧ acc.length ≤ i ∧ liveC d gx tt te (wipeD env vs) m i g.S = some (zs, S') ∧ accD ++ zs = ys,
          ⟨xs0.length + 1, Nat.le_refl _, g1, [], [], ys, Side.start gd hD, RepL.nil, Nat.le_refl _, q2, rfl⟩, ?_⟩
        rintro i m H ⟨hm, g, acc, accD, zs, s, ra, hz, qe, ey⟩
        cases m with
        | zero => cases qe
        | succ m =>
          unfold liveC at qe
          split at qe
          · rename_i xs qv
            obtain ⟨a', vs', e', h3, h4⟩ := viewL_ok s.gd (rv.mono s.ev.f s.ev.r) qv
            cases e'
            split at qe
            · rename_i qn
              cases qe
              refine .inl ⟨⟨vs', h3, by rw [h4.length]; exact List.getElem?_eq_none_iff.mp qn⟩, ?_⟩
              obtain ⟨f1, f2⟩ := s.fin
              rw [List.append_nil] at ey
              subst ey
              exact p _ _ _ _ f1 f2 ⟨D, acc, rfl, upd_same, ra.mono (same_new s.nf) List.prefix_rfl⟩
            · rename_i x qx
              obtain ⟨y, h5, h6⟩ := h4.get qx
              refine .inr ⟨⟨vs', y, h3, h5⟩, fun H' => ∃ m', m' < m + 1 ∧ (m' + (i + 1) ≤ xs0.length + 1 ∧ ∃ g acc accD zs, Side X.K g1 H1 g H' D acc ∧ RepL X.K g.F g.r accD acc ∧ acc.length ≤ i + 1 ∧ liveC d gx tt te (wipeD env vs) m' (i + 1) g.S = some (zs, S') ∧ accD ++ zs = ys), fun _ n => n, fun z H2 yl => ?_⟩
              obtain ⟨rfl, y2⟩ := yl
              have := y2 vs' h3
              rw [h5] at this
              cases this
              refine lc_turn s ra (by omega) ((er.mono s.ev.f s.ev.r).wipe vs) h6 qe fun g' H3 acc' accD' zs' S4 s' ra' f1 r1 hl' q' eo et => ?_
              injection eo with eo1 eo2
              subst eo2
              refine ⟨m, Nat.lt_succ_self _, by omega, g', acc', accD', zs', s', ra', by omega, q', ?_⟩
              rw [← ey, eo1, ← List.append_assoc]
              conv => lhs; rw [← List.take_append_drop accD.length accD', et]
          · cases qe
      · cases q
    · cases q
  · cases q
theorem ce_lcL (own : List (Str × Nat)) (hc : X.calm = true) (hN : X.N.Nodup) (ok : BlkOk X.N X.env.scope scope own) (hi : CE X W iter f)
    (hg : ∀ (s : Shared) (H : Hp) (C : Addr) (cl : List (Str × Addr)) (fp : List Addr), CGv (X.blk s H scope (compEnvC scope cl C X.env) fp) (own.map (·.2)) tg gx) (ht : ∀ (s : Shared) (H : Hp) (C : Addr) (cl : List (Str × Addr)) (fp : List Addr), CTs (X.blk s H scope (compEnvC scope cl C X.env) fp) (W0 W.x) ifs tt)
    (he : ∀ (s : Shared) (H : Hp) (C : Addr) (cl : List (Str × Addr)) (fp : List Addr), CE (X.blk s H scope (compEnvC scope cl C X.env) fp) (W0 W.x) elt te) (hs : ∀ x, foldedSetIterable iter X.env x = pure x := by intro _; rfl) :
    CE X W (.ListComp elt [⟨tg, iter, ifs, 0⟩] scope pos) (fLcL f (own.map (·.2)) gx tt te) := PE.imp (pe_lc hc hN (pi_list hi) ok hg ht he hs) fun σ H Q h => ox_lcL h
end
end FL

namespace FL
open PySem L2

mutual
def D.closed : D → Bool
  | .tup xs => closedL xs
  | .lst xs => closedL xs
  | .scr xs => closedL xs
  | .dK _ xs => closedL xs
  | .dT _ xs => closedL xs
  | .ins _ _ xs => closedL xs
  | .obj _ => false
  | _ => true
def closedL : List D → Bool
  | [] => true
  | d :: ds => d.closed && closedL ds
end
section
variable {K : PySem.W.Frag} {F : Hp} {r r' : List Addr}
theorem bAnd {a b : Bool} (h : (a && b) = true) : a = true ∧ b = true := Bool.and_eq_true_iff.mp h
mutual
theorem Rep.closed : ∀ (d : D) (v : V), d.closed = true → Rep K F r d v → Rep K F r' d v
  | .non, _, _, h => h
  | .bl _, _, _, h => h
  | .int _, _, _, h => h
  | .str _, _, _, h => h
  | .tup xs, v, c, h => by
    obtain ⟨a, vs, h1, h2, h3⟩ := h
    exact ⟨a, vs, h1, h2, RepL.closed xs vs c h3⟩
  | .lst xs, v, c, h => by
    obtain ⟨a, vs, h1, h2, h3⟩ := h
    exact ⟨a, vs, h1, h2, RepL.closed xs vs c h3⟩
  | .scr xs, v, c, h => by
    obtain ⟨a, vs, h1, h2, h3⟩ := h
    exact ⟨a, vs, h1, h2, RepL.closed xs vs c h3⟩
  | .dK ks xs, v, c, h => by
    obtain ⟨a, vs, h1, h2, h3, h4⟩ := h
    exact ⟨a, vs, h1, h2, h3, RepL.closed xs _ c h4⟩
  | .dT ks xs, v, c, h => by
    obtain ⟨a, vs, h1, h2, h3, h4⟩ := h
    exact ⟨a, vs, h1, h2, h3, RepL.closed xs _ c h4⟩
  | .ins _ _ xs, v, c, h => by
    obtain ⟨a, dx, vs, h1, h2, h3, h4⟩ := h
    exact ⟨a, dx, vs, h1, h2, h3, RepL.closed xs _ c h4⟩
  | .obj _, _, c, _ => by cases c
  | .exc, _, _, h => h
theorem RepL.closed : ∀ (ds : List D) (vs : List V), closedL ds = true → RepL K F r ds vs → RepL K F r' ds vs
  | [], _, _, h => h
  | d :: ds, vs, c, h => by
    obtain ⟨c1, c2⟩ := bAnd c
    obtain ⟨v, ws, h1, h2, h3⟩ := h
    exact ⟨v, ws, h1, Rep.closed d v c1 h2, RepL.closed ds ws c2 h3⟩
end
end
def closedP : Option (Str × D) → Bool
  | none => true
  | some (_, d) => d.closed

abbrev Fn := List D → List MO → Option (R D × List MO)
def spF (K : PySem.W.Frag) (n : Nat) (fn : Fn) : Sp := fun vs H Q E => ∃ (g : G) (ds : List D) (r : R D) (S' : List MO), ds.length = n ∧ Good K g H ∧ RepL K g.F g.r ds vs ∧ fn ds g.S = some (r, S') ∧ PostX K (relD K) g H Q E r S'
/-- a def: its number of parameters, of further slots, its body -/
def defF (pad : Nat) (body : Sx) : Fn := fun ds S => match body (ds.map some ++ List.replicate pad none) S with
  | some (.nx, _, S') => some (.ok .non, S')
  | some (.rt d, _, S') => some (.ok d, S')
  | some (.ex c p, _, S') => some (.ex c p, S')
  | _ => none
structure FnG (P : Program) (w : World) (K : PySem.W.Frag) (mg : Str → Option Value) (base : Heap) (k : Nat) (f : Addr) (fd : FuncData) (ps : List Str) (sp : Sp) : Prop where
  len : ∀ vs H Q E, sp vs H Q E → vs.length = ps.length
  run : ∀ (A : Around) (outer : List Env) (s : Shared) (H : Hp) (args : Args) (us : List Value) (vs : List V) (Q : VK) (E : XK), Room k A → A.guards = some [] → Env0 P w K mg base A outer s H → BindsTo s fd args (ps.zip us) → Vals vs us → sp vs H Q E →
    codeAny (model P w) A (.call (.ref f) args) (CR (L2.CX P w) outer P w H s Q E) s
theorem FnG.mono {P : Program} {w : World} {K : PySem.W.Frag} {mg : Str → Option Value} {base : Heap} {j k : Nat} {f : Addr} {fd : FuncData} {ps : List Str} {sp : Sp} (F : FnG P w K mg base j f fd ps sp) (h : j ≤ k) : FnG P w K mg base k f fd ps sp :=
  ⟨F.len, fun A outer s H args us vs Q E hr => F.run A outer s H args us vs Q E (hr.mono h)⟩
/-- what a def lets out -/
abbrev WF (E : XK) : Wx := ⟨fun c d _ H => E c d H, .no⟩
/-- what a def's body may lean on -/
structure Bd (X : Cx) (k : Nat) : Prop where
  room : Room k X.A
  gu : X.A.guards = some []
theorem RepL.env {K : PySem.W.Frag} {F : Hp} {r : List Addr} {N : List Str} {ds : List D} {vs : List V} {pad : Nat} (h : RepL K F r ds vs) (hN : N.length = ds.length + pad) : EnvR .no K F r (L2.start N vs) (ds.map some ++ List.replicate pad none) := by
  have hl := h.length
  have hs : L2.start N vs = vs.map some ++ List.replicate pad none := by
    unfold L2.start
    rw [show N.length - vs.length = pad by omega]
  rw [hs]
  refine ⟨by simp [hl], fun i d hi => ?_, trivial⟩
  by_cases hlt : i < ds.length
  · rw [List.getElem?_append_left (by simpa using hlt), List.getElem?_map] at hi
    cases q : ds[i]? with
    | none => rw [q] at hi; cases hi
    | some d' =>
      rw [q] at hi
      cases hi
      obtain ⟨v, h1, h2⟩ := h.get q
      refine ⟨v, ?_, .inl h2⟩
      rw [List.getElem?_append_left (by rw [List.length_map, hl]; exact hlt), List.getElem?_map, h1]
      rfl
  · rw [List.getElem?_append_right (by simpa using hlt), List.getElem?_replicate] at hi
    split at hi <;> cases hi
/-- a def by its body's reading -/
theorem fn_okH {P : Program} {w : World} {K : PySem.W.Frag} {mg : Str → Option Value} {base : Heap} {x qual : Str} {params : Arguments} {body : List Stmt} {scope : Scope} {f : Addr} {fd : FuncData} {N ps : List Str} {k : Nat} {sp : Sp} {t : XK → TS}
    (F : FunD K x qual params body scope [] [] f fd) (S : FnScope N ps scope) (hlen : ∀ (vs : List V) (H : Hp) (Q : VK) (E : XK), sp vs H Q E → vs.length = ps.length)
    (hbody : ∀ (cdv : Value) (A : Around) (outer : List Env) (s : Shared) (H : Hp) (E : XK), Bd (cxOf (L2.CX P w) P w K mg base N qual scope f cdv A outer s H E) k → Takes (cxOf (L2.CX P w) P w K mg base N qual scope f cdv A outer s H E) (fun c d _ H => E c d H) →
      PSs (cxOf (L2.CX P w) P w K mg base N qual scope f cdv A outer s H E) body (t E))
    (hq : ∀ (vs : List V) (H : Hp) (Q : VK) (E : XK), sp vs H Q E → t E { nx := fun _ H' => Q .non H', rt := Q } (L2.start N vs) H) : FnG P w K mg base (k + 1) f fd ps sp := by
  refine ⟨hlen, fun A outer s H args us vs Q E hr hg e0 hb rv hsp => ?_⟩
  have hl := hlen _ _ _ _ hsp
  obtain ⟨oc, od, dV, kV, doc, pm, an, cdv, ct, osl, rfl, lk, hcd, _, _⟩ := F.ex
  have KX : K.In s.heap := e0.mod.kin.keeps fun b o e => (e0.bs b o e).1
  have lim : s.heap.NoLimit := e0.mod.nolimit.keeps fun b o e => (e0.bs b o e).1
  have hkind : ∀ y ∈ ps.zip us, scope.names.lookup y.1 = some .local ∨ (scope.names.lookup y.1 = some .cell ∧ ((cellsFrom (s.heap.objs.size + 1) scope.names []).lookup y.1).isSome = true) := fun y hy => by
    rcases S.par y.1 (List.of_mem_zip (show (y.1, y.2) ∈ ps.zip us from hy)).1 with q | q
    · exact .inl q
    · exact .inr ⟨q, PySem.W.cellsFrom_some _ _ _ (.inl q)⟩
  refine codeAny_call_function hr.depth (KX _ _ lk) rfl S.co S.gen rfl (PySem.W.codeRec_of KX hcd) (hb _ _ _ _ ?_)
  refine wpAny_newFunctionEnv_cells S.kind hkind fun env he s1 ic => ?_
  subst he
  refine ⟨lim.keeps ic.toInCall.keep, codeAny_func ?_⟩
  have bd : Bd (cxOf (L2.CX P w) P w K mg base N qual scope f cdv A outer s H E) k := ⟨hr.deeper _, hg⟩
  have I : Inv (cxOf (L2.CX P w) P w K mg base N qual scope f cdv A outer s H E) [] (L2.start N vs) H s1 := inv_start S hr.hd e0 hl rv ic
  have body_ := hbody cdv A outer s H E bd (takes_of rfl rfl rfl rfl)
  refine wpAny_mono (body_.run [] s1 (L2.start N vs) H _ I (hq _ _ _ _ hsp)) (fun fl s' hs => ?_) fun e s' hs => hs
  have fin : ∀ {σ' : L2.St} {H' : Hp} {v : V} {u : Value}, Inv (cxOf (L2.CX P w) P w K mg base N qual scope f cdv A outer s H E) [] σ' H' s' → RelV v u → Q v H' → L2.CE outer P w H s Q u s' :=
    fun {σ' H' v u} J r2 q2 => ⟨v, H', J.os, J.bare, J.base, J.hok, r2, q2⟩
  cases fl with
  | ret u =>
    obtain ⟨v, σ', H', J, r2, q2⟩ := hs
    exact fin J r2 q2
  | next =>
    obtain ⟨σ', H', J, q2⟩ := hs
    exact fin (v := V.non) (u := Value.none) J rfl q2
  | brk =>
    obtain ⟨_, _, _, q2⟩ := hs
    exact False.elim q2
  | cont =>
    obtain ⟨_, _, _, q2⟩ := hs
    exact False.elim q2
/-- THE RULE for a def -/
theorem fn_okG {P : Program} {w : World} {K : PySem.W.Frag} {mg : Str → Option Value} {base : Heap} {x qual : Str} {params : Arguments} {body : List Stmt} {scope : Scope} {f : Addr} {fd : FuncData} {N ps : List Str} {k n pad : Nat} {fb : Sx}
    (F : FunD K x qual params body scope [] [] f fd) (S : FnScope N ps scope) (hn : ps.length = n) (hN : N.length = n + pad)
    (hbody : ∀ (cdv : Value) (A : Around) (outer : List Env) (s : Shared) (H : Hp) (E : XK), Bd (cxOf (L2.CX P w) P w K mg base N qual scope f cdv A outer s H E) k → Takes (cxOf (L2.CX P w) P w K mg base N qual scope f cdv A outer s H E) (WF E).w →
      CSs (cxOf (L2.CX P w) P w K mg base N qual scope f cdv A outer s H E) (WF E) body fb) : FnG P w K mg base (k + 1) f fd ps (spF K n (defF pad fb)) :=
  fn_okH (t := fun E => tS K fb (WF E)) F S (fun vs H Q E ⟨g, ds, r, S', h1, _, h2, _⟩ => by rw [h2.length, h1, hn]) hbody fun vs H Q E hsp => by
    obtain ⟨g, ds, r, S', h1, gd, h2, e, p⟩ := hsp
    unfold defF at e
    refine ⟨g, ds.map some ++ List.replicate pad none, gd, h2.env (by rw [hN, h1]), ?_⟩
    split at e
    · rename_i env' S2 q2
      cases e
      exact ⟨.nx, env', _, q2, fun F' r' H' ev gd' σ' er => p F' r' H' .non ev gd' rfl⟩
    · rename_i d env' S2 q2
      cases e
      exact ⟨.rt _, env', _, q2, fun F' r' H' ev gd' v rd => p F' r' H' v ev gd' rd⟩
    · rename_i c pp env' S2 q2
      cases e
      exact ⟨.ex _ _, env', _, q2, fun F' r' H' ev gd' σ' cls dd er x => p F' r' H' cls dd ev gd' x⟩
    · cases e
section
variable {X : Cx} {W : Wx} {k n : Nat} {f C : Addr} {fd : FuncData} {ps : List Str} {sp : Sp} {fn : Fn}
/-- the callee's end, where it was called -/
theorem end_G {pins : List (Addr × Obj)} {σ : L2.St} {H : Hp} {s s' : Shared} {Q : VK} {r : Result} {R' : Result → Shared → Prop} (tk : Takes X W.w) (I : Inv X pins σ H s) (hq : CR (L2.CX X.prog X.w) X.stack X.prog X.w H s Q (WE1 W σ) r s') :
    match r with
    | .ok (.ret u) => EP X pins σ Q u s'
    | .ok _ => False
    | .error e => X.xe e s' := by
  cases r with
  | error e => exact passAt tk σ pins H s e s' I hq
  | ok fl =>
    cases fl with
    | ret u => exact I.after hq
    | next => exact hq
    | brk => exact hq
    | cont => exact hq
theorem run_fnG {pins : List (Addr × Obj)} {σ : L2.St} {H : Hp} {s : Shared} {Q : VK} {args : Args} {us : List Value} {vs : List V} (F : FnG X.prog X.w X.K X.mg X.base k f fd ps sp) (B : Bd X k) (tk : Takes X W.w) (hb : BindsTo s fd args (ps.zip us)) (I : Inv X pins σ H s) (r : Vals vs us) (h : sp vs H Q (WE1 W σ)) :
    wpAny (model X.prog X.w) X.A (call (.ref f) args.pos args.kw) (EP X pins σ Q) X.xe s :=
  wpAny_call (codeAny_mono (F.run X.A X.stack s H args us vs Q (WE1 W σ) B.room B.gu I.env0 hb r h) fun r s' hq => by
    have z := end_G (R' := fun _ _ => True) tk I hq
    cases r with
    | error e => exact z
    | ok fl => cases fl <;> first | exact z | exact False.elim z)
end
end FL

namespace FL
open PySem L2

/-- a call: with plain arguments over an empty store, otherwise over the store; what only the callee saw is forgotten -/
def callF (fn : Fn) (ds : List D) (S : List MO) : Option (R D × List MO) :=
  if closedL ds = true then match fn ds [] with
    | some (.ok d, _) => if d.closed = true then some (.ok d, S) else fn ds S
    | some (.ex c p, _) => if closedP p = true then some (.ex c p, S) else fn ds S
    | none => none
  else fn ds S
section
variable {K : PySem.W.Frag} {g : G} {H : Hp}
theorem Good.bare (gd : Good K g H) : Good K ⟨g.F, [], []⟩ H := ⟨gd.ex, rfl, List.nodup_nil, fun n a m h _ => by simp at h, fun n a m h _ _ => by simp at h⟩
theorem conv_bare {F' : Hp} {r' : List Addr} {S0 : List MO} {H' : Hp} (gd : Good K g H) (e : Evo ⟨g.F, [], []⟩ H ⟨F', r', S0⟩ H') (k : Good K ⟨F', r', S0⟩ H') : Evo g H ⟨F', g.r, g.S⟩ H' ∧ Good K ⟨F', g.r, g.S⟩ H' := by
  have kp : ∀ b o, H b = some o → H' b = some o := fun b o q => e.keep b o q (by simp)
  have nf : ∀ b o, F' b = some o → g.F b = some o ∨ H b = none := fun b o q => by
    rcases e.newF b o q with h | h | h
    · exact .inl h
    · simp at h
    · exact .inr h
  refine ⟨⟨e.f, List.prefix_rfl, fun b o q _ => kp b o q, fun b o q => (nf b o q).elim .inl fun h => .inr (.inr h), fun b q => .inl q⟩, k.ex, gd.len, gd.nd, fun n a m h1 h2 => ?_, fun n a m h1 h2 h3 => ?_⟩
  · have h0 := gd.mr n a m h1 h2
    obtain ⟨o, ho⟩ := h0.some_
    exact h0.mono e.f List.prefix_rfl ((kp a o ho).trans ho.symm)
  · cases q : F' a with
    | none => exact q
    | some u =>
      obtain ⟨o, ho⟩ := (gd.mr n a m h1 h2).some_
      rcases nf a u q with h | h
      · rw [gd.fr n a m h1 h2 h3] at h; cases h
      · rw [ho] at h; cases h
theorem call_ok {n : Nat} {fn : Fn} {ds : List D} {vs : List V} {Q : VK} {E : XK} {r : R D} {S' : List MO} (gd : Good K g H) (hl : ds.length = n) (rv : RepL K g.F g.r ds vs) (e : callF fn ds g.S = some (r, S')) (p : PostX K (relD K) g H Q E r S') : spF K n fn vs H Q E := by
  unfold callF at e
  split at e
  · rename_i hc
    split at e
    · rename_i d S0 q
      split at e
      · rename_i hd
        cases e
        refine ⟨⟨g.F, [], []⟩, ds, .ok _, S0, hl, gd.bare, RepL.closed ds vs hc rv, q, fun F' r' H' v ev k rd => ?_⟩
        obtain ⟨e1, e2⟩ := conv_bare gd ev k
        exact p F' g.r H' v e1 e2 (Rep.closed _ v hd rd)
      · exact ⟨g, ds, r, S', hl, gd, rv, e, p⟩
    · rename_i c pp S0 q
      split at e
      · rename_i hd
        cases e
        refine ⟨⟨g.F, [], []⟩, ds, .ex _ _, S0, hl, gd.bare, RepL.closed ds vs hc rv, q, fun F' r' H' cls dd ev k x => ?_⟩
        obtain ⟨e1, e2⟩ := conv_bare gd ev k
        refine p F' g.r H' cls dd e1 e2 ⟨x.1, ?_⟩
        have x2 := x.2
        cases pp with
        | none => exact x2
        | some fd =>
          obtain ⟨fl, d⟩ := fd
          obtain ⟨dx, v, h1, h2, h3⟩ := x2
          exact ⟨dx, v, h1, h2, Rep.closed d v hd h3⟩
      · exact ⟨g, ds, r, S', hl, gd, rv, e, p⟩
    · cases e
  · exact ⟨g, ds, r, S', hl, gd, rv, e, p⟩
end
def fCall (n : Nat) (fn : Fn) (fs : Fx (List D)) : Fx D := bindF fs fun ds _ S => if ds.length = n then callF fn ds S else none
theorem ox_call {X : Cx} {W : Wx} {n : Nat} {fn : Fn} {fs : Fx (List D)} {σ : L2.St} {H : Hp} {Q : VK} (h : tX X.K (relD X.K) (fCall n fn fs) W σ H Q) : tX X.K (relL X.K) fs W σ H fun vs H1 => spF X.K n fn vs H1 Q (WE1 W σ) := by
  obtain ⟨g, env, c⟩ := h
  refine (c.bind (relB := relL X.K)).imp fun vs H1 ⟨ds, g1, rs, ev, gd, er, r, S', q, p⟩ => ?_
  dsimp only at q
  split at q
  · rename_i hl
    exact call_ok gd hl rs q p
  · cases q
/-- how positional arguments come to a def's parameters -/
abbrev BindP (fd : FuncData) (ps : List Str) : Prop := ∀ (s : Shared) (us : List Value), us.length = ps.length → BindsTo s fd ⟨us, []⟩ (ps.zip us)
/-- .. keywords alone, put in the parameters' order -/
abbrev BindK (fd : FuncData) (ps ks : List Str) (m : Nat) (perm : List Nat) : Prop := ∀ (s : Shared) (us ws : List Value), us.length = m → ws.length = ks.length → BindsTo s fd ⟨us, ks.zip ws⟩ (ps.zip (us ++ perm.filterMap (ws[·]?)))
def permL {α : Type} (perm : List Nat) (xs : List α) : List α := perm.filterMap (xs[·]?)
theorem RepL.perm {K : PySem.W.Frag} {F : Hp} {r : List Addr} {ds : List D} {vs : List V} (h : RepL K F r ds vs) : ∀ perm : List Nat, RepL K F r (permL perm ds) (permL perm vs)
  | [] => RepL.nil
  | i :: is => by
    have ih := RepL.perm h is
    unfold permL at ih ⊢
    rw [List.filterMap_cons, List.filterMap_cons]
    cases q : ds[i]? with
    | none =>
      have : vs[i]? = none := by
        rw [List.getElem?_eq_none_iff] at q ⊢
        rw [h.length]
        exact q
      simp only [this]
      exact ih
    | some d =>
      obtain ⟨v, h1, h2⟩ := h.get q
      simp only [h1]
      exact RepL.cons h2 ih
theorem Vals.perm {vs : List V} {us : List Value} (h : Vals vs us) : ∀ perm : List Nat, Vals (permL perm vs) (permL perm us)
  | [] => .nil
  | i :: is => by
    have ih := Vals.perm h is
    unfold permL at ih ⊢
    rw [List.filterMap_cons, List.filterMap_cons]
    cases q : vs[i]? with
    | none =>
      have : us[i]? = none := h.none_of q
      simp only [this]
      exact ih
    | some v =>
      obtain ⟨u, h1, h2⟩ := h.get q
      simp only [h1]
      exact .cons h2 ih
section
variable {X : Cx} {W : Wx} {k n : Nat} {f C : Addr} {fd : FuncData} {ps ks : List Str} {fn : Fn} {x m : Str} {p pos apos : Pos} {e o : Expr} {es : List Expr} {kws : List Keyword} {fs : Fx (List D)} {fo : Fx D}
theorem len_of_sp {K : PySem.W.Frag} {vs : List V} {H : Hp} {Q : VK} {E : XK} (h : spF K n fn vs H Q E) : vs.length = n := by
  obtain ⟨g, ds, r, S', h1, _, h2, _⟩ := h
  rw [h2.length, h1]
/-- f(e, ..) -/
theorem ce_call (F : FnG X.prog X.w X.K X.mg X.base k f fd ps (spF X.K n fn)) (B : Bd X k) (tk : Takes X W.w) (hm : X.mg x = some (.ref f)) (hk : PySem.W.keepIn X.K (.ref f) = true) (hb : BindP fd ps) (ha : CA X W (e :: es) fs)
    (hg : Gl X x := by rfl) (hdb : (x == ("__debug__" : Str)) = false := by decide) (he : starEach (e :: es) X.env = (false, eval e X.env) :: starEach es X.env := by rfl) (hpl : (backTo pos (starEach es X.env)).any (·.1) = false := by rfl) :
    CE X W (.Call (.Name x p) (e :: es) [] pos) (fCall n fn fs) :=
  ⟨fun pins s σ H Q I h => wpAny_Call_Name_kw (ld_glob I hg hm (PySem.W.callWith_K (h₀ := X.base) I.ok.mod.kin hk (thn (ha.run pos pins s σ H _ I (ox_call h)) fun us s1 ⟨vs, H1, I1, r, q⟩ =>
    ⟨I1.kIn, run_fnG (args := ⟨us, []⟩) F B tk (hb s1 us (by rw [← r.length]; exact F.len _ _ _ _ q)) I1 r q⟩) he hpl) hdb)⟩
/-- f() -/
theorem ce_call0 (F : FnG X.prog X.w X.K X.mg X.base k f fd ps (spF X.K n fn)) (B : Bd X k) (tk : Takes X W.w) (hm : X.mg x = some (.ref f)) (hk : PySem.W.keepIn X.K (.ref f) = true) (hb : BindP fd ps)
    (hg : Gl X x := by rfl) (hdb : (x == ("__debug__" : Str)) = false := by decide) : CE X W (.Call (.Name x p) [] [] pos) (fCall n fn (pureF [])) :=
  ⟨fun pins s σ H Q I h => wpAny_Call_Name_kw (ld_glob I hg hm (PySem.W.callWith_K0 I.kIn hk (by
    obtain ⟨g, env, c⟩ := ox_call h
    have q := c.pure RepL.nil
    exact run_fnG (args := ⟨[], []⟩) F B tk (hb s [] (by have := F.len _ _ _ _ q; simpa using this)) I .nil q)) hdb)⟩
abbrev CK (X : Cx) (W : Wx) (kws : List Keyword) (f : Fx (List D)) : Prop := PK X kws (tX X.K (relL X.K) f W)
theorem PK.imp {t t' : TA} (h : PK X kws t) (w : ∀ σ H Q, t' σ H Q → t σ H Q) : PK X kws t' := ⟨fun pos pins s σ H Q I q => h.run pos pins s σ H Q I (w σ H Q q)⟩
theorem ck_nil : CK X W [] (pureF []) := PK.imp pk_nil fun σ H Q ⟨g, env, c⟩ => c.pure RepL.nil
theorem ck_cons {nm : Option Str} {kpos : Pos} {f : Fx D} {t : Fx (List D)} (ha : CE X W e f) (hr : CK X W kws t) : CK X W (⟨nm, e, kpos⟩ :: kws) (fCons f t) :=
  PK.imp (pk_cons ha hr) fun σ H Q ⟨g, env, c⟩ => (c.bind (relB := relD X.K)).imp fun v H1 ⟨d, g1, rd, ev, c1⟩ =>
    (c1.bind (relB := relL X.K)).imp fun vs H2 ⟨ds, g2, rds, ev2, c2⟩ => c2.pure (RepL.cons (rd.mono ev2.f ev2.r) rds)
/-- f(k = v, ..) -/
def fPerm (perm : List Nat) (fs : Fx (List D)) : Fx (List D) := bindF fs fun ds => pureF (permL perm ds)
theorem ce_callK (perm : List Nat) (F : FnG X.prog X.w X.K X.mg X.base k f fd ps (spF X.K n fn)) (B : Bd X k) (tk : Takes X W.w) (hm : X.mg x = some (.ref f)) (hk : PySem.W.keepIn X.K (.ref f) = true) (hb : BindK fd ps ks 0 perm) (hkw : CK X W kws fs) (hl : ks.length = kws.length)
    (hall : (backToKw pos (keywordEach kws X.env)).all (·.1.isSome) = true := by rfl) (hks : (backToKw pos (keywordEach kws X.env)).filterMap (·.1) = ks := by rfl) (hg : Gl X x := by rfl) (hdb : (x == ("__debug__" : Str)) = false := by decide)
    (hpl : ((backTo pos (starEach [] X.env)).any (·.1) || (backToKw pos (keywordEach kws X.env)).any (·.1.isNone)) = false := by rfl) :
    CE X W (.Call (.Name x p) [] kws pos) (bindF (bindF fs fun ds => liftF fun _ => if ds.length = ks.length then some (permL perm ds) else none) fun ds _ S => if ds.length = n then callF fn ds S else none) :=
  ⟨fun pins s σ H Q I h => wpAny_Call_Name_kw (ld_glob I hg hm (PySem.W.callWith_KW0 (h₀ := X.base) I.ok.mod.kin hk hall (by
    have h2 : tX X.K (relL X.K) fs W σ H fun zs H1 => zs.length = ks.length ∧ spF X.K n fn (permL perm zs) H1 Q (WE1 W σ) := by
      obtain ⟨g, env, c⟩ := ox_call (fs := bindF fs fun ds => liftF fun _ => if ds.length = ks.length then some (permL perm ds) else none) h
      refine (c.bind (relB := relL X.K)).imp fun zs H1 ⟨ds, g1, rs, ev, c1⟩ => ?_
      obtain ⟨a, e, q⟩ := c1.lift
      split at e
      · rename_i hz
        cases e
        exact ⟨by rw [rs.length, hz], q _ _ _ _ (Evo.refl _ _) c1.good (rs.perm perm)⟩
      · cases e
    refine thn (hkw.run pos pins s σ H _ I h2) fun ws s2 ⟨zs, H2, I2, rz, l2, q2⟩ => ⟨I2.kIn, ?_⟩
    rw [hks]
    exact run_fnG (args := ⟨[], ks.zip ws⟩) F B tk (hb s2 [] ws rfl (by rw [← rz.length]; exact l2)) I2 (Vals.perm rz perm) q2) hpl) hdb)⟩

/-- o is an instance of the class c without a field m -/
def isInst (c m : Str) (S : List MO) (o : D) : Option D := match insView S o with
  | some (c', ns, _) => if c' = c ∧ m ∉ ns then some o else none
  | none => none
def fMeth (n : Nat) (c m : Str) (fn : Fn) (fo : Fx D) (fs : Fx (List D)) : Fx D := bindF (bindF fo fun o => liftF fun S => isInst c m S o) fun o => bindF fs fun ds _ S => if ds.length + 1 = n then callF fn (o :: ds) S else none
theorem lookup_none {m : Str} : ∀ {fs : List (Str × V)}, m ∉ fs.map (·.1) → fs.lookup m = none
  | [], _ => rfl
  | (y, v) :: fs, h => by
    rw [List.lookup_cons]
    have h1 : (m == y) = false := beq_eq_false_iff_ne.mpr fun e => h (by simp [e])
    rw [h1]
    exact lookup_none fun z => h (by simp only [List.map_cons, List.mem_cons]; exact .inr z)
theorem ox_meth {c : Str} {σ : L2.St} {H : Hp} {Q : VK} (h : tX X.K (relD X.K) (fMeth n c m fn fo fs) W σ H Q) :
    tX X.K (relD X.K) fo W σ H fun x H1 => ∃ a dx ff, x = .ref a ∧ H1 a = some (.ins (He.ga X.K c) dx ff) ∧ ff.lookup m = none ∧ tX X.K (relL X.K) fs W σ H1 fun vs H2 => spF X.K n fn (x :: vs) H2 Q (WE1 W σ) := by
  obtain ⟨g, env, cf⟩ := h
  have key := cf.bind (relB := relD X.K)
  obtain ⟨g0, env0, c0⟩ := key
  refine (c0.bind (relB := relD X.K)).imp fun x H1 ⟨o, g1, rx, ev, c1⟩ => ?_
  obtain ⟨o', e1, q1⟩ := c1.lift
  unfold isInst at e1
  split at e1
  · rename_i c' ns vs0 qv
    split at e1
    · rename_i hm
      cases e1
      obtain ⟨a, dx, ff, h1, h2, h3, h4⟩ := insView_ok c1.good rx qv
      obtain ⟨d, g2, rd, ev2, c2⟩ := q1 _ _ _ x (Evo.refl _ _) c1.good rx
      refine ⟨a, dx, ff, h1, by rw [← hm.1]; exact h2, lookup_none (by rw [h3]; exact hm.2), ?_⟩
      refine (c2.bind (relB := relL X.K)).imp fun vs H2 ⟨ds, g3, rs, ev3, gd, er, r, S', q, p⟩ => ?_
      dsimp only at q
      split at q
      · rename_i hl
        exact call_ok gd (by simpa using hl) (RepL.cons (rd.mono ev3.f ev3.r) rs) q p
      · cases q
    · cases e1
  · cases e1
theorem ce_meth {c : Str} {pl : Sem Bool} (cl : Cls X.K (He.ga X.K c)) (hm : Meth X.K (He.ga X.K c) m f) (F : FnG X.prog X.w X.K X.mg X.base k f fd ps (spF X.K n fn)) (B : Bd X k) (tk : Takes X W.w) (hb : BindP fd ps) (he : CE X W o fo) (ha : CA X W (e :: es) fs)
    (hst : starEach (e :: es) X.env = (false, eval e X.env) :: starEach es X.env := by rfl) (hpl : (backTo pos (starEach es X.env)).any (·.1) = false := by rfl)
    (ht : eval (.Call (.Attribute o m apos) (e :: es) [] pos) X.env = (do
      let ov ← eval o X.env
      standAt apos.atName
      let (f, first) ← holding [ov] (getMethod ov m pl)
      callWith pos f first (backTo pos (starEach (e :: es) X.env)) (backToKw pos (keywordEach [] X.env))) := by rfl) :
    CE X W (.Call (.Attribute o m apos) (e :: es) [] pos) (fMeth n c m fn fo fs) :=
  ⟨fun pins s σ H Q I h => PySem.W.methodCall_KW (pl := pl) (thn (he.run pins s σ H _ I (ox_meth h)) fun u s1 ⟨x, H1, I1, rx, a, dx, ff, ex, ea, l, q⟩ => by
    subst ex
    cases rx
    refine getmeth_ok I1 ea cl hm l ?_
    refine PySem.W.callWith_K (first := [.ref a]) (h₀ := X.base) I.ok.mod.kin hm.kp (thn (ha.run pos pins s1 σ H1 _ I1 q) fun us s2 ⟨vs, H2, I2, r, q2⟩ => ⟨I2.kIn, ?_⟩) hst hpl
    exact run_fnG (args := ⟨.ref a :: us, []⟩) F B tk (hb s2 _ (by have := F.len _ _ _ _ q2; rw [List.length_cons, ← r.length]; simpa using this)) I2 (.cons (show RelV (.ref a) (Value.ref a) from rfl) r) q2) ht⟩
theorem ce_meth0 {c : Str} {pl : Sem Bool} (cl : Cls X.K (He.ga X.K c)) (hm : Meth X.K (He.ga X.K c) m f) (F : FnG X.prog X.w X.K X.mg X.base k f fd ps (spF X.K n fn)) (B : Bd X k) (tk : Takes X W.w) (hb : BindP fd ps) (he : CE X W o fo)
    (ht : eval (.Call (.Attribute o m apos) [] [] pos) X.env = (do
      let ov ← eval o X.env
      standAt apos.atName
      let (f, first) ← holding [ov] (getMethod ov m pl)
      callWith pos f first (backTo pos (starEach [] X.env)) (backToKw pos (keywordEach [] X.env))) := by rfl) :
    CE X W (.Call (.Attribute o m apos) [] [] pos) (fMeth n c m fn fo (pureF [])) :=
  ⟨fun pins s σ H Q I h => PySem.W.methodCall_KW (pl := pl) (thn (he.run pins s σ H _ I (ox_meth h)) fun u s1 ⟨x, H1, I1, rx, a, dx, ff, ex, ea, l, q⟩ => by
    subst ex
    cases rx
    obtain ⟨g, env, cf⟩ := q
    have q2 := cf.pure RepL.nil
    refine getmeth_ok I1 ea cl hm l (PySem.W.callWith_K0 (first := [.ref a]) I1.kIn hm.kp ?_)
    exact run_fnG (args := ⟨[.ref a], []⟩) F B tk (hb s1 _ (by have := F.len _ _ _ _ q2; simpa using this)) I1 (.cons (show RelV (.ref a) (Value.ref a) from rfl) .nil) q2) ht⟩
/-- o.m(k = v, ..) -/
theorem ce_methK {c : Str} {pl : Sem Bool} (perm : List Nat) (cl : Cls X.K (He.ga X.K c)) (hm : Meth X.K (He.ga X.K c) m f) (F : FnG X.prog X.w X.K X.mg X.base k f fd ps (spF X.K n fn)) (B : Bd X k) (tk : Takes X W.w) (hb : BindK fd ps ks 1 perm) (he : CE X W o fo) (hkw : CK X W kws fs)
    (hall : (backToKw pos (keywordEach kws X.env)).all (·.1.isSome) = true := by rfl) (hks : (backToKw pos (keywordEach kws X.env)).filterMap (·.1) = ks := by rfl)
    (hpl : ((backTo pos (starEach [] X.env)).any (·.1) || (backToKw pos (keywordEach kws X.env)).any (·.1.isNone)) = false := by rfl)
    (ht : eval (.Call (.Attribute o m apos) [] kws pos) X.env = (do
      let ov ← eval o X.env
      standAt apos.atName
      let (f, first) ← holding [ov] (getMethod ov m pl)
      callWith pos f first (backTo pos (starEach [] X.env)) (backToKw pos (keywordEach kws X.env))) := by rfl) :
    CE X W (.Call (.Attribute o m apos) [] kws pos) (fMeth n c m fn fo (bindF fs fun ds => liftF fun _ => if ds.length = ks.length then some (permL perm ds) else none)) :=
  ⟨fun pins s σ H Q I h => PySem.W.methodCall_KW (pl := pl) (thn (he.run pins s σ H _ I (ox_meth h)) fun u s1 ⟨x, H1, I1, rx, a, dx, ff, ex, ea, l, q⟩ => by
    subst ex
    cases rx
    refine getmeth_ok I1 ea cl hm l ?_
    have h2 : tX X.K (relL X.K) fs W σ H1 fun zs H2 => zs.length = ks.length ∧ spF X.K n fn (.ref a :: permL perm zs) H2 Q (WE1 W σ) := by
      obtain ⟨g, env, cf⟩ := q
      refine (cf.bind (relB := relL X.K)).imp fun zs H2 ⟨ds, g1, rs, ev, c1⟩ => ?_
      obtain ⟨z, e, q⟩ := c1.lift
      split at e
      · rename_i hz
        cases e
        exact ⟨by rw [rs.length, hz], q _ _ _ _ (Evo.refl _ _) c1.good (rs.perm perm)⟩
      · cases e
    refine PySem.W.callWith_KW0 (first := [.ref a]) (h₀ := X.base) I.ok.mod.kin hm.kp hall ?_ hpl
    refine thn (hkw.run pos pins s1 σ H1 _ I1 h2) fun ws s2 ⟨zs, H2, I2, rz, l2, q2⟩ => ⟨I2.kIn, ?_⟩
    rw [hks]
    exact run_fnG (args := ⟨[.ref a], ks.zip ws⟩) F B tk (hb s2 [.ref a] ws rfl (by rw [← rz.length]; exact l2)) I2 (.cons (show RelV (.ref a) (Value.ref a) from rfl) (Vals.perm rz perm)) q2) ht⟩
end
end FL

namespace FL
open PySem L2

/-- C(..): an object of the store | plain data -/
def makeF (c : Str) (fn : Fn) (ds : List D) (S : List MO) : Option (R D × List MO) := match fn (.obj S.length :: ds) (S ++ [.ins c [] []]) with
  | some (.ok .non, S') => some (.ok (.obj S.length), S')
  | some (.ex e p, S') => some (.ex e p, S')
  | _ => none
def makeP (c : Str) (fn : Fn) (ds : List D) (S : List MO) : Option (R D × List MO) := if closedL ds = true then match fn (.obj 0 :: ds) [.ins c [] []] with
  | some (.ok .non, .ins c' ns vs :: _) => if c' = c ∧ closedL vs = true then some (.ok (.ins c ns vs), S) else none
  | some (.ex e p, _) => if closedP p = true then some (.ex e p, S) else none
  | _ => none else none
def spM (K : PySem.W.Frag) (n : Nat) (c : Str) (fn : Fn) (vs : List V) (H : Hp) (Q : VK) (E : XK) : Prop := ∀ (x dx : Addr), H x = none → H dx = none → dx ≠ x →
  spF K n fn (.ref x :: vs) (upd (upd H dx (.own x)) x (.ins (He.ga K c) dx [])) (fun v H2 => v = .non ∧ Q (.ref x) H2) E
section
variable {K : PySem.W.Frag} {g : G} {H : Hp} {c : Str} {fn : Fn} {n : Nat} {ds : List D} {vs : List V} {Q : VK} {E : XK} {r : R D} {S' : List MO}
theorem Good.nof (gd : Good K g H) {p : Addr} (hp : H p = none) : g.F p = none ∧ p ∉ g.r := by
  refine ⟨?_, fun z => ?_⟩
  · cases q : g.F p with
    | none => rfl
    | some u => rw [gd.ex p u q] at hp; cases hp
  · obtain ⟨o, q⟩ := gd.there z
    rw [hp] at q
    cases q
theorem Evo.beside {p : Addr} (hp : H p = none) {o : HO} : Evo g H g (upd H p o) :=
  ⟨Same.refl _, List.prefix_rfl, fun b u e _ => by rw [upd_ne (ne_of_none e hp)]; exact e, fun b u e => .inl e, fun b e => .inl e⟩
/-- the state with the new instance, over a store -/
theorem Good.inst {x dx : Addr} (gd : Good K g H) (hx : H x = none) (hd : H dx = none) (ne : dx ≠ x) :
    Evo g H ⟨g.F, g.r ++ [x], g.S ++ [.ins c [] []]⟩ (upd (upd H dx (.own x)) x (.ins (He.ga K c) dx [])) ∧ Good K ⟨g.F, g.r ++ [x], g.S ++ [.ins c [] []]⟩ (upd (upd H dx (.own x)) x (.ins (He.ga K c) dx [])) := by
  obtain ⟨f1, f2⟩ := gd.nof hd
  have gd1 : Good K g (upd H dx (.own x)) := gd.side f1 f2
  have e1 : Evo g H g (upd H dx (.own x)) := Evo.beside hd
  have hx1 : upd H dx (.own x) x = none := by rw [upd_ne ne.symm]; exact hx
  exact ⟨e1.trans gd1 (Evo.fresh gd1 hx1), gd1.fresh hx1 ⟨dx, [], upd_same, rfl, RepL.nil⟩⟩
theorem make_ok (gd : Good K g H) (hl : ds.length + 1 = n) (rv : RepL K g.F g.r ds vs) (e : makeF c fn ds g.S = some (r, S')) (p : PostX K (relD K) g H Q E r S') : spM K n c fn vs H Q E := fun x dx hx hd ne => by
  obtain ⟨e1, k1⟩ := gd.inst (c := c) hx hd ne
  have hob : ∀ (F' : Hp) (r' : List Addr), g.r ++ [x] <+: r' → Rep K F' r' (.obj g.S.length) (.ref x) := fun F' r' pr => ⟨x, rfl, pre_get pr (by rw [← gd.len]; simp)⟩
  unfold makeF at e
  split at e
  · rename_i S2 q
    cases e
    refine ⟨_, .obj g.S.length :: ds, .ok .non, _, by simpa using hl, k1, RepL.cons (hob _ _ List.prefix_rfl) (rv.mono e1.f e1.r), q, fun F' r' H' v ev k rd => ⟨rd, ?_⟩⟩
    exact p F' r' H' _ (e1.trans k1 ev) k (hob F' r' ev.r)
  · rename_i e' pp S2 q
    cases e
    exact ⟨_, .obj g.S.length :: ds, .ex _ _, _, by simpa using hl, k1, RepL.cons (hob _ _ List.prefix_rfl) (rv.mono e1.f e1.r), q, fun F' r' H' cls dd ev k x => p F' r' H' cls dd (e1.trans k1 ev) k x⟩
  · cases e
theorem makeP_ok (gd : Good K g H) (hl : ds.length + 1 = n) (rv : RepL K g.F g.r ds vs) (e : makeP c fn ds g.S = some (r, S')) (p : PostX K (relD K) g H Q E r S') : spM K n c fn vs H Q E := fun x dx hx hd ne => by
  obtain ⟨e1, k1⟩ := gd.bare.inst (c := c) hx hd ne
  have e1' : Evo ⟨g.F, [], []⟩ H ⟨g.F, [x], [.ins c [] []]⟩ (upd (upd H dx (.own x)) x (.ins (He.ga K c) dx [])) := e1
  have k1' : Good K ⟨g.F, [x], [.ins c [] []]⟩ (upd (upd H dx (.own x)) x (.ins (He.ga K c) dx [])) := k1
  unfold makeP at e
  split at e
  · rename_i hc
    have rv1 : RepL K g.F [x] (.obj 0 :: ds) (.ref x :: vs) := RepL.cons ⟨x, rfl, rfl⟩ (RepL.closed ds vs hc rv)
    split at e
    · rename_i c' ns ws S2 q
      split at e
      · rename_i hcc
        cases e
        obtain ⟨rfl, hw⟩ := hcc
        refine ⟨_, .obj 0 :: ds, .ok .non, _, by simpa using hl, k1', rv1, q, fun F' r' H' v ev k rd => ⟨rd, ?_⟩⟩
        have hr : r'[0]? = some x := pre_get ev.r rfl
        have hs : (MO.ins c' ns ws :: S2)[0]? = some (MO.ins c' ns ws) := rfl
        obtain ⟨dx', fs, h1, h2, h3⟩ := k.mr 0 x _ hr hs
        have nf : F' x = none := k.fr 0 x _ hr hs (fun z => by cases z)
        obtain ⟨e2, k2⟩ := conv_bare gd (e1'.trans k1' ev) k
        have sm : Same F' (upd F' x (.ins (He.ga K c') dx' fs)) := same_new nf
        obtain ⟨_, nr⟩ := gd.nof hx
        refine p (upd F' x (.ins (He.ga K c') dx' fs)) g.r H' _ ⟨e2.f.trans sm, List.prefix_rfl, e2.keep, fun b o z => ?_, e2.newR⟩ ⟨fun b o z => ?_, gd.len, gd.nd, fun m a mo z1 z2 => (k2.mr m a mo z1 z2).mono sm List.prefix_rfl rfl, fun m a mo z1 z2 z3 => ?_⟩ ⟨x, dx', fs, rfl, upd_same, h2, RepL.closed ws _ hw (h3.mono sm List.prefix_rfl)⟩
        · by_cases hb : b = x
          · exact .inr (.inr (hb ▸ hx))
          · have z' : upd F' x (.ins (He.ga K c') dx' fs) b = some o := z
            rw [upd_ne hb] at z'
            exact e2.newF b o z'
        · have z' : upd F' x (.ins (He.ga K c') dx' fs) b = some o := z
          by_cases hb : b = x
          · subst hb
            rw [upd_same] at z'
            cases z'
            exact h1
          · rw [upd_ne hb] at z'
            exact k2.ex b o z'
        · have hne : a ≠ x := fun w => nr (w ▸ List.mem_of_getElem? z1)
          show upd F' x (.ins (He.ga K c') dx' fs) a = none
          rw [upd_ne hne]
          exact k2.fr m a mo z1 z2 z3
      · cases e
    · rename_i e' pp S2 q
      split at e
      · rename_i hcp
        cases e
        refine ⟨_, .obj 0 :: ds, .ex _ _, _, by simpa using hl, k1', rv1, q, fun F' r' H' cls dd ev k z => ?_⟩
        obtain ⟨e2, k2⟩ := conv_bare gd (e1'.trans k1' ev) k
        refine p F' g.r H' cls dd e2 k2 ⟨z.1, ?_⟩
        have z2 := z.2
        cases pp with
        | none => exact z2
        | some fd =>
          obtain ⟨fl, d⟩ := fd
          obtain ⟨dx, v, h1, h2, h3⟩ := z2
          exact ⟨dx, v, h1, h2, Rep.closed d v hcp h3⟩
      · cases e
    · cases e
  · cases e
end
def fMake (mk : Str → Fn → List D → List MO → Option (R D × List MO)) (n : Nat) (c : Str) (fn : Fn) (fs : Fx (List D)) : Fx D := bindF fs fun ds _ S => if ds.length + 1 = n then mk c fn ds S else none
abbrev MkLk (mk : Str → Fn → List D → List MO → Option (R D × List MO)) : Prop := ∀ {K : PySem.W.Frag} {g : G} {H : Hp} {c : Str} {fn : Fn} {n : Nat} {ds : List D} {vs : List V} {Q : VK} {E : XK} {r : R D} {S' : List MO}, Good K g H → ds.length + 1 = n → RepL K g.F g.r ds vs → mk c fn ds g.S = some (r, S') → PostX K (relD K) g H Q E r S' → spM K n c fn vs H Q E
theorem ox_make {X : Cx} {W : Wx} {mk : Str → Fn → List D → List MO → Option (R D × List MO)} (lk : MkLk mk) {n : Nat} {c : Str} {fn : Fn} {fs : Fx (List D)} {σ : L2.St} {H : Hp} {Q : VK} (h : tX X.K (relD X.K) (fMake mk n c fn fs) W σ H Q) : tX X.K (relL X.K) fs W σ H fun vs H1 => vs.length + 1 = n ∧ spM X.K n c fn vs H1 Q (WE1 W σ) := by
  obtain ⟨g, env, cf⟩ := h
  refine (cf.bind (relB := relL X.K)).imp fun vs H1 ⟨ds, g1, rs, ev, gd, er, r, S', q, p⟩ => ?_
  dsimp only at q
  split at q
  · rename_i hl
    exact ⟨by rw [rs.length]; exact hl, lk gd hl rs q p⟩
  · cases q
section
variable {X : Cx} {W : Wx} {k n : Nat} {f : Addr} {fd : FuncData} {ps ks : List Str} {fn : Fn} {x c : Str} {p pos : Pos} {e : Expr} {es : List Expr} {kws : List Keyword} {fs : Fx (List D)}
theorem make_guards {A : Around} {C : Addr} {us : List Value} {kw : List (Str × Value)} (h : A.guards = some []) : (A.under (.builtin "type.__call__" ⟨.ref C :: us, kw⟩)).guards = some [] := by
  show pushGuards (Code.guards (.builtin "type.__call__" ⟨.ref C :: us, kw⟩)) A.guards = _
  have e : Code.guards (.builtin "type.__call__" ⟨.ref C :: us, kw⟩) = [] := by
    unfold Code.guards
    rw [if_neg]
    show ¬ (guardIds.contains "type.__call__" = true)
    decide +kernel
  rw [e, h]
  rfl
theorem run_mkG {pins : List (Addr × Obj)} {σ : L2.St} {H : Hp} {s : Shared} {Q : VK} {args : Args} {us : List Value} {vs : List V} (M : Mk X.K (He.ga X.K c) f) (F : FnG X.prog X.w X.K X.mg X.base k f fd ps (spF X.K n fn)) (B : Bd X (k + 1)) (tk : Takes X W.w)
    (hb : BindsTo { s with heap := (s.heap.push PySem.W.emptyDict).push (PySem.W.instObj (He.ga X.K c) s.heap.objs.size) } fd ⟨.ref (s.heap.objs.size + 1) :: args.pos, args.kw⟩ (ps.zip (.ref (s.heap.objs.size + 1) :: us))) (I : Inv X pins σ H s) (r : Vals vs us) (h : spM X.K n c fn vs H Q (WE1 W σ)) :
    wpAny (model X.prog X.w) X.A (call (.ref (He.ga X.K c)) args.pos args.kw) (EP X pins σ Q) X.xe s := by
  have hq := h (s.heap.objs.size + 1) s.heap.objs.size (I.hok.fresh (Nat.le_succ _)) (I.hok.fresh (Nat.le_refl _)) (Nat.ne_of_lt (Nat.lt_succ_self _))
  have I2 := Inv.made (C := He.ga X.K c) I
  have r2 : Vals (V.ref (s.heap.objs.size + 1) :: vs) (Value.ref (s.heap.objs.size + 1) :: us) := .cons (show RelV (.ref _) (Value.ref _) from rfl) r
  refine wpAny_call (make_map (f := f) I.kIn M.makes M.init (beq_iff_eq.mp M.fn) (codeAny_mono (F.run _ X.stack _ _ ⟨.ref (s.heap.objs.size + 1) :: args.pos, args.kw⟩ _ _ _ (WE1 W σ) (B.room.make (He.ga X.K c) args.pos args.kw) (make_guards B.gu) (I2.env0.make (He.ga X.K c) args.pos args.kw) hb r2 hq) fun r s' hq' => ?_))
  cases r with
  | error e => exact passAt tk σ pins _ _ e s' I2 hq'
  | ok fl =>
    cases fl with
    | ret u =>
      obtain ⟨v, H', I3, rv, ev, q3⟩ := I2.after hq'
      subst ev
      exact ⟨rv, ⟨V.ref (s.heap.objs.size + 1), H', I3, rfl, q3⟩⟩
    | next => exact False.elim hq'
    | brk => exact False.elim hq'
    | cont => exact False.elim hq'
theorem ce_make {mk : Str → Fn → List D → List MO → Option (R D × List MO)} (lk : MkLk mk) (M : Mk X.K (He.ga X.K c) f) (F : FnG X.prog X.w X.K X.mg X.base k f fd ps (spF X.K n fn)) (B : Bd X (k + 1)) (tk : Takes X W.w) (hm : X.mg c = some (.ref (He.ga X.K c))) (hb : BindP fd ps) (hn : ps.length = n) (ha : CA X W (e :: es) fs)
    (hg : Gl X c := by rfl) (hdb : (c == ("__debug__" : Str)) = false := by decide) (he : starEach (e :: es) X.env = (false, eval e X.env) :: starEach es X.env := by rfl) (hpl : (backTo pos (starEach es X.env)).any (·.1) = false := by rfl) :
    CE X W (.Call (.Name c p) (e :: es) [] pos) (fMake mk n c fn fs) :=
  ⟨fun pins s σ H Q I h => wpAny_Call_Name_kw (ld_glob I hg hm (PySem.W.callWith_K (h₀ := X.base) I.ok.mod.kin M.kp (thn (ha.run pos pins s σ H _ I (ox_make lk h)) fun us s1 ⟨vs, H1, I1, r, l, q⟩ =>
    ⟨I1.kIn, run_mkG (args := ⟨us, []⟩) M F B tk (hb _ _ (by rw [List.length_cons, ← r.length, hn]; exact l)) I1 r q⟩) he hpl) hdb)⟩
theorem ce_makeK {mk : Str → Fn → List D → List MO → Option (R D × List MO)} (lk : MkLk mk) (perm : List Nat) (M : Mk X.K (He.ga X.K c) f) (F : FnG X.prog X.w X.K X.mg X.base k f fd ps (spF X.K n fn)) (B : Bd X (k + 1)) (tk : Takes X W.w) (hm : X.mg c = some (.ref (He.ga X.K c))) (hb : BindK fd ps ks 1 perm) (hkw : CK X W kws fs)
    (hall : (backToKw pos (keywordEach kws X.env)).all (·.1.isSome) = true := by rfl) (hks : (backToKw pos (keywordEach kws X.env)).filterMap (·.1) = ks := by rfl) (hg : Gl X c := by rfl) (hdb : (c == ("__debug__" : Str)) = false := by decide)
    (hpl : ((backTo pos (starEach [] X.env)).any (·.1) || (backToKw pos (keywordEach kws X.env)).any (·.1.isNone)) = false := by rfl) :
    CE X W (.Call (.Name c p) [] kws pos) (fMake mk n c fn (bindF fs fun ds => liftF fun _ => if ds.length = ks.length then some (permL perm ds) else none)) :=
  ⟨fun pins s σ H Q I h => wpAny_Call_Name_kw (ld_glob I hg hm (PySem.W.callWith_KW0 (h₀ := X.base) I.ok.mod.kin M.kp hall (by
    have h2 : tX X.K (relL X.K) fs W σ H fun zs H1 => zs.length = ks.length ∧ spM X.K n c fn (permL perm zs) H1 Q (WE1 W σ) := by
      obtain ⟨g, env, cf⟩ := ox_make lk h
      refine (cf.bind (relB := relL X.K)).imp fun zs H1 ⟨ds, g1, rs, ev, c1⟩ => ?_
      obtain ⟨a, e, q⟩ := c1.lift
      split at e
      · rename_i hz
        cases e
        exact ⟨by rw [rs.length, hz], (q _ _ _ _ (Evo.refl _ _) c1.good (rs.perm perm)).2⟩
      · cases e
    refine thn (hkw.run pos pins s σ H _ I h2) fun ws s2 ⟨zs, H2, I2, rz, l2, q2⟩ => ⟨I2.kIn, ?_⟩
    rw [hks]
    exact run_mkG (args := ⟨[], ks.zip ws⟩) M F B tk (hb _ [_] ws rfl (by rw [← rz.length]; exact l2)) I2 (Vals.perm rz perm) q2) hpl) hdb)⟩
end
end FL

namespace FL
open PySem L2

/-- built-in types that data have -/
inductive Bt where
  | non | bool | int | str | list | tuple | dict
  deriving DecidableEq
def Bt.name : Bt → String
  | .non => "NoneType" | .bool => "bool" | .int => "int" | .str => "str" | .list => "list" | .tuple => "tuple" | .dict => "dict"
def Bt.sub (a b : Bt) : Bool := decide (a = b) || (decide (a = .bool) && decide (b = .int))
theorem Bt.kit (a b : Bt) : kitB a.name b.name = some (a.sub b) := by
  cases a <;> cases b <;> decide +kernel
/-- a class as it stands in the text -/
inductive Cl where
  | b (t : Bt)
  | own (c : Str)
def tyD (S : List MO) : D → Option Cl
  | .non => some (.b .non)
  | .bl _ => some (.b .bool)
  | .int _ => some (.b .int)
  | .str _ => some (.b .str)
  | .tup _ => some (.b .tuple)
  | .lst _ => some (.b .list)
  | .scr _ => some (.b .list)
  | .dK _ _ => some (.b .dict)
  | .dT _ _ => some (.b .dict)
  | .ins c _ _ => some (.own c)
  | .exc => none
  | .obj n => match S[n]? with
    | some (.lst _) => some (.b .list)
    | some (.dK _ _) => some (.b .dict)
    | some (.dT _ _) => some (.b .dict)
    | some (.ins c _ _) => some (.own c)
    | _ => none
/-- what is known of the own classes that are asked about -/
structure OwnOk (K : PySem.W.Frag) (owns : List Str) : Prop where
  cls : ∀ c ∈ owns, Cls K (He.ga K c)
  at_ : ∀ c ∈ owns, PySem.W.findIn K (.ref (He.ga K c)) "__class__" = some (some (.builtin "object.__class__"))
  get : PySem.W.specialIn K (.builtin "object.__class__") "__get__" = some (some (.builtin "getset_descriptor.__get__"))
  takes : PySem.W.takesIn K (.builtin "object.__class__") = some true
  mro : ∀ c ∈ owns, PySem.W.mroIn K (He.ga K c) (.type "object") = some true
  to : ∀ c ∈ owns, ∀ b : Bt, PySem.W.kitOne K (.ref (He.ga K c)) (.type b.name) = some false
  fro : ∀ c ∈ owns, ∀ b : Bt, PySem.W.kitOne K (.type b.name) (.ref (He.ga K c)) = some false
  own : ∀ c ∈ owns, ∀ d ∈ owns, PySem.W.kitOne K (.ref (He.ga K c)) (.ref (He.ga K d)) = some (decide (c = d))
def kitD (owns : List Str) : Cl → Cl → Option Bool
  | .b a, .b b => some (a.sub b)
  | .own c, .b _ => if c ∈ owns then some false else none
  | .b _, .own c => if c ∈ owns then some false else none
  | .own c, .own d => if c ∈ owns ∧ d ∈ owns then some (decide (c = d)) else none
def anyKit (owns : List Str) (t : Cl) : List Cl → Option Bool
  | [] => some false
  | c :: cs => match kitD owns t c with
    | some true => some true
    | some false => anyKit owns t cs
    | none => none
def Cl.val (K : PySem.W.Frag) : Cl → Value
  | .b t => .type t.name
  | .own c => .ref (He.ga K c)
def Cl.v (K : PySem.W.Frag) : Cl → V
  | .b t => .ty t.name
  | .own c => .ref (He.ga K c)
theorem Cl.clsV {K : PySem.W.Frag} : ∀ c : Cl, ClsV (c.v K) (c.val K)
  | .b t => .ty _
  | .own c => .own _
section
variable {K : PySem.W.Frag} {g : G} {H : Hp} {owns : List Str}
theorem kitD_ok (T : OwnOk K owns) {t c : Cl} {b : Bool} (e : kitD owns t c = some b) : PySem.W.kitOne K (t.val K) (c.val K) = some b := by
  cases t with
  | b a => cases c with
    | b d => cases e; exact kit_ty (Bt.kit a d)
    | own d =>
      have e' : (if d ∈ owns then some false else none) = some b := e
      split at e'
      · rename_i h; cases e'; exact T.fro d h a
      · cases e'
  | own a => cases c with
    | b d =>
      have e' : (if a ∈ owns then some false else none) = some b := e
      split at e'
      · rename_i h; cases e'; exact T.to a h d
      · cases e'
    | own d =>
      have e' : (if a ∈ owns ∧ d ∈ owns then some (decide (a = d)) else none) = some b := e
      split at e'
      · rename_i h; cases e'; exact T.own a h.1 d h.2
      · cases e'
theorem anyKit_ok (T : OwnOk K owns) {t : Cl} : ∀ {cs : List Cl} {b : Bool}, anyKit owns t cs = some b → PySem.W.kitAny K (t.val K) (cs.map (Cl.val K)) = some b
  | [], b, e => by cases e; exact kitAny_nil
  | c :: cs, b, e => by
    unfold anyKit at e
    split at e
    · rename_i q
      cases e
      exact kitAny_cons (kitD_ok T q) (fun z => by cases z) fun _ => rfl
    · rename_i q
      exact kitAny_cons (kitD_ok T q) (fun _ => anyKit_ok T e) fun z => by cases z
    · cases e
theorem tyD_ok (T : OwnOk K owns) (gd : Good K g H) {d : D} {v : V} {t : Cl} (h : Rep K g.F g.r d v) (e : tyD g.S d = some t) (ht : ∀ c, t = .own c → c ∈ owns) : TyX K H v (t.val K) := by
  have inst : ∀ {a C dx : Addr} {fs : List (Str × V)} {c : Str}, c ∈ owns → C = He.ga K c → H a = some (.ins C dx fs) → TyX K H (.ref a) (.ref C) := fun {a C dx fs c} hc hC ha => by
    subst hC
    exact .base (.ins ha (T.cls c hc) (T.at_ c hc) T.get T.takes (T.mro c hc))
  cases d with
  | non => cases h; cases e; exact .base .non
  | bl b => cases h; cases e; exact .base (.bl b)
  | int i => cases h; cases e; exact .base (.int i)
  | str s => cases h; cases e; exact .base (.str s)
  | tup xs =>
    obtain ⟨a, vs, rfl, h2, _⟩ := h
    cases e
    rcases same_t gd.ex h2 with (q | ⟨o, q⟩) | ⟨o, its, n, q1, q2, _⟩
    · exact .base (.tup q)
    · exact .fTuple q
    · exact .kTuple q1 q2
  | lst xs =>
    obtain ⟨a, vs, rfl, h2, _⟩ := h
    cases e
    exact .base (.lst (gd.ex _ _ h2))
  | scr xs =>
    obtain ⟨a, vs, rfl, h2, _⟩ := h
    cases e
    rcases same_l gd.ex h2 with (q | ⟨o, q⟩) | ⟨o, its, n, q1, q2, _⟩
    · exact .base (.lst q)
    · exact .base (.frz q)
    · exact .kList q1 q2
  | dK ks ds =>
    obtain ⟨a, kvs, rfl, h2, _⟩ := h
    cases e
    exact .base (.dK (gd.ex _ _ h2))
  | dT ks ds =>
    obtain ⟨a, kvs, rfl, h2, _⟩ := h
    cases e
    exact .base (.dT (gd.ex _ _ h2))
  | ins c ns ds =>
    obtain ⟨a, dx, fs, rfl, h2, _⟩ := h
    cases e
    exact inst (ht c rfl) rfl (gd.ex _ _ h2)
  | exc => cases e
  | obj n =>
    obtain ⟨a, rfl, h2⟩ := h
    have e' : (match g.S[n]? with
      | some (.lst _) => some (Cl.b .list)
      | some (.dK _ _) => some (.b .dict)
      | some (.dT _ _) => some (.b .dict)
      | some (.ins c _ _) => some (.own c)
      | _ => none) = some t := e
    cases q : g.S[n]? with
    | none => rw [q] at e'; cases e'
    | some m =>
      rw [q] at e'
      have hm := gd.mr n a m h2 q
      cases m with
      | lst xs => cases e'; obtain ⟨vs, h3, _⟩ := hm; exact .base (.lst h3)
      | dK ks ds => cases e'; obtain ⟨vs, h3, _⟩ := hm; exact .base (.dK h3)
      | dT ks ds => cases e'; obtain ⟨vs, h3, _⟩ := hm; exact .base (.dT h3)
      | ins c ns ds => cases e'; obtain ⟨dx, fs, h3, _⟩ := hm; exact inst (ht c rfl) rfl h3
      | dead => cases e'
/-- isinstance(x, c) | isinstance(x, (c, ..)) -/
def isiD (owns : List Str) (cs : List Cl) (S : List MO) (d : D) : Option D := match tyD S d with
  | some t => match t with
    | .own c => if c ∈ owns then (match anyKit owns t cs with
      | some b => some (.bl b)
      | none => none) else none
    | .b _ => match anyKit owns t cs with
      | some b => some (.bl b)
      | none => none
  | none => none
def fIsi (owns : List Str) (cs : List Cl) (f : Fx D) : Fx D := bindF f fun d => liftF fun S => isiD owns cs S d
theorem isiD_ok (T : OwnOk K owns) (gd : Good K g H) {d z : D} {v : V} {cs : List Cl} (h : Rep K g.F g.r d v) (e : isiD owns cs g.S d = some z) : ∃ t b, TyX K H v (Cl.val K t) ∧ anyKit owns t cs = some b ∧ z = .bl b := by
  unfold isiD at e
  split at e
  · rename_i t q
    cases t with
    | own c =>
      dsimp only at e
      split at e
      · rename_i hc
        split at e
        · rename_i b qb
          cases e
          exact ⟨.own c, b, tyD_ok T gd h q (fun c' z => by cases z; exact hc), qb, rfl⟩
        · cases e
      · cases e
    | b t =>
      dsimp only at e
      split at e
      · rename_i b qb
        cases e
        exact ⟨.b t, b, tyD_ok T gd h q (fun c' z => by cases z), qb, rfl⟩
      · cases e
  · cases e
end
section
variable {X : Cx} {W : Wx} {owns : List Str} {p pos : Pos} {e : Expr} {es : List Expr} {f : Fx D}
theorem ce_isi (cl : Cl) (T : OwnOk X.K owns) {c : Expr} (hm : X.mg "isinstance" = none) (he : CE X W e f) (hc : PE X c (tC (cl.v X.K))) (hg : Gl X "isinstance" := by rfl) (h1 : starEach [e, c] X.env = (false, eval e X.env) :: starEach [c] X.env := by rfl)
    (h2 : starEach [c] X.env = (false, eval c X.env) :: starEach [] X.env := by rfl) (hpl : (backTo pos (starEach [c] X.env)).any (·.1) = false := by rfl) : CE X W (.Call (.Name "isinstance" p) [e, c] [] pos) (fIsi owns [cl] f) :=
  PE.imp (pe_callB call_isi hg hm PyProof.Rows.boot_isinstance (pa_cons he (pa_cons hc pa_nil h2) h1) (by decide) (by decide) h1 hpl) fun σ H Q ⟨g, env, cf⟩ => (cf.bind (relB := relD X.K)).imp fun v H1 ⟨d, g1, rv, ev, c1⟩ => by
    obtain ⟨z, e, q⟩ := c1.lift
    obtain ⟨t, b, h3, h4, rfl⟩ := isiD_ok T c1.good rv e
    have hk : PySem.W.kitOne X.K (t.val X.K) (cl.val X.K) = some b := by
      unfold anyKit at h4
      split at h4
      · rename_i q4; cases h4; exact kitD_ok T q4
      · rename_i q4; cases h4; exact kitD_ok T q4
      · cases h4
    exact ⟨v, cl.v X.K, t.val X.K, cl.val X.K, b, rfl, cl.clsV, h3, hk, q _ _ _ _ (Evo.refl _ _) c1.good rfl⟩
/-- a built-in type by its name -/
theorem pe_bt (t : Bt) {x : Str} {n : String} {pos : Pos} (hn : t.name = n) (hm : X.mg x = none) (hv : bootBuiltins x = some (.type n)) (hg : Gl X x := by rfl) (h0 : x ≠ "__name__" := by decide) (hd : (x == ("__debug__" : Str)) = false := by decide) : PE X (.Name x pos) (tC ((Cl.b t).v X.K)) :=
  pe_bltn hg hm hv (show RelV (.ty t.name) (.type n) from by rw [hn]; rfl) h0 hd
theorem pe_own {c : Str} {pos : Pos} (hm : X.mg c = some (.ref (He.ga X.K c))) (hg : Gl X c := by rfl) (hd : (c == ("__debug__" : Str)) = false := by decide) : PE X (.Name c pos) (tC ((Cl.own c).v X.K)) := pe_glob hg hm (show RelV (.ref _) (.ref _) from rfl) hd
/-- isinstance(x, (A, B)) -/
theorem clsAll {K : PySem.W.Frag} : ∀ cs : List Cl, Paired ClsV (cs.map (Cl.v K)) (cs.map (Cl.val K))
  | [] => .nil
  | c :: cs => .cons c.clsV (clsAll cs)
theorem ce_isi2 (c1 c2 : Cl) (T : OwnOk X.K owns) {a b : Expr} {k1 : Nat} {tpos : Pos} (hm : X.mg "isinstance" = none) (he : CE X W e f) (ha : PE X a (tC (c1.v X.K))) (hb : PE X b (tC (c2.v X.K))) (hg : Gl X "isinstance" := by rfl)
    (s1 : starEach [a, b] X.env = (false, eval a X.env) :: starEach [b] X.env := by rfl) (s2 : starEach [b] X.env = (false, eval b X.env) :: starEach [] X.env := by rfl)
    (h1 : starEach [e, .Tuple [a, b] k1 tpos] X.env = (false, eval e X.env) :: starEach [.Tuple [a, b] k1 tpos] X.env := by rfl)
    (h2 : starEach [.Tuple [a, b] k1 tpos] X.env = (false, eval (.Tuple [a, b] k1 tpos) X.env) :: starEach [] X.env := by rfl) (hpl : (backTo pos (starEach [.Tuple [a, b] k1 tpos] X.env)).any (·.1) = false := by rfl) :
    CE X W (.Call (.Name "isinstance" p) [e, .Tuple [a, b] k1 tpos] [] pos) (fIsi owns [c1, c2] f) :=
  PE.imp (pe_callB call_isiT hg hm PyProof.Rows.boot_isinstance (pa_cons he (pa_cons (pe_tup (pa_cons ha (pa_cons hb pa_nil s2) s1)) pa_nil h2) h1) (by decide) (by decide) h1 hpl) fun σ H Q ⟨g, env, cf⟩ => (cf.bind (relB := relD X.K)).imp fun v H1 ⟨d, g1, rv, ev, cc⟩ => by
    obtain ⟨z, e, q⟩ := cc.lift
    refine ⟨by show 2 ≤ sizeLine; decide, fun t ht => ?_⟩
    obtain ⟨nf, nr⟩ := cc.good.nof ht
    have gd2 : Good X.K g1 (upd H1 t (.tup [c1.v X.K, c2.v X.K])) := cc.good.side nf nr
    obtain ⟨ty, b, h3, h4, rfl⟩ := isiD_ok T gd2 rv e
    exact ⟨v, t, [c1.v X.K, c2.v X.K], ty.val X.K, [c1.val X.K, c2.val X.K], b, rfl, upd_same, clsAll [c1, c2], h3, anyKit_ok T h4, q _ _ _ _ (Evo.beside ht) gd2 rfl⟩

def reprP (S : List MO) (d : D) : Option PyData := match d with
  | .dK ks ds => match toPy0L ds with
    | some ps => if ds.length = ks.length then some (.dict ((ks.map fun | .inl i => PyData.int i | .inr s => PyData.str s).zip ps)) else none
    | none => none
  | d => toPy S d
def reprD (S : List MO) : List D → Option D
  | [d] => match toPy S d with
    | some p => if p.showable = true ∧ p.hasDict = false ∧ p.depth ≤ 60 ∧ p.shown.length ≤ 16000000 then some (.str p.shown) else none
    | none => none
  | _ => none
def rRepr (K : PySem.W.Frag) : List V → Hp → VK → Prop := fun xs H Q => ∃ (x : V) (p : PyData), xs = [x] ∧ Dp K H x p ∧ p.showable = true ∧ p.hasDict = false ∧ p.depth ≤ 60 ∧ p.shown.length ≤ 16000000 ∧ Q (.str p.shown) H
/-- room for repr -/
structure Rpr (X : Cx) : Prop where
  gu : X.A.guards = some []
  un : X.A.units + 100 < cLine
theorem Bd.rpr {X : Cx} {k : Nat} (B : Bd X k) : Rpr X := ⟨B.gu, by have := B.room.un; omega⟩
theorem cx_repr (B : Rpr X) : CallR X (.builtin "repr") (rRepr X.K) := fun pins s σ H xs us Q I r h => by
  obtain ⟨x, d, rfl, hd, h1, h2, h3, h4, q⟩ := h
  obtain ⟨u, rfl, rx⟩ := vals1 r
  obtain ⟨as, rd⟩ := Dp.reads I d x u hd rx
  have hz : d.shown.length ≤ sizeLine := by rw [sizeLine_eq]; omega
  have hun : X.A.units + (d.depth + 1) < cLine := by have := B.un; omega
  have fin : ∀ h' tk, (∀ b o, s.heap.get? b = some o → h'.get? b = some o) → ∀ t, EP X pins σ Q (.str d.shown t) { s with heap := h', toks := tk } := fun h' tk hk t => ⟨.str d.shown, H, I.kept (t' := tk) hk, ⟨t, rfl⟩, q⟩
  cases x with
  | ref a =>
    cases rx
    exact repr_of_reads' rd h1 (fun z => by rw [h2] at z; cases z) B.gu hun (fun _ _ z => z) (fun h' t tk hk => fin h' tk hk t) hz
  | int i =>
    obtain ⟨t, rfl⟩ := rx
    cases hd
    exact PySem.P.repr_of_int (of_decide_eq_true h1) (fin _ _ (fun _ _ z => z) _)
  | str z =>
    obtain ⟨t, rfl⟩ := rx
    cases hd
    exact PySem.P.repr_of_str (fin _ _ (fun _ _ z => z) _) hz
  | non => cases rx; cases hd; exact PySem.P.repr_of_none (fin _ _ (fun _ _ z => z) _)
  | bl b => cases rx; cases hd; cases b <;> exact PySem.P.repr_of_bool (fin _ _ (fun _ _ z => z) _)
  | _ => exact absurd hd (by intro z; cases z)
theorem lk_repr {K : PySem.W.Frag} : CallLk K (rRepr K) reprD := fun g H vs ds d Q gd hs e f => by
  unfold reprD at e
  split at e
  · split at e
    · rename_i p q
      split at e
      · rename_i hz
        cases e
        obtain ⟨v, rfl, h⟩ := repL1 hs
        exact ⟨v, p, rfl, toPy_ok gd _ _ _ h q, hz.1, hz.2.1, hz.2.2.1, hz.2.2.2, f.here gd rfl⟩
      · cases e
    · cases e
  · cases e
end
end FL

namespace FL
open PySem L2 PyProof.Rows Builtin Builtin.ObjectAttr

abbrev exTl : List Value := [.type "Exception", .type "BaseException", .type "object"]
/-- what the written part says of an own error's class -/
structure EcOk (K : PySem.W.Frag) (C : Addr) : Prop where
  ini : PySem.W.excInitIn K C exTl "Exception.__new__" = true
  ovr : PySem.W.excOver K C exTl = true
  sa : PySem.W.findIn K (.ref C) "__setattr__" = some (some (.builtin "object.__setattr__"))
  hd : PySem.W.hasDictIn K C = true
  exC : PySem.W.subIn K (.ref C) (.type "BaseException") = some true
  tyC : PySem.W.typeIn K (.ref C) = some (.type "type")
  kC : PySem.W.keepIn K (.ref C) = true
section
variable {X : Cx} {pins : List (Addr × Obj)} {σ : L2.St} {H : Hp} {s : Shared} {a C : Addr} {f : Str} {y : V} {u : Value}
/-- the error has its dict now -/
theorem put1 {hp h' : Heap} {g : Array GenState} {d : Drawn} {t t' : Nat} {os : OsState} {dx t1 : Addr} (I : Inv X pins σ H ⟨hp, g, d, t, os⟩) (e : H a = some (exo a C none)) (ry : RelV y u) (k : ∀ b o, b ≠ a → hp.get? b = some o → h'.get? b = some o) (dn : hp.objs.size ≤ dx) (dne : dx ≠ a)
    (hx : h'.get? a = some { cls := .ref C, dict := some dx, data := .fields #[.ref t1, .none, .none, .none, .bool false, .none] }) (hn : h'.Ns1 dx (fun z => if z = f then some u else none)) :
    H dx = none ∧ Inv X pins σ (upd (upd H dx (exd dx [(f, y)])) a (exo a C (some dx))) ⟨h', g, d, t', os⟩ := by
  have hnd : H dx = none := I.hok.fresh dn
  have nd : ∀ {b : Addr} {o : Obj}, hp.get? b = some o → b ≠ dx := fun {b o} q => Nat.ne_of_lt (Nat.lt_of_lt_of_le (Heap.lt_size q) dn)
  have na : ∀ {b : Addr}, H b = none → b ≠ a := fun {b} n z => by
    rw [z, e] at n
    cases n
  have ot : ∀ {b : Addr} {o : HO}, H b = some o → exo a C none ≠ o → upd (upd H dx (exd dx [(f, y)])) a (exo a C (some dx)) b = some o := fun {b o} q n => by
    rw [upd_ne (at_ne e q n), upd_ne (ne_of_none q hnd)]
    exact q
  refine ⟨hnd, I.un (t' := t') {
    keep := fun b o q n _ _ => k b o (na n) q
    slot := fun b o q n _ _ => ⟨o.slots, k b o (na n) q⟩
    free := fun b o q n _ => by rw [upd_ne (na n), upd_ne (nd q)]; exact n
    there := fun b o q _ => by
      by_cases hb : b = a
      · exact ⟨_, by rw [hb]; exact hx⟩
      · exact ⟨o, k b o hb q⟩
    tups := fun b xs q => ot q exo_tup
    frzs := fun b o v q => ot q exo_frz
    tbls := fun b ps q => ⟨#[], by rw [ot q exo_tbl]; simp⟩ } fun b o q => ?_⟩
  by_cases hb : b = a
  · subst hb
    rw [upd_same] at q
    cases q
    exact exo_ok hx
  · rw [upd_ne hb] at q
    by_cases hd : b = dx
    · subst hd
      rw [upd_same] at q
      cases q
      exact exd_ok hn (relO_put (fs := []) ry fun g => True.intro)
    · rw [upd_ne hd] at q
      exact (I.hok b o q).stay (fun c v hc z => k c v (by
          rcases hc with hc | hc
          · rw [hc]
            exact hb
          · exact at_ne e hc exo_own) z) (fun c hc => ot hc exo_own) (fun c xs hc => ot hc exo_tup)
/-- self.f = y -/
theorem ost1 {A : Around} {E : Value → Shared → Prop} {Q : Unit → Shared → Prop} (T : EcOk X.K C) (ht : PySem.W.takerIn X.K C f = some none) (I : Inv X pins σ H s) (e : H a = some (exo a C none)) (ry : RelV y u)
    (h : ∀ dx s', H dx = none → dx ≠ a → Inv X pins σ (upd (upd H dx (exd dx [(f, y)])) a (exo a C (some dx))) s' → Q () s') : wpAny (model X.prog X.w) A (setAttr (.ref a) f u) Q E s := by
  obtain ⟨t1, ho⟩ := exo_at I.hok e
  obtain ⟨hp, g, d, t, os⟩ := s
  have hxs : a ≠ hp.objs.size := Nat.ne_of_lt (Heap.lt_size ho)
  refine PySem.W.set_plain I.kIn (ox := { cls := .ref C, dict := none, data := .fields #[.ref t1, .none, .none, .none, .bool false, .none] }) (od := none) ⟨ho, rfl, rfl, trivial⟩ T.sa ?_
  refine PySem.W.osa_openX PySem.F.store_Exception (od := none) I.kIn ⟨ho, rfl, rfl, trivial⟩ T.ovr ht fun b => ?_
  obtain ⟨cd, hc, hd'⟩ := PySem.W.any_some T.hd
  refine wpAny_bind (wpAny_pure (wpAny_bind (PySem.W.instanceDict_exc ho (PySem.W.looks_clsIn I.kIn hc) hd' ?_)))
  show wpAny _ _ (storeInDict hp.objs.size (.str f t) f u) _ _ _
  refine PySem.HandSPX.store_in_new ?_ fun h' tk' hn hs => ?_
  · exact ⟨_, #[], _, (Heap.get?_update_ne _ _ _ _ hxs.symm).trans (Heap.get?_push_at rfl rfl), rfl, fun e he => absurd he (by simp), fun _ => rfl⟩
  · have hx₁ : (hp.push { cls := .type "dict", data := .dict #[] }).get? a = some { cls := .ref C, dict := none, data := .fields #[.ref t1, .none, .none, .none, .bool false, .none] } := Heap.get?_push_of_some _ ho
    obtain ⟨n1, J⟩ := put1 (t' := tk') (dx := hp.objs.size) (t1 := t1) I e ry (fun b o hb hob => (hs.2 b (Nat.ne_of_lt (Heap.lt_size hob))).trans ((Heap.get?_update_ne _ _ _ _ hb).trans (Heap.get?_push_of_some _ hob))) (Nat.le_refl _) hxs.symm
      ((hs.2 a hxs).trans (Heap.get?_update_self _ hx₁ rfl)) hn
    exact h _ _ n1 hxs.symm J
/-- Exception.__init__(self, ..) -/
theorem einit_ok {A : Around} {E : Value → Shared → Prop} {us : List Value} {Q : Value → Shared → Prop} (T : EcOk X.K C) (I : Inv X pins σ H s) (e : H a = some (exo a C none)) (hl : us.length ≤ sizeLine) (h : ∀ s', Inv X pins σ H s' → Q .none s') :
    wpAny (model X.prog X.w) A (call (.builtin "Exception.__init__") (.ref a :: us)) Q E s := by
  obtain ⟨nm, N, qn, bs, bm, hdct, sn, sub, ab, col, dd, k0, k1, k2, k3, k5, hC, hT⟩ := PySem.W.excInit_of I.kIn T.ini
  obtain ⟨t1, ho⟩ := exo_at I.hok e
  obtain ⟨hp, g, d, t, os⟩ := s
  refine wpAny_call (PySem.HandSPX.init_base PySem.F.excBase_Exception hT hC ho hl fun h' t2 k hx => ?_)
  have J := I.write (t' := t) (x := a) (e := a) (o := exo a C none) (by rw [e]; exact True.intro) (.inl rfl) k ⟨_, hx⟩ (exo_ok hx)
  have eu : upd H a (exo a C none) = H := by
    funext b
    by_cases hb : b = a
    · rw [hb, upd_same, e]
    · rw [upd_ne hb]
  rw [eu] at J
  exact h _ J
end
/-- B.__init__(self, ..), B an own class over Exception without own __init__ -/
structure EbOk (K : PySem.W.Frag) (B : Addr) : Prop where
  rd : PySem.W.readsIn K B (.type "type") = true
  ga : PySem.W.specialIn K (.ref B) "__getattribute__" = some (some (.builtin "type.__getattribute__"))
  at_ : PySem.W.findCls K (.ref B) (.type "type") "__init__" = some (.val (.builtin "Exception.__init__"))
def tEeI (K : PySem.W.Frag) (ta : TA) : TE := fun σ H Q => ta σ H fun vs H1 => ∃ (a C : Addr) (ws : List V), vs = .ref a :: ws ∧ ws.length ≤ 1000 ∧ EcOk K C ∧ H1 a = some (exo a C none) ∧ Q .non H1
def tOst1 (K : PySem.W.Frag) (f : Str) (to te : TE) : TS := fun D σ H => te σ H fun y H1 => to σ H1 fun x H2 => ∃ a C : Addr, x = .ref a ∧ EcOk K C ∧ PySem.W.takerIn K C f = some none ∧ H2 a = some (exo a C none) ∧
  ∀ dx, H2 dx = none → dx ≠ a → D.nx σ (upd (upd H2 dx (exd dx [(f, y)])) a (exo a C (some dx)))
section
variable {X : Cx} {x : Str} {o e : Expr} {es : List Expr} {to te : TE} {ta : TA} {f : Str} {p p' p1 p2 pos : Pos} {B : Addr}
theorem pe_eeinit {pl : Sem Bool} (T0 : EbOk X.K B) (hg : Gl X x) (hm : X.mg x = some (.ref B)) (ha : PA X (e :: es) ta)
    (hc : eval (.Call (.Attribute (.Name x p1) "__init__" p2) (e :: es) [] pos) X.env = (do
      let ov ← eval (.Name x p1) X.env
      standAt p2.atName
      let (f, first) ← holding [ov] (getMethod ov "__init__" pl)
      callWith pos f first (backTo pos (starEach (e :: es) X.env)) (backToKw pos (keywordEach [] X.env))) := by rfl)
    (hdb : (x == ("__debug__" : Str)) = false := by decide) (he : starEach (e :: es) X.env = (false, eval e X.env) :: starEach es X.env := by rfl) (hpl : (backTo pos (starEach es X.env)).any (·.1) = false := by rfl) :
    PE X (.Call (.Attribute (.Name x p1) "__init__" p2) (e :: es) [] pos) (tEeI X.K ta) := by
  refine ⟨fun pins s σ H Q I h => ?_⟩
  refine PySem.W.methodCall_KW (ld_glob I hg hm ?_ hdb) hc
  refine PySem.W.method_cls I.kIn T0.ga (PySem.W.cls_value I.kIn T0.rd T0.at_ rfl ?_)
  show wpAny _ _ (callWith pos (Value.builtin "Exception.__init__") [] (backTo pos (starEach (e :: es) X.env)) []) _ _ _
  refine callWith_method1 (thn (ha.run pos pins _ σ H _ (I.tok _) h) fun us s1 ⟨vs, H1, I1, r1, a, C, ws, ev, hl, T, ea, q⟩ => ?_) he hpl
  subst ev
  cases r1 with
  | @cons _ u0 _ ur ra rw' =>
    obtain rfl : u0 = Value.ref a := ra
    have hlen : ur.length ≤ sizeLine := by
      rw [← Paired.length rw', sizeLine_eq]
      omega
    exact einit_ok T I1 ea hlen fun s' J => ⟨.non, H1, J, rfl, q⟩
theorem ps_ost1 (ho : PE X o to) (he : PE X e te) (hs : swapsWith e (some (.Attribute o f p')) pos.line X.env = pure false := by rfl) : PS X (.Assign [.Attribute o f p'] e pos) (tOst1 X.K f to te) := by
  refine ⟨fun pins s σ H D I h => ?_⟩
  refine plainObj_wpAny_Assign_Attribute (thn (he.run pins s σ H _ I h) fun v s1 ⟨y, H1, I1, r1, q1⟩ => thn (ho.run pins s1 σ H1 _ I1 q1) fun u s2 ⟨x, H2, I2, r2, a, C, ex, T, ht, ea, q⟩ => ?_) hs
  subst ex
  obtain rfl : u = Value.ref a := r2
  exact ost1 T ht I2 ea r1 fun dx s' n ne J => ⟨σ, _, J, q dx n ne⟩
end
def spI (K : PySem.W.Frag) (f : Str) : Sp := fun vs H Q E => ∃ (a C : Addr) (y : V), vs = [.ref a, y] ∧ EcOk K C ∧ PySem.W.takerIn K C f = some none ∧ H a = some (exo a C none) ∧ ∀ dx, H dx = none → dx ≠ a → Q .non (upd (upd H dx (exd dx [(f, y)])) a (exo a C (some dx)))
def spI0 (K : PySem.W.Frag) : Sp := fun vs H Q E => ∃ (a C : Addr), vs = [.ref a] ∧ EcOk K C ∧ H a = some (exo a C none) ∧ Q .non H
theorem spI_t {K : PySem.W.Frag} {f m : Str} {N : List Str} {vs : List V} {H : Hp} {Q : VK} {E : XK} (hN : N.length = 2) (h : spI K f vs H Q E) :
    tSeq (tDrop (tEeI K (tCons (tVar 0) (tCons (tC (.str m)) tNil)))) (tOst1 K f (tVar 0) (tVar 1)) { nx := fun _ H' => Q .non H', rt := Q } (L2.start N vs) H := by
  obtain ⟨a, C, y, rfl, T, ht, ea, q⟩ := h
  have e0 : (L2.start N [.ref a, y])[0]? = some (some (.ref a)) := rfl
  have e1 : (L2.start N [.ref a, y])[1]? = some (some y) := rfl
  exact ⟨.ref a, e0, a, C, [.str m], rfl, (by show 1 ≤ 1000; decide), T, ea, y, e1, .ref a, e0, a, C, rfl, T, ht, ea, q⟩
theorem spI0_t {K : PySem.W.Frag} {m : Str} {N : List Str} {vs : List V} {H : Hp} {Q : VK} {E : XK} (hN : N.length = 1) (h : spI0 K vs H Q E) :
    tDrop (tEeI K (tCons (tVar 0) (tCons (tC (.str m)) tNil))) { nx := fun _ H' => Q .non H', rt := Q } (L2.start N vs) H := by
  obtain ⟨a, C, rfl, T, ea, q⟩ := h
  have e0 : (L2.start N [.ref a])[0]? = some (some (.ref a)) := rfl
  exact ⟨.ref a, e0, a, C, [.str m], rfl, (by show 1 ≤ 1000; decide), T, ea, q⟩
section
variable {X : Cx} {C fI : Addr} {k : Nat} {fd : FuncData} {ps : List Str} {x f : Str} {p pos : Pos} {e : Expr} {es : List Expr} {ta : TA}
def tMk1 (C : Addr) (f : Str) (ta : TA) : L2.St → Hp → XK → Prop := fun σ H Q => ta σ H fun vs H1 => ∃ y, vs = [y] ∧ ∀ d, H1 d = none → Q (.ref C) (some d) (upd H1 d (.xd [(f, y)]))
def tMk0 (C : Addr) : L2.St → Hp → XK → Prop := fun σ H Q => Q (.ref C) none H
theorem exc_guards {A : Around} {C : Addr} {us : List Value} (h : A.guards = some []) : (A.under (.builtin "type.__call__" ⟨.ref C :: us, []⟩)).guards = some [] := make_guards h
theorem pmk_1 (T : EcOk X.K C) (ht : PySem.W.takerIn X.K C f = some none) (iC : PySem.W.findIn X.K (.ref C) "__init__" = some (some (.ref fI))) (tI : PySem.W.typeIn X.K (.ref fI) = some (.type "function"))
    (F1 : FnG X.prog X.w X.K X.mg X.base k fI fd ps (spI X.K f)) (B : Bd X (k + 1)) (hb : BindP fd ps) (hg : Gl X x) (hm : X.mg x = some (.ref C)) (ha : PA X (e :: es) ta)
    (hdb : (x == ("__debug__" : Str)) = false := by decide) (he : starEach (e :: es) X.env = (false, eval e X.env) :: starEach es X.env := by rfl) (hpl : (backTo pos (starEach es X.env)).any (·.1) = false := by rfl) :
    PMk X (.Call (.Name x p) (e :: es) [] pos) (tMk1 C f ta) := by
  intro pins s σ H Q I h
  refine wpAny_Call_Name_kw (ld_glob I hg hm ?_ hdb)
  refine PySem.W.callWith_K (h₀ := X.base) I.ok.mod.kin T.kC (thn (ha.run pos pins s σ H _ I h) fun us s1 ⟨vs, H1, I1, r1, y, hv, q1⟩ => ⟨I1.kIn, ?_⟩) he hpl
  subst hv
  show wpAny _ _ (call (.ref C) us) _ _ _
  obtain ⟨nm, N, qn, bs, bm, hdct, sn, sub, ab, col, dd, k0, k1, k2, k3, k5, hC, hT⟩ := PySem.W.excInit_of I1.kIn T.ini
  obtain ⟨hp, g, dr, tk, os⟩ := s1
  have hsz : hp.objs.size ≤ hp.objs.size + 1 := Nat.le_succ _
  have hn : H1 (hp.objs.size + 1) = none := I1.hok.fresh hsz
  have kk : ∀ b o, hp.get? b = some o → ((hp.push (PySem.W.kdv_tup us)).push (PySem.HandSPX.excO C hp.objs.size)).get? b = some o := fun b o e => Heap.get?_push_of_some _ (Heap.get?_push_of_some _ e)
  have hget : ((hp.push (PySem.W.kdv_tup us)).push (PySem.HandSPX.excO C hp.objs.size)).get? (hp.objs.size + 1) = some (PySem.HandSPX.excO C hp.objs.size) := by heap_get
  have I2 : Inv X pins σ (upd H1 (hp.objs.size + 1) (exo (hp.objs.size + 1) C none)) ⟨(hp.push (PySem.W.kdv_tup us)).push (PySem.HandSPX.excO C hp.objs.size), g, dr, tk, os⟩ :=
    I1.laid (t' := tk) (a := hp.objs.size + 1) (o := exo (hp.objs.size + 1) C none) (h' := (hp.push (PySem.W.kdv_tup us)).push (PySem.HandSPX.excO C hp.objs.size)) kk hsz (exo_ok hget)
  have r2 : Vals [V.ref (hp.objs.size + 1), y] (Value.ref (hp.objs.size + 1) :: us) := .cons rfl r1
  have hq : spI X.K f [V.ref (hp.objs.size + 1), y] (upd H1 (hp.objs.size + 1) (exo (hp.objs.size + 1) C none)) (fun v H2 => v = .non ∧ ∃ d, H2 (hp.objs.size + 1) = some (exo (hp.objs.size + 1) C (some d)) ∧ H2 d = some (exd d [(f, y)]) ∧ H1 d = none ∧ upd (del H2 (hp.objs.size + 1)) d (.xd [(f, y)]) = upd H1 d (.xd [(f, y)])) (fun _ _ _ => False) := by
    refine ⟨_, C, y, rfl, T, ht, upd_same, fun dx hdx ne => ⟨rfl, dx, upd_same, by rw [upd_ne ne, upd_same], by rw [upd_ne ne] at hdx; exact hdx, ?_⟩⟩
    funext b
    by_cases hb : b = dx
    · rw [hb, upd_same, upd_same]
    · rw [upd_ne hb, upd_ne hb]
      by_cases hba : b = hp.objs.size + 1
      · rw [hba, del_same, hn]
      · rw [del_ne hba, upd_ne hba, upd_ne hb, upd_ne hba]
  have hus : us.length ≤ sizeLine := by
    rw [← Paired.length r1, sizeLine_eq]
    show 1 ≤ _
    omega
  have hl : (Value.ref (hp.objs.size + 1) :: us).length = ps.length := by
    have e := r2.length
    rw [F1.len _ _ _ _ hq] at e
    exact e.symm
  refine wpAny_call (PySem.HandSPX.call_own PySem.F.excBase_Exception hT hC (PySem.W.looks_findIn I1.kIn iC) (fun self => PySem.W.bind_fn I1.kIn self tI) hus
    (codeAny_mono (F1.run _ X.stack _ _ ⟨Value.ref (hp.objs.size + 1) :: us, []⟩ (Value.ref (hp.objs.size + 1) :: us) _ _ (fun _ _ _ => False) (B.room.make C us []) (make_guards B.gu) (I2.env0.make C us []) (hb _ (Value.ref (hp.objs.size + 1) :: us) hl) r2 hq) fun r s' hq' => ?_))
  cases r with
  | error er =>
    obtain ⟨_, _, _, _, _, _, _, _, _, _, _, _, z⟩ := hq'
    exact z.elim
  | ok fl =>
    cases fl with
    | ret u =>
      obtain ⟨v, H2, os2, bare2, un2, hok2, rv, ev, d, ea, ed, hd1, eH⟩ := hq'
      subst ev
      obtain ⟨h2, g2, d2, t2, os'⟩ := s'
      exact ⟨rv, mk_end (raises_own T.exC T.tyC) I1 hsz kk un2 hok2 os2 bare2 ea ed hd1 (by rw [eH]; exact q1 d hd1)⟩
    | next => exact False.elim hq'
    | brk => exact False.elim hq'
    | cont => exact False.elim hq'
/-- the end of C(): no dict was made -/
theorem mk_endN {X : Cx} {C : Addr} {pins : List (Addr × Obj)} {σ : L2.St} {H1 : Hp} {Q : XK} {hp hp2 h2 : Heap} {g1 g2 : Array GenState} {d1 d2 : Drawn} {t1 t2 : Nat} {os1 os2 : OsState} {a : Addr} (T : Raises X (.ref C)) (I1 : Inv X pins σ H1 ⟨hp, g1, d1, t1, os1⟩)
    (ha : hp.objs.size ≤ a) (k : ∀ b o, hp.get? b = some o → hp2.get? b = some o) (un : Un (frs X.stack) [] (upd H1 a (exo a C none)) (upd H1 a (exo a C none)) hp2 h2) (hok : HOk X.prog X.w (upd H1 a (exo a C none)) h2) (ho : os2 = os1) (hb : AllBare g2)
    (q : Q (.ref C) none H1) : MkP X pins σ Q (.ref a) ⟨h2, g2, d2, t2, os2⟩ := by
  obtain ⟨t0, hoe⟩ := exo_at hok (upd_same : upd H1 a (exo a C none) a = some (exo a C none))
  have hn : H1 a = none := I1.hok.fresh ha
  obtain ⟨G, g1', g2'⟩ := restrict h2 fun b => decide (b ≠ a)
  have gk : ∀ b, b ≠ a → G.get? b = h2.get? b := fun b hb => g1' b (decide_eq_true hb)
  have ge : G.get? a = none := g2' a (by simp)
  have nha : ∀ {b : Addr} {o : Obj}, hp.get? b = some o → b ≠ a := fun {b o} z => Nat.ne_of_lt (Nat.lt_of_lt_of_le (Heap.lt_size z) ha)
  have up : ∀ {b : Addr}, b ≠ a → H1 b = none → upd H1 a (exo a C none) b = none := fun {b} hb n => by rw [upd_ne hb]; exact n
  have U : Un (frs X.stack) [] H1 H1 hp G := {
    keep := fun b o z n hf hx => by
      rw [gk b (nha z)]
      exact un.keep b o (k b o z) (up (nha z) n) hf hx
    slot := fun b o z n hf hx => by
      rw [gk b (nha z)]
      exact un.slot b o (k b o z) (up (nha z) n) hf hx
    free := fun b o z n hx => n
    there := fun b o z hx => by
      rw [gk b (nha z)]
      exact un.there b o (k b o z) hx
    tups := fun b xs z => z
    frzs := fun b o v z => z
    tbls := fun b ps z => ⟨#[], by rw [z]; simp⟩ }
  have hok3 : HOk X.prog X.w H1 G := fun b o z => by
    have hba : b ≠ a := ne_of_none z hn
    exact (hok b o (by rw [upd_ne hba]; exact z)).stay (fun c v hc y => by
        have hca : c ≠ a := by
          rcases hc with hc | hc
          · rw [hc]
            exact hba
          · intro w
            rw [w, upd_same] at hc
            exact exo_own (Option.some.inj hc)
        rw [gk c hca]
        exact y)
      (fun c hc => by
        have hca : c ≠ a := fun w => by
          rw [w, upd_same] at hc
          exact exo_own (Option.some.inj hc)
        rw [upd_ne hca] at hc
        exact hc) (fun c xs hc => by
        have hca : c ≠ a := fun w => by
          rw [w, upd_same] at hc
          exact exo_tup (Option.some.inj hc)
        rw [upd_ne hca] at hc
        exact hc)
  have J : Inv X pins σ H1 ⟨G, g2, d2, t2, os2⟩ := I1.call' (ch := []) ho U hok3 hb (fun b z => absurd z (by simp))
  exact ⟨a, _, _, ⟨G, g2, d2, t2, os2⟩, _, .ref C, none, rfl, J, fun b o z => by
    by_cases hba : b = a
    · rw [hba, ge] at z
      cases z
    · exact (gk b hba).symm.trans z, ge, hoe, ⟨rfl, rfl⟩, rfl, rfl, hn, rfl, hb, T, q⟩
theorem pmk_0 (T : EcOk X.K C) (iC : PySem.W.findIn X.K (.ref C) "__init__" = some (some (.ref fI))) (tI : PySem.W.typeIn X.K (.ref fI) = some (.type "function"))
    (F1 : FnG X.prog X.w X.K X.mg X.base k fI fd ps (spI0 X.K)) (B : Bd X (k + 1)) (hb : BindP fd ps) (hg : Gl X x) (hm : X.mg x = some (.ref C))
    (hdb : (x == ("__debug__" : Str)) = false := by decide) : PMk X (.Call (.Name x p) [] [] pos) (tMk0 C) := by
  intro pins s σ H1 Q I1 q1
  refine wpAny_Call_Name_kw (ld_glob I1 hg hm ?_ hdb)
  refine PySem.W.callWith_K0 I1.kIn T.kC ?_
  show wpAny _ _ (call (.ref C) []) _ _ _
  obtain ⟨nm, N, qn, bs, bm, hdct, sn, sub, ab, col, dd, k0, k1, k2, k3, k5, hC, hT⟩ := PySem.W.excInit_of I1.kIn T.ini
  obtain ⟨hp, g, dr, tk, os⟩ := s
  have hsz : hp.objs.size ≤ hp.objs.size + 1 := Nat.le_succ _
  have hn : H1 (hp.objs.size + 1) = none := I1.hok.fresh hsz
  have kk : ∀ b o, hp.get? b = some o → ((hp.push (PySem.W.kdv_tup [])).push (PySem.HandSPX.excO C hp.objs.size)).get? b = some o := fun b o e => Heap.get?_push_of_some _ (Heap.get?_push_of_some _ e)
  have hget : ((hp.push (PySem.W.kdv_tup [])).push (PySem.HandSPX.excO C hp.objs.size)).get? (hp.objs.size + 1) = some (PySem.HandSPX.excO C hp.objs.size) := by heap_get
  have I2 : Inv X pins σ (upd H1 (hp.objs.size + 1) (exo (hp.objs.size + 1) C none)) ⟨(hp.push (PySem.W.kdv_tup [])).push (PySem.HandSPX.excO C hp.objs.size), g, dr, tk, os⟩ :=
    I1.laid (t' := tk) (a := hp.objs.size + 1) (o := exo (hp.objs.size + 1) C none) (h' := (hp.push (PySem.W.kdv_tup [])).push (PySem.HandSPX.excO C hp.objs.size)) kk hsz (exo_ok hget)
  have r2 : Vals [V.ref (hp.objs.size + 1)] [Value.ref (hp.objs.size + 1)] := .cons rfl .nil
  have hq : spI0 X.K [V.ref (hp.objs.size + 1)] (upd H1 (hp.objs.size + 1) (exo (hp.objs.size + 1) C none)) (fun v H2 => v = .non ∧ H2 = upd H1 (hp.objs.size + 1) (exo (hp.objs.size + 1) C none)) (fun _ _ _ => False) := ⟨_, C, rfl, T, upd_same, rfl, rfl⟩
  have hl : [Value.ref (hp.objs.size + 1)].length = ps.length := by
    have e := r2.length
    rw [F1.len _ _ _ _ hq] at e
    exact e.symm
  refine wpAny_call (PySem.HandSPX.call_own PySem.F.excBase_Exception hT hC (PySem.W.looks_findIn I1.kIn iC) (fun self => PySem.W.bind_fn I1.kIn self tI) (by show 0 ≤ sizeLine; omega)
    (codeAny_mono (F1.run _ X.stack _ _ ⟨[Value.ref (hp.objs.size + 1)], []⟩ [Value.ref (hp.objs.size + 1)] _ _ (fun _ _ _ => False) (B.room.make C [] []) (make_guards B.gu) (I2.env0.make C [] []) (hb _ [Value.ref (hp.objs.size + 1)] hl) r2 hq) fun r s' hq' => ?_))
  cases r with
  | error er =>
    obtain ⟨_, _, _, _, _, _, _, _, _, _, _, _, z⟩ := hq'
    exact z.elim
  | ok fl =>
    cases fl with
    | ret u =>
      obtain ⟨v, H2, os2, bare2, un2, hok2, rv, ev, eH⟩ := hq'
      subst ev eH
      obtain ⟨h2, g2, d2, t2, os'⟩ := s'
      exact ⟨rv, mk_endN (raises_own T.exC T.tyC) I1 hsz kk un2 hok2 os2 bare2 q1⟩
    | next => exact False.elim hq'
    | brk => exact False.elim hq'
    | cont => exact False.elim hq'
end
def raiseS (c f : Str) (fe : Fx D) : Sx := bindS fe fun d env S => some (.ex c (some (f, d)), env, S)
def raiseS0 (c : Str) : Sx := fun env S => some (.ex c none, env, S)
section
variable {X : Cx} {W : Wx} {fI : Addr} {k : Nat} {fd : FuncData} {ps : List Str} {c f : Str} {p pos rpos : Pos} {e : Expr} {fe : Fx D}
theorem cs_raise (hc : X.calm = true) (tk : Takes X W.w) (T : EcOk X.K (He.ga X.K c)) (ht : PySem.W.takerIn X.K (He.ga X.K c) f = some none) (iC : PySem.W.findIn X.K (.ref (He.ga X.K c)) "__init__" = some (some (.ref fI))) (tI : PySem.W.typeIn X.K (.ref fI) = some (.type "function"))
    (F1 : FnG X.prog X.w X.K X.mg X.base k fI fd ps (spI X.K f)) (B : Bd X (k + 1)) (hb : BindP fd ps) (hm : X.mg c = some (.ref (He.ga X.K c))) (he : CE X W e fe) (hg : Gl X c := by rfl)
    (hdb : (c == ("__debug__" : Str)) = false := by decide) (hst : starEach [e] X.env = (false, eval e X.env) :: starEach [] X.env := by rfl) (hpl : (backTo pos (starEach [] X.env)).any (·.1) = false := by rfl) :
    CS X W (.Raise (some (.Call (.Name c p) [e] [] pos)) none rpos) (raiseS c f fe) :=
  PS.imp (ps_raise hc tk (pmk_1 T ht iC tI F1 B hb hg hm (pa_cons he pa_nil hst) hdb hst hpl)) fun D σ H ⟨g, env, cf⟩ =>
    (cf.bind (rel := relD X.K)).imp fun v H1 ⟨d, g1, rv, ev, gd, er, fl, env', S', q, pp⟩ => by
      cases q
      refine ⟨v, rfl, fun dx hdx => ?_⟩
      have sm : Same g1.F (upd g1.F dx (.xd [(f, v)])) := (Evo.frozen (o := .xd [(f, v)]) gd hdx).f
      exact pp _ _ _ (Evo.frozen gd hdx) (gd.frozen hdx) σ (.ref (He.ga X.K c)) (some dx) (er.mono sm List.prefix_rfl) ⟨rfl, dx, v, rfl, upd_same, rv.mono sm List.prefix_rfl⟩
theorem cs_raise0 (hc : X.calm = true) (tk : Takes X W.w) (T : EcOk X.K (He.ga X.K c)) (iC : PySem.W.findIn X.K (.ref (He.ga X.K c)) "__init__" = some (some (.ref fI))) (tI : PySem.W.typeIn X.K (.ref fI) = some (.type "function"))
    (F1 : FnG X.prog X.w X.K X.mg X.base k fI fd ps (spI0 X.K)) (B : Bd X (k + 1)) (hb : BindP fd ps) (hm : X.mg c = some (.ref (He.ga X.K c))) (hg : Gl X c := by rfl)
    (hdb : (c == ("__debug__" : Str)) = false := by decide) : CS X W (.Raise (some (.Call (.Name c p) [] [] pos)) none rpos) (raiseS0 c) :=
  PS.imp (ps_raise hc tk (pmk_0 T iC tI F1 B hb hg hm hdb)) fun D σ H ⟨g, env, gd, er, fl, env', S', q, pp⟩ => by
    cases q
    exact pp g.F g.r H (Evo.refl _ _) gd σ _ none er ⟨rfl, rfl⟩
/-- what is never reached -/
def fDead {α : Type} : Fx α := fun _ _ => none
def sDead : Sx := fun _ _ => none
theorem ce_dead : CE X W e fDead := ⟨fun pins s σ H Q I ⟨g, env, _, _, r, S', z, _⟩ => by cases z⟩
theorem cs_dead {st : Stmt} : CS X W st sDead := ⟨fun pins s σ H Q I ⟨g, env, _, _, fl, env', S', z, _⟩ => by cases z⟩
theorem css_dead {sts : List Stmt} : CSs X W sts sDead := ⟨fun pins s σ H Q I ⟨g, env, _, _, fl, env', S', z, _⟩ => by cases z⟩
end
end FL

namespace FL
open PySem L2 PyProof.Rows

/-- a clause as its reading: the class, the slot of its name, the suite -/
abbrev Clz := Value × Option Nat × (Addr → Value → Option Addr → TS)
def endsBut (D : Ends) : Option Nat → Ends
  | none => D
  | some i => { nx := fun σ' H' => D.nx (σ'.set i none) H', rt := D.rt, bk := fun σ' H' => D.bk (σ'.set i none) H', ct := fun σ' H' => D.ct (σ'.set i none) H' }
def stWith (σ : L2.St) (a : Addr) : Option Nat → L2.St
  | none => σ
  | some i => σ.set i (some (.ref a))
def wMix (K : PySem.W.Frag) (Wout : WX) (D : Ends) : List Clz → WX
  | [] => Wout
  | (c, i, ts) :: r => fun cls d σ H => ∃ b, PySem.W.exmOne K cls c = some b ∧ (b = true → ∀ a, H a = none → ts a cls d (endsBut D i) (stWith σ a i) H) ∧ (b = false → wMix K Wout D r cls d σ H)
inductive Hdx (X : Cx) : List ExceptHandler → List Clz → Prop
  | nil : Hdx X [] []
  | cons {x : Str} {c : Value} {ts : Addr → Value → Option Addr → TS} {b₀ : Stmt} {suite : List Stmt} {np pos' : Pos} {hds : List ExceptHandler} {l : List Clz} (hc : Names X x c)
      (hsu : ∀ (a : Addr) (oe : Obj) (cls : Value) (d : Option Addr) (pn : List (Addr × Obj)), Zc cls d oe → (∃ vs, oe.data = .fields vs) → PSs (X.suite a ((a, oe) :: pn)) (b₀ :: suite) (ts a cls d)) (r : Hdx X hds l) :
      Hdx X (.ExceptHandler (some (.Name x np)) none (b₀ :: suite) pos' :: hds) ((c, none, ts) :: l)
  | as {x n : Str} {i : Nat} {c : Value} {ts : Addr → Value → Option Addr → TS} {b₀ : Stmt} {suite : List Stmt} {np pos' : Pos} {hds : List ExceptHandler} {l : List Clz} (hi : X.N[i]? = some n) (hln : X.env.kindOf n = some .local) (hc : Names X x c)
      (hsu : ∀ (a : Addr) (oe : Obj) (cls : Value) (d : Option Addr) (pn : List (Addr × Obj)), Zc cls d oe → (∃ vs, oe.data = .fields vs) → PSs (X.suite a ((a, oe) :: pn)) (b₀ :: suite) (ts a cls d)) (r : Hdx X hds l) :
      Hdx X (.ExceptHandler (some (.Name x np)) (some n) (b₀ :: suite) pos' :: hds) ((c, some i, ts) :: l)
section
variable {X : Cx} {body : List Stmt} {h₀ : ExceptHandler} {hds : List ExceptHandler} {l : List Clz} {pos : Pos} {tb : WX → TS} {Wout : WX}
theorem ps_try_mix (hs : X.stack = X.env :: X.outer) (hf : X.env.frame = some X.env.locals) (hN : X.N.Nodup) (tk : Takes X Wout)
    (hb : ∀ (W : WX) (pn : List (Addr × Obj)) (xe : Value → Shared → Prop), Takes (X.tr pn xe) W → PassesOwn (model X.prog X.w) X.A X.env xe → PSs (X.tr pn xe) body (tb W))
    (hh : Hdx X (h₀ :: hds) l) : PS X (.Try body (h₀ :: hds) [] [] pos) (fun D σ H => tb (wMix X.K Wout D l) D σ H) := by
  refine ⟨fun pins s σ H D I h => ?_⟩
  have ok := I.ok
  have hfr : X.A.frames = some (X.env :: X.outer) := by rw [ok.frames, hs]
  refine wpAny_Try_except ?_
  refine wpAny_mono ((hb (wMix X.K Wout D l) (X.pn ++ pins) (fun e s₁ => wpAny (model X.prog X.w) X.A (noteFrame e X.env) (fun _ s₂ => wpAny (model X.prog X.w) X.A (setFlight e none) (fun _ s₃ =>
    wpAny (model X.prog X.w) X.A (handleBy e X.env (h₀ :: hds)) (SP X pins D) X.xe s₃) X.xe s₂) X.xe s₁) (fun u s' xx => ?_) PassesOwn.looking).run [] s σ H D (I.toTry _) h) (fun f s1 hsp => ?_) (fun e s1 he => he)
  · obtain ⟨a, B, sI, pins', σ', H', cls, d, rfl, J', nb, up, sky, na, os, ag, w⟩ := xx
    have J : Inv X pins σ' H' sI := J'.ofTry ok
    have sky' : Sky B (X.env :: X.outer) a (Zc cls d) X.env.locals s'.heap := by rw [← hs]; exact sky
    show wpAny (model X.prog X.w) X.A (noteFrame (.ref a) X.env) _ _ _
    refine Sky.land Zc.steady hfr hf sky' fun h3 fl3 up3 => ?_
    have J3 : Inv X pins σ' H' { s' with heap := h3 } := J.landed nb fl3.1 (up.trans up3) os ag
    obtain ⟨oe3, vs3, he3, hz3, hd3⟩ := fl3.there
    have nfr : a ∉ frs (X.env :: X.outer) := fun hm => by
      obtain ⟨_, o', e', hnf⟩ := fl3.2.2.1.mem hm
      rw [he3] at e'; cases e'
      exact hnf _ hd3
    have nL : a ≠ X.env.locals := fun z => nfr (List.mem_filterMap.mpr ⟨X.env, List.mem_cons_self, by rw [hf, z]⟩)
    have nF : a ∉ X.fs := fun hm => by
      obtain ⟨e, he, q⟩ := List.mem_filterMap.mp hm
      exact nfr (List.mem_filterMap.mpr ⟨e, List.mem_cons_of_mem _ he, q⟩)
    have S3 := J3.suite he3 hd3 na nL nF
    have LT : PySem.W.Looks (model X.prog X.w) h3 (typeOf (.ref a)) cls := fun A Q E s k q => wpAny_typeOf_ref (k _ _ he3) (by rw [hz3.1]; exact q)
    have test : ∀ {x : Str} {np : Pos} {c : Value}, Names X x c → ∀ {Q : Value → Shared → Prop} {E : Value → Shared → Prop}, Q c { s' with heap := h3 } → wpAny (model X.prog X.w) (X.A.mark (some (.ref a))) (eval (.Name x np) X.env) Q E { s' with heap := h3 } := fun {x np c} hc {Q E} q => by
      obtain ⟨hg, hdbg, hm | ⟨hm, hv, hnn⟩⟩ := hc
      · exact ld_glob (X := X.suite a ((a, oe3) :: (X.pn ++ pins))) S3 hg hm q hdbg
      · exact ld_blt (X := X.suite a ((a, oe3) :: (X.pn ++ pins))) S3 hg hm hv q hnn hdbg
    have go : ∀ {hds' : List ExceptHandler} {l' : List Clz}, Hdx X hds' l' → wMix X.K Wout D l' cls d σ' H' →
        wpAny (model X.prog X.w) X.A (handleBy (.ref a) X.env hds') (SP X pins D) X.xe { s' with heap := h3 } := by
      intro hds' l' hk
      induction hk with
      | nil =>
        intro w
        refine wpAny_handleBy_nil ?_
        obtain ⟨k1, k2, k3, oe, vs, T, oT, ts', he, hz, hd, h1, hr⟩ := id fl3
        unfold PySem.passOn
        refine wpAny_bind (wpAny_field he hd h1 ?_)
        rw [if_neg (show ¬ ((Value.ref T == Value.none) = true) from by simp)]
        have fin : wpAny (model X.prog X.w) X.A (setFlight (.ref a) X.env.frame) (fun _ s4 => wpAny (model X.prog X.w) X.A (throw (.ref a) : Sem Flow) (SP X pins D) X.xe s4) X.xe { s' with heap := h3 } := by
          rw [hf]
          refine HandSPX.setFlight_upZ fl3 fun h4 hh4 up4 => wpAny_throw (tk _ _ ?_)
          exact ⟨a, B, sI, pins, σ', H', cls, d, rfl, J, nb, (up.trans up3).trans up4, .inr (.inr (by rw [hs]; exact hh4)), na, os, ag, w⟩
        first
          | exact wpAny_bind (wpAny_pure (wpAny_bind fin))
          | exact wpAny_bind fin
      | @cons x c ts b₀ suite np pos' hds2 l2 hc hsu r ih =>
        intro w
        obtain ⟨b, hb1, hyes, hno⟩ := w
        refine wpAny_handleBy_cons (codeAny_handlers_test ?_) (by intro q; cases q)
        refine test hc ((PySem.W.exm_one (M := model X.prog X.w) (J3.kIn) LT hb1).here ?_)
        cases b with
        | true =>
          refine codeAny_handlers_suite ?_
          refine HandSPX.lands_againZ fl3 fun h4 fl4 up4 => ?_
          have J4 : Inv X pins σ' H' { s' with heap := h4 } := J.landed nb fl4.1 ((up.trans up3).trans up4) os ag
          obtain ⟨oe4, vs4, he4, hz4, hd4⟩ := fl4.there
          have S4 := J4.suite he4 hd4 na nL nF
          refine wpAny_mono ((hsu a oe4 cls d (X.pn ++ pins) hz4 ⟨_, hd4⟩).run [] _ _ H' _ S4 (hyes rfl a na)) (fun f s6 hsp => ?_) (fun _ _ z => False.elim z)
          cases f with
          | next =>
            obtain ⟨σ6, H6, S6, q6⟩ := hsp
            exact ⟨_, _, S6.unsuite ok, q6⟩
          | brk =>
            obtain ⟨σ6, H6, S6, q6⟩ := hsp
            exact ⟨_, _, S6.unsuite ok, q6⟩
          | cont =>
            obtain ⟨σ6, H6, S6, q6⟩ := hsp
            exact ⟨_, _, S6.unsuite ok, q6⟩
          | ret u =>
            obtain ⟨v6, σ6, H6, S6, r6, q6⟩ := hsp
            exact ⟨_, _, _, S6.unsuite ok, r6, q6⟩
        | false =>
          show wpAny _ X.A (handleBy (.ref a) X.env hds2) _ _ _
          exact ih (hno rfl)
      | @as x n i c ts b₀ suite np pos' hds2 l2 hi hln hc hsu r ih =>
        intro w
        obtain ⟨b, hb1, hyes, hno⟩ := w
        have hloc : Loc X.env.scope n := .inl hln
        refine wpAny_handleBy_cons (codeAny_handlers_test ?_) (by intro q; cases q)
        refine test hc ((PySem.W.exm_one (M := model X.prog X.w) (J3.kIn) LT hb1).here ?_)
        cases b with
        | true =>
          refine codeAny_handlers_suite_as ?_
          refine HandSPX.lands_againZ fl3 fun h4 fl4 up4 => ?_
          have J4 : Inv X pins σ' H' { s' with heap := h4 } := J.landed nb fl4.1 ((up.trans up3).trans up4) os ag
          obtain ⟨oe4, vs4, he4, hz4, hd4⟩ := fl4.there
          have S4 := J4.suite he4 hd4 na nL nF
          refine store_ok (X := X.suite a ((a, oe4) :: (X.pn ++ pins))) (v := .ref a) S4 hN hi hloc rfl (fun s5 S5 => ?_) (.inr hln)
          refine wpAny_mono ((hsu a oe4 cls d (X.pn ++ pins) hz4 ⟨_, hd4⟩).run [] s5 _ H' _ S5 (hyes rfl a na)) (fun f s6 hsp => ?_) (fun _ _ z => False.elim z)
          have end_ : ∀ {σ6 : L2.St} {H6 : Hp} {Q : Shared → Prop}, Inv (X.suite a ((a, oe4) :: (X.pn ++ pins))) [] σ6 H6 s6 → (∀ s7, Inv X pins (σ6.set i none) H6 s7 → Q s7) →
              wpAny (model X.prog X.w) X.A (do bindName X.env n .none; unbindBehindTheSuite X.env n pos') (fun _ s7 => Q s7) X.xe s6 := fun {σ6 H6 Q} S6 hq => gone_ok (S6.unsuite ok) hN hi hln hq
          cases f with
          | next =>
            obtain ⟨σ6, H6, S6, q6⟩ := hsp
            exact end_ S6 fun s7 J7 => ⟨_, _, J7, q6⟩
          | brk =>
            obtain ⟨σ6, H6, S6, q6⟩ := hsp
            exact end_ S6 fun s7 J7 => ⟨_, _, J7, q6⟩
          | cont =>
            obtain ⟨σ6, H6, S6, q6⟩ := hsp
            exact end_ S6 fun s7 J7 => ⟨_, _, J7, q6⟩
          | ret u =>
            obtain ⟨v6, σ6, H6, S6, r6, q6⟩ := hsp
            exact end_ S6 fun s7 J7 => ⟨_, _, _, J7, r6, q6⟩
        | false =>
          show wpAny _ X.A (handleBy (.ref a) X.env hds2) _ _ _
          exact ih (hno rfl)
    exact go hh w
  · cases f with
    | next =>
      obtain ⟨σ', H', J', q⟩ := hsp
      exact wpAny_execs_nil ⟨σ', H', J'.ofTry ok, q⟩
    | brk =>
      obtain ⟨σ', H', J', q⟩ := hsp
      exact ⟨σ', H', J'.ofTry ok, q⟩
    | cont =>
      obtain ⟨σ', H', J', q⟩ := hsp
      exact ⟨σ', H', J'.ofTry ok, q⟩
    | ret u =>
      obtain ⟨v, σ', H', J', r, q⟩ := hsp
      exact ⟨v, σ', H', J'.ofTry ok, r, q⟩
end

/-- what is known of an error's dict -/
def PayJ (K : PySem.W.Frag) (p : Option (Str × D)) (d : Option Addr) (F : Hp) (r : List Addr) : Prop := match p with
  | none => d = none
  | some (f, z) => ∃ (dx : Addr) (v : V), d = some dx ∧ F dx = some (.xd [(f, v)]) ∧ Rep K F r z v
theorem PayJ.mono {K : PySem.W.Frag} {p : Option (Str × D)} {d : Option Addr} {F F' : Hp} {r r' : List Addr} (e : Same F F') (q : r <+: r') (h : PayJ K p d F r) : PayJ K p d F' r' := by
  cases p with
  | none => exact h
  | some fz =>
    obtain ⟨f, z⟩ := fz
    obtain ⟨dx, v, h1, h2, h3⟩ := h
    exact ⟨dx, v, h1, e _ _ h2, h3.mono e q⟩
def ghS (K : PySem.W.Frag) (x : Gh) (a : Addr) (p : Option (Str × D)) (d : Option Addr) : Gh := ⟨a, fun F r => x.J F r ∧ PayJ K p d F r, fun e q h => ⟨x.mono e q h.1, h.2.mono e q⟩⟩
abbrev WS (K : PySem.W.Frag) (x : Gh) (a : Addr) (p : Option (Str × D)) (d : Option Addr) : Wx := ⟨fun _ _ _ _ => False, ghS K x a p d⟩
def clr1 : Option D → Option D
  | some .exc => none
  | o => o
def clr (env : Dv) : Dv := env.map clr1
theorem clr1_some {o : Option D} {d : D} (h : clr1 o = some d) : o = some d ∧ d ≠ .exc := by
  cases o with
  | none => cases h
  | some e =>
    cases e <;> first | (cases h; done) | (cases h; exact ⟨rfl, fun z => by cases z⟩)
theorem EnvR.clr {x y : Gh} {K : PySem.W.Frag} {F : Hp} {r : List Addr} {σ : L2.St} {env : Dv} (h : EnvR x K F r σ env) (j : y.J F r) : EnvR y K F r σ (clr env) := by
  refine ⟨by rw [FL.clr, List.length_map]; exact h.1, fun i d q => ?_, j⟩
  rw [FL.clr, List.getElem?_map] at q
  cases e : env[i]? with
  | none => rw [e] at q; cases q
  | some o =>
    rw [e] at q
    obtain ⟨rfl, hne⟩ := clr1_some (Option.some.inj q)
    obtain ⟨v, h1, h2⟩ := h.2.1 i d e
    refine ⟨v, h1, .inl ?_⟩
    rcases h2 with h2 | ⟨h2, _⟩
    · exact h2
    · exact absurd h2 hne
/-- a clause: what its test says of the errors' classes; the slot of its name; its suite -/
structure Hd where
  subs : List (Str × Bool)
  slot : Option Nat
  h : Str → Option (Str × D) → Sx
def inD (env : Dv) : Option Nat → Dv
  | none => clr env
  | some i => (clr env).set i (some .exc)
def outD (env : Dv) : Option Nat → Dv
  | none => clr env
  | some i => (clr env).set i none
def handle : List Hd → Str → Option (Str × D) → Sx
  | [], c, p => fun env S => some (.ex c p, env, S)
  | x :: r, c, p => fun env S => match x.subs.lookup c with
    | some true => match x.h c p (inD env x.slot) S with
      | some (.ex _ _, _, _) => none
      | some (fl, env', S') => some (fl, outD env' x.slot, S')
      | none => none
    | some false => handle r c p env S
    | none => none
def tryS (f : Sx) (hs : List Hd) : Sx := fun env S => match f env S with
  | some (.ex c p, env1, S1) => handle hs c p env1 S1
  | o => o
/-- a suite's reading by its twin -/
def tSu (K : PySem.W.Frag) (x : Gh) (h : Str → Option (Str × D) → Sx) (a : Addr) (cls : Value) (d : Option Addr) : TS := fun Dn σ H => ∃ (c : Str) (p : Option (Str × D)), cls = .ref (He.ga K c) ∧ tS K (h c p) (WS K x a p d) Dn σ H
abbrev SuOk (X : Cx) (x : Gh) (suite : List Stmt) (h : Str → Option (Str × D) → Sx) : Prop := ∀ (a : Addr) (oe : Obj) (c : Str) (p : Option (Str × D)) (d : Option Addr) (pn : List (Addr × Obj)), Zc (.ref (He.ga X.K c)) d oe → (∃ vs, oe.data = .fields vs) → CSs (X.suite a ((a, oe) :: pn)) (WS X.K x a p d) suite (h c p)
theorem SuOk.ok {X : Cx} {x : Gh} {suite : List Stmt} {h : Str → Option (Str × D) → Sx} (k : SuOk X x suite h) (a : Addr) (oe : Obj) (cls : Value) (d : Option Addr) (pn : List (Addr × Obj)) (hz : Zc cls d oe) (hf : ∃ vs, oe.data = .fields vs) : PSs (X.suite a ((a, oe) :: pn)) suite (tSu X.K x h a cls d) :=
  ⟨fun pins s σ H Dn I ⟨c, p, e, q⟩ => by
    subst e
    exact (k a oe c p d pn hz hf).run pins s σ H Dn I q⟩
/-- the clauses and their twins -/
inductive Hdf (X : Cx) (x : Gh) : List ExceptHandler → List Hd → List Clz → Prop
  | nil : Hdf X x [] [] []
  | cons {n : Option Str} {y : Str} {c : Value} {b₀ : Stmt} {suite : List Stmt} {np pos' : Pos} {hds : List ExceptHandler} {l : List Clz} {hs : List Hd} {hd : Hd} (hc : Names X y c)
      (hx : ∀ q ∈ hd.subs, PySem.W.exmOne X.K (.ref (He.ga X.K q.1)) c = some q.2)
      (hn : match hd.slot, n with | none, none => True | some i, some n => X.N[i]? = some n ∧ X.env.kindOf n = some .local | _, _ => False)
      (hsu : SuOk X x (b₀ :: suite) hd.h) (r : Hdf X x hds hs l) :
      Hdf X x (.ExceptHandler (some (.Name y np)) n (b₀ :: suite) pos' :: hds) (hd :: hs) ((c, hd.slot, tSu X.K x hd.h) :: l)
theorem Hdf.hdx {X : Cx} {x : Gh} : ∀ {hds : List ExceptHandler} {hs : List Hd} {l : List Clz}, Hdf X x hds hs l → Hdx X hds l := fun h => by
  induction h with
  | nil => exact .nil
  | @cons n y c b₀ suite np pos' hds l hs hd hc hx hn hsu r ih =>
    obtain ⟨sb, sl, hh⟩ := hd
    cases sl with
    | none =>
      cases n with
      | none => exact .cons hc (fun a oe cls d pn hz hf => SuOk.ok hsu a oe cls d pn hz hf) ih
      | some n => exact False.elim hn
    | some i =>
      cases n with
      | none => exact False.elim hn
      | some n => exact .as hn.1 hn.2 hc (fun a oe cls d pn hz hf => SuOk.ok hsu a oe cls d pn hz hf) ih
theorem lookup_mem {α : Type} {c : Str} {b : α} : ∀ {l : List (Str × α)}, l.lookup c = some b → (c, b) ∈ l
  | [], h => by cases h
  | (y, v) :: l, h => by
    rw [List.lookup_cons] at h
    cases q : c == y with
    | true =>
      simp only [q] at h
      cases h
      have e : c = y := by simpa using q
      rw [e]
      exact List.mem_cons_self
    | false =>
      simp only [q] at h
      exact List.mem_cons_of_mem _ (lookup_mem h)
/-- the clauses take what the twin says -/
theorem handle_ok {X : Cx} {W : Wx} {Dn : Ends} {g : G} {H : Hp} {c : Str} {p : Option (Str × D)} {fl : Fl} {env env' : Dv} {S' : List MO} {σ : L2.St} {d : Option Addr} {F : Hp} {r : List Addr} {H1 : Hp} {S1 : List MO} (ev : Evo g H ⟨F, r, S1⟩ H1) (gd : Good X.K ⟨F, r, S1⟩ H1) (er : EnvR W.x X.K F r σ env)
    (x : XR X.K F r H1 c p (.ref (He.ga X.K c)) d) (P : PostS X.K g H Dn W fl env' S') : ∀ {hds : List ExceptHandler} {hs : List Hd} {l : List Clz}, Hdf X W.x hds hs l → handle hs c p env S1 = some (fl, env', S') → wMix X.K W.w Dn l (.ref (He.ga X.K c)) d σ H1 := fun hh => by
  have hp : PayJ X.K p d F r := by
    have x2 := x.2
    cases p with
    | none => exact x2
    | some fz => exact x2
  induction hh with
  | nil =>
    intro q
    cases q
    exact P F r H1 ev gd σ _ d er x
  | @cons n y cv b₀ suite np pos' hds l hs hd hc hx hn hsu rr ih =>
    intro q
    unfold handle at q
    split at q
    · rename_i ql
      refine ⟨true, hx (c, true) (lookup_mem ql), fun _ a na => ?_, fun z => by cases z⟩
      have jn : (ghS X.K W.x a p d).J F r := ⟨er.2.2, hp⟩
      have er1 : EnvR (ghS X.K W.x a p d) X.K F r (stWith σ a hd.slot) (inD env hd.slot) := by
        cases hd.slot with
        | none => exact er.clr jn
        | some i => exact (EnvR.clr (y := ghS X.K W.x a p d) er jn).set0 i (.inr ⟨rfl, rfl⟩)
      have back : ∀ {F2 : Hp} {r2 : List Addr} {σ2 : L2.St} {env2 : Dv}, EnvR (ghS X.K W.x a p d) X.K F2 r2 σ2 env2 → EnvR W.x X.K F2 r2 (match hd.slot with | none => σ2 | some i => σ2.set i none) (outD env2 hd.slot) := fun {F2 r2 σ2 env2} e2 => by
        cases hd.slot with
        | none => exact e2.clr e2.2.2.1
        | some i => exact (EnvR.clr (y := W.x) e2 e2.2.2.1).unset i
      split at q
      · cases q
      · rename_i fl2 env2 S2 hne qh
        cases q
        refine ⟨c, p, rfl, ⟨F, r, S1⟩, inD env hd.slot, gd, er1, fl, env2, _, qh, fun F2 r2 H2 ev2 gd2 => ?_⟩
        have PP := P F2 r2 H2 (ev.trans gd ev2) gd2
        cases fl with
        | nx =>
          intro σ2 e2
          have z := PP _ (back e2)
          cases hs : hd.slot with
          | none => rw [hs] at z; exact z
          | some i => rw [hs] at z; exact z
        | bk =>
          intro σ2 e2
          have z := PP _ (back e2)
          cases hs : hd.slot with
          | none => rw [hs] at z; exact z
          | some i => rw [hs] at z; exact z
        | ct =>
          intro σ2 e2
          have z := PP _ (back e2)
          cases hs : hd.slot with
          | none => rw [hs] at z; exact z
          | some i => rw [hs] at z; exact z
        | rt dd =>
          intro v rv
          have z := PP v rv
          cases hs : hd.slot with
          | none => exact z
          | some i => exact z
        | ex c2 p2 => exact absurd rfl (hne c2 p2)
      · cases q
    · rename_i ql
      exact ⟨false, hx (c, false) (lookup_mem ql), (fun z => by cases z), fun _ => ih q⟩
    · cases q
section
variable {X : Cx} {W : Wx} {body : List Stmt} {h₀ : ExceptHandler} {hds : List ExceptHandler} {l : List Clz} {pos : Pos} {f : Sx} {hs : List Hd}
/-- try: .. except ..: .. -/
theorem cs_try (hst : X.stack = X.env :: X.outer) (hf : X.env.frame = some X.env.locals) (hN : X.N.Nodup) (tk : Takes X W.w)
    (hb : ∀ (w : WX) (pn : List (Addr × Obj)) (xe : Value → Shared → Prop), Takes (X.tr pn xe) w → PassesOwn (model X.prog X.w) X.A X.env xe → CSs (X.tr pn xe) ⟨w, W.x⟩ body f)
    (hh : Hdf X W.x (h₀ :: hds) hs l) : CS X W (.Try body (h₀ :: hds) [] [] pos) (tryS f hs) :=
  PS.imp (ps_try_mix (tb := fun w => tS X.K f ⟨w, W.x⟩) hst hf hN tk hb hh.hdx) fun Dn σ H ⟨g, env, gd, er, fl, env', S', q, P⟩ => by
    unfold tryS at q
    split at q
    · rename_i c p env1 S1 q1
      exact ⟨g, env, gd, er, .ex c p, env1, S1, q1, fun F' r' H' ev gd' σ' cls dd er' x => by
        obtain ⟨rfl, x2⟩ := x
        exact handle_ok (W := W) ev gd' er' ⟨rfl, x2⟩ P hh q⟩
    · rename_i hne
      refine ⟨g, env, gd, er, fl, env', S', q, fun F' r' H' ev gd' => ?_⟩
      have PP := P F' r' H' ev gd'
      cases fl with
      | nx => exact PP
      | bk => exact PP
      | ct => exact PP
      | rt d => exact PP
      | ex c p => exact absurd q (hne c p env' S')
end

def fXf (i : Nat) (xs : List Str) (f c : Str) (p : Option (Str × D)) : Fx D := fun env S => match env[i]? with
  | some (some .exc) => match p with
    | some (f', z) => if f' = f ∧ c ∈ xs then some (.ok z, S) else none
    | none => none
  | _ => none
section
variable {X : Cx} {x : Gh} {a : Addr} {oe : Obj} {c : Str} {p : Option (Str × D)} {d : Option Addr} {pn : List (Addr × Obj)}
theorem exc_at {i : Nat} {K : PySem.W.Frag} {F : Hp} {r : List Addr} {σ : L2.St} {env : Dv} (er : EnvR x K F r σ env) (q : env[i]? = some (some .exc)) : σ[i]? = some (some (.ref x.a)) := by
  obtain ⟨v, h1, h2⟩ := er.2.1 i _ q
  rcases h2 with h2 | ⟨_, h2⟩
  · exact False.elim h2
  · rw [h1, h2]
theorem ce_xf (i : Nat) (xs : List Str) {n f : Str} {pos np : Pos} (T : ∀ c ∈ xs, XfC X.K (He.ga X.K c) ∧ PySem.W.findIn X.K (.ref (He.ga X.K c)) f = some none) (hz : Zc (.ref (He.ga X.K c)) d oe) (hf : ∃ vs, oe.data = .fields vs) (hN : X.N[i]? = some n := by rfl)
    (hv : Vis X.env.scope n := by first | exact Or.inl rfl | exact Or.inr (Or.inl rfl) | exact Or.inr (Or.inr rfl)) (hb : attributeBase (.Name n np) f X.env (eval (.Name n np) X.env) = eval (.Name n np) X.env := by rfl) (hd : (n == ("__debug__" : Str)) = false := by decide)
    (hcd : (n == ("__classdict__" : Str)) = false := by decide) : CE (X.suite a ((a, oe) :: pn)) (WS X.K x a p d) (.Attribute (.Name n np) f pos) (fXf i xs f c p) := by
  by_cases hc : c ∈ xs
  · exact PE.imp (pe_xf (X := X) (T c hc).1 (T c hc).2 hz hf (pe_var (X := X.suite a ((a, oe) :: pn)) (i := i) hN hv hd hcd) hb) fun σ H Q ⟨g, env, gd, er, r, S', q, P⟩ => by
      unfold fXf at q
      split at q
      · rename_i qe
        split at q
        · rename_i f' z
          split at q
          · rename_i hfc
            cases q
            obtain ⟨rfl, _⟩ := hfc
            obtain ⟨_, dx, v, h1, h2, h3⟩ := er.2.2
            exact ⟨.ref a, exc_at er qe, rfl, rfl, dx, _, v, h1, gd.ex _ _ h2, by simp [List.lookup], P g.F g.r H v (Evo.refl _ _) gd h3⟩
          · cases q
        · cases q
      · cases q
  · exact ⟨fun pins s σ H Q I ⟨g, env, gd, er, r, S', q, P⟩ => by
      unfold fXf at q
      split at q
      · split at q
        · split at q
          · rename_i hfc
            exact absurd hfc.2 hc
          · cases q
        · cases q
      · cases q⟩
end
def fIsE (i : Nat) (ys : List (Str × Bool)) (c : Str) : Fx D := fun env S => match env[i]? with
  | some (some .exc) => match ys.lookup c with
    | some b => some (.ok (.bl b), S)
    | none => none
  | _ => none
/-- isinstance(e, c), e the error that the suite holds, with a dict or without -/
theorem call_isX {X : Cx} {a C : Addr} {oe : Obj} {d : Option Addr} {pn : List (Addr × Obj)} (T : ExcC X.K C) (hz : Zc (.ref C) d oe) (hf : ∃ vs, oe.data = .fields vs) :
    CallR (X.suite a ((a, oe) :: pn)) (.builtin "isinstance") (fun xs H Q => ∃ (c : V) (cv : Value) (b : Bool), xs = [.ref a, c] ∧ (∀ u, RelV c u → u = cv) ∧ PySem.W.kitOne X.K (.ref C) cv = some b ∧ (d = none ∨ ∃ (dd : Addr) (fs : List (Str × V)), d = some dd ∧ H dd = some (.xd fs)) ∧ Q (.bl b) H) := by
  intro pins s σ H xs us Q I r h
  obtain ⟨c, cv, b, rfl, hcv, e, hd, q⟩ := h
  cases r with
  | cons rx rr =>
    cases rr with
    | cons rt rr =>
      cases rr
      cases rx
      have ec := hcv _ rt
      subst ec
      obtain ⟨hget, _⟩ := I.pin (a, oe) (List.mem_append.mpr (.inl List.mem_cons_self))
      obtain ⟨vs, hv⟩ := hf
      have J : ∃ od, PySem.W.InstAt s.heap a oe C od := by
        rcases hd with hd | ⟨dd, fs, hd, hh⟩
        · refine ⟨none, hget, hz.1, by unfold PySem.W.notCls; rw [hv] <;> rfl, ?_⟩
          rw [hz.2, hd]
          trivial
        · have hx : ObjOk X.prog X.w H s.heap dd (.xd fs) := I.hok dd _ hh
          obtain ⟨mA, hns, hr⟩ := hx
          obtain ⟨od, ho, hl⟩ := lookIn_ns hns
          exact ⟨some od, hget, hz.1, by unfold PySem.W.notCls; rw [hv] <;> rfl, by rw [hz.2, hd]; exact ho⟩
      obtain ⟨od, J⟩ := J
      obtain ⟨cd, hcd, _⟩ := PySem.W.any_some T.hd
      exact PySem.W.kia_one (PySem.W.kitx_exc (by rw [hcd]; rfl) T.hg T.hk T.hs T.ha T.hn T.ht T.hm) I.kIn J e (fun z => nomatch z) fun tk => ⟨.bl b, H, I.kept (t' := tk) fun _ _ z => z, rfl, q⟩
section
variable {X : Cx} {x : Gh} {a : Addr} {oe : Obj} {c : Str} {p : Option (Str × D)} {d : Option Addr} {pn : List (Addr × Obj)}
theorem ce_isE (i : Nat) (ys : List (Str × Bool)) (cl : Str) {n : Str} {pi np ce pos : Pos} (T : ∀ q ∈ ys, ExcC X.K (He.ga X.K q.1) ∧ PySem.W.kitOne X.K (.ref (He.ga X.K q.1)) (.ref (He.ga X.K cl)) = some q.2) (hm : X.mg "isinstance" = none) (hmc : X.mg cl = some (.ref (He.ga X.K cl))) (hz : Zc (.ref (He.ga X.K c)) d oe) (hf : ∃ vs, oe.data = .fields vs)
    (hN : X.N[i]? = some n := by rfl) (hv : Vis X.env.scope n := by first | exact Or.inl rfl | exact Or.inr (Or.inl rfl) | exact Or.inr (Or.inr rfl)) (hg : Gl X "isinstance" := by rfl) (hgc : Gl X cl := by rfl) (hd : (n == ("__debug__" : Str)) = false := by decide)
    (hcd : (n == ("__classdict__" : Str)) = false := by decide) (hdc : (cl == ("__debug__" : Str)) = false := by decide)
    (h1 : starEach [.Name n np, .Name cl ce] X.env = (false, eval (.Name n np) X.env) :: starEach [.Name cl ce] X.env := by rfl) (h2 : starEach [.Name cl ce] X.env = (false, eval (.Name cl ce) X.env) :: starEach [] X.env := by rfl) (hpl : (backTo pos (starEach [.Name cl ce] X.env)).any (·.1) = false := by rfl) :
    CE (X.suite a ((a, oe) :: pn)) (WS X.K x a p d) (.Call (.Name "isinstance" pi) [.Name n np, .Name cl ce] [] pos) (fIsE i ys c) := by
  cases ql : ys.lookup c with
  | none =>
    exact ⟨fun pins s σ H Q I ⟨g, env, gd, er, r, S', q, P⟩ => by
      unfold fIsE at q
      rw [ql] at q
      split at q <;> cases q⟩
  | some b =>
    obtain ⟨t1, t2⟩ := T (c, b) (lookup_mem ql)
    exact PE.imp (pe_callB (X := X.suite a ((a, oe) :: pn)) (call_isX t1 hz hf) hg hm PyProof.Rows.boot_isinstance
      (pa_cons (pe_var (X := X.suite a ((a, oe) :: pn)) (i := i) hN hv hd hcd) (pa_cons (pe_glob (X := X.suite a ((a, oe) :: pn)) (v := .ref (He.ga X.K cl)) hgc hmc rfl hdc) pa_nil h2) h1) (by decide) (by decide) h1 hpl) fun σ H Q ⟨g, env, gd, er, r, S', q, P⟩ => by
      unfold fIsE at q
      rw [ql] at q
      split at q
      · rename_i qe
        cases q
        refine ⟨.ref a, exc_at er qe, .ref (He.ga X.K cl), .ref (He.ga X.K cl), b, rfl, fun u ru => ru, t2, ?_, P g.F g.r H (.bl b) (Evo.refl _ _) gd rfl⟩
        obtain ⟨_, jp⟩ := er.2.2
        cases p with
        | none => exact .inl jp
        | some fz =>
          obtain ⟨dx, v, h1, h2, h3⟩ := jp
          exact .inr ⟨dx, _, h1, gd.ex _ _ h2⟩
      · cases q
end
end FL

namespace FL
open PySem L2 PyProof.Rows

def nub : List Int → List Int
  | [] => []
  | x :: xs => if x ∈ xs then nub xs else x :: nub xs
theorem mem_nub {k : Int} : ∀ {xs : List Int}, k ∈ nub xs ↔ k ∈ xs
  | [] => by simp [nub]
  | x :: xs => by
    unfold nub
    split
    · rename_i h
      rw [mem_nub, List.mem_cons]
      constructor
      · exact .inr
      · rintro (e | e)
        · rw [e]; exact h
        · exact e
    · rw [List.mem_cons, List.mem_cons, mem_nub]
theorem nub_nodup : ∀ xs : List Int, (nub xs).Nodup
  | [] => List.nodup_nil
  | x :: xs => by
    unfold nub
    split
    · exact nub_nodup xs
    · rename_i h
      exact List.nodup_cons.mpr ⟨fun z => h (mem_nub.mp z), nub_nodup xs⟩
theorem sub_len : ∀ {l m : List Int}, l.Nodup → (∀ k ∈ l, k ∈ m) → l.length ≤ m.length
  | [], m, _, _ => Nat.zero_le _
  | x :: l, m, hn, hs => by
    obtain ⟨h1, h2⟩ := List.nodup_cons.mp hn
    have hm := hs x List.mem_cons_self
    have h3 : ∀ k ∈ l, k ∈ m.erase x := fun k hk => by
      have hne : k ≠ x := fun z => h1 (z ▸ hk)
      exact (List.mem_erase_of_ne hne).mpr (hs k (List.mem_cons_of_mem _ hk))
    have h4 := sub_len h2 h3
    have h5 := List.length_erase_of_mem hm
    have h6 := List.length_pos_of_mem hm
    rw [List.length_cons]
    omega
theorem same_len {l m : List Int} (h1 : l.Nodup) (h2 : m.Nodup) (h : ∀ k, k ∈ l ↔ k ∈ m) : l.length = m.length := Nat.le_antisymm (sub_len h1 fun k hk => (h k).mp hk) (sub_len h2 fun k hk => (h k).mpr hk)
theorem firstMet_nd (val : Nat → Int) : ∀ i, (PyProof.Rows.firstMet val i).Nodup
  | 0 => List.nodup_nil
  | i + 1 => by
    rw [PyProof.Rows.firstMet_succ]
    unfold PyProof.Rows.step_dedup
    split
    · exact firstMet_nd val i
    · rename_i h
      refine List.nodup_append.mpr ⟨firstMet_nd val i, by simp, fun a ha b hb e => h ?_⟩
      have hb' : b = val i := by simpa using hb
      rw [List.any_eq_true]
      exact ⟨a, ha, by rw [e, hb']; exact beq_self_eq_true _⟩
theorem mem_firstMet {ns : List Int} {k : Int} : k ∈ PyProof.Rows.firstMet (fun i => ns.getD i 0) ns.length ↔ k ∈ ns := by
  have h := PyProof.Rows.firstMet_any (fun i => ns.getD i 0) ns.length k
  have e : (List.range ns.length).map (fun i => ns.getD i 0) = ns := by
    refine List.ext_getElem (by simp) fun i h1 h2 => ?_
    rw [List.getElem_map, List.getElem_range, List.getD_eq_getElem?_getD, List.getElem?_eq_getElem h2]
    rfl
  rw [e] at h
  have key : ∀ l : List Int, (l.any (· == k) = true ↔ k ∈ l) := fun l => by
    rw [List.any_eq_true]
    constructor
    · rintro ⟨a, h1, h2⟩
      have : a = k := by simpa using h2
      exact this ▸ h1
    · exact fun h1 => ⟨k, h1, beq_self_eq_true _⟩
  rw [← key, ← key, h]
theorem firstMet_len {ns : List Int} : (PyProof.Rows.firstMet (fun i => ns.getD i 0) ns.length).length = (nub ns).length := same_len (firstMet_nd _ _) (nub_nodup _) fun k => mem_firstMet.trans mem_nub.symm
theorem setR_len {w : World} {h : Heap} {a : Addr} {ns : List Int} {c : Nat} (R : SetR w h a (fun j => decide (j ∈ ns)) c) : c = (nub ns).length := by
  obtain ⟨o, es, ep, t, ho, hx, hd, g, nd, hm, hb, hf, hn, _⟩ := R
  rw [← hn, ← Array.length_toList, ← List.length_map (f := keyOf)]
  exact same_len nd (nub_nodup _) fun k => by
    rw [mem_nub, ← hm k]
    exact ⟨fun z => of_decide_eq_true z, fun z => decide_eq_true z⟩
def tLenSetA (K : PySem.W.Frag) (ta : TE) : TE := fun σ H Q => ta σ H fun x H1 => ∃ (l : Addr) (ns : List Int), x = .ref l ∧ (SqL K H1 l (ns.map V.int) ∨ SqT K H1 l (ns.map V.int)) ∧ ns.length ≤ 4000 ∧ Q (.int ((nub ns).length : Nat)) H1
theorem pe_lenSetA {X : Cx} {a : Expr} {ta : TE} {p p2 q pos : Pos} (hg : Gl X "len") (hm : X.mg "len" = none) (hg2 : Gl X "set") (hm2 : X.mg "set" = none) (ha : PE X a ta) (hc : X.calm = true := by rfl)
    (na : starEach [a] X.env = (false, eval a X.env) :: starEach [] X.env := by rfl) : PE X (.Call (.Name "len" p) [.Call (.Name "set" p2) [a] [] q] [] pos) (tLenSetA X.K ta) := by
  refine ⟨fun pins s σ H Q I h => ?_⟩
  refine Call_ (ld_blt I hg hm (show bootBuiltins "len" = some (.builtin "len") by decide +kernel) ?_)
  refine PyProof.Rows.callWith_builtin1 (PyProof.Rows.args_cons ?_ rfl) rfl rfl
  refine Call_ (ld_blt I hg2 hm2 (show bootBuiltins "set" = some (.type "set") by decide +kernel) ?_)
  refine PyProof.Rows.callWith_type1 (PyProof.Rows.args_cons (thn (ha.run pins s σ H _ I h) fun v s1 ⟨x, H1, I1, r1, q1⟩ => PyProof.Rows.args_nil ?_) na) na rfl
  obtain ⟨l, ns, rfl, hq, hl, q1⟩ := q1
  cases r1
  rcases hq with hq | hq
  · obtain ⟨its, r, pl, hz⟩ := I1.list hq
    have hlen : its.toArray.size = ns.length := by rw [List.size_toArray, ← r.length, List.length_map]
    refine PySem.call_set_list (I1.ok.hd hc) pl.isList (by simpa using RZ.intsAre_vals r) (by rw [hlen]; unfold scanBound; omega) fun h' tk hS hk => ?_
    refine PyProof.Rows.args_nil ?_
    rw [hlen, firstMet_len] at hS
    obtain ⟨o, es, ep, t, ho, hex, hd, _, _, _, hf, hn⟩ := hS
    have hle := sub_len (nub_nodup ns) fun k hk => mem_nub.mp hk
    have I2 : Inv X pins σ H1 { s1 with heap := h', toks := tk } := I1.kept fun b o e => hk b o (Heap.lt_size e) e
    exact call_len_set ho hex hd hf (by rw [hn] <;> omega) ⟨.int (nub ns).length, H1, I2.tok _, ⟨_, by rw [hn]⟩, q1⟩
  · obtain ⟨its, r, it, _⟩ := I1.tuple hq
    refine L2.call_set_tupI ns (I1.ok.hd hc) (l := l) (items := its.toArray) it (by simpa using RZ.intsAre_vals r) (by unfold scanBound; omega) fun h' tk c hS hc' hk => ?_
    refine PyProof.Rows.args_nil ?_
    have ec := setR_len hS
    obtain ⟨o, es, ep, t, ho, hex, hd, _, _, _, _, hf, hn, _⟩ := hS
    have I2 : Inv X pins σ H1 { s1 with heap := h', toks := tk } := I1.kept fun b o e => hk b o e
    exact call_len_set ho hex hd hf (by rw [hn] <;> omega) ⟨.int (nub ns).length, H1, I2.tok _, ⟨_, by rw [hn, ec]⟩, q1⟩
def lenSetD (S : List MO) (d : D) : Option D := match viewS S d with
  | some xs => match intsOf xs with
    | some ns => if ns.length ≤ 4000 then some (.int (nub ns).length) else none
    | none => none
  | none => none
def fUn (op : List MO → D → Option D) (f : Fx D) : Fx D := bindF f fun d => liftF fun S => op S d
section
variable {X : Cx} {W : Wx} {a : Expr} {fa : Fx D}
theorem ce_lenSet {p p2 q pos : Pos} (hm : X.mg "len" = none) (hm2 : X.mg "set" = none) (ha : CE X W a fa) (hc : X.calm = true := by rfl) (hg : Gl X "len" := by rfl) (hg2 : Gl X "set" := by rfl)
    (na : starEach [a] X.env = (false, eval a X.env) :: starEach [] X.env := by rfl) : CE X W (.Call (.Name "len" p) [.Call (.Name "set" p2) [a] [] q] [] pos) (fUn lenSetD fa) :=
  PE.imp (pe_lenSetA hg hm hg2 hm2 ha hc na) fun σ H Q ⟨g, env, c⟩ => (c.bind (relB := relD X.K)).imp fun x H1 ⟨d, g1, rx, ev, c1⟩ => by
    obtain ⟨z, e, P⟩ := c1.lift
    unfold lenSetD at e
    split at e
    · rename_i xs qv
      split at e
      · rename_i ns qi
        split at e
        · rename_i hl
          cases e
          obtain ⟨l, vs, rfl, h1, h2⟩ := viewS_ok c1.good rx qv
          have ev := intsOf_ok h2 qi
          subst ev
          exact ⟨l, ns, rfl, h1, hl, P _ _ _ _ (Evo.refl _ _) c1.good rfl⟩
        · cases e
      · cases e
    · cases e
theorem ce_revL {k : Nat} {p1 p2 p3 pos : Pos} (ha : CE X W a fa) : CE X W (.Subscript a (.Slice none none (some (.UnaryOp .USub (.Constant (.int 1) k p1) p2)) p3) pos) (fUn revD fa) :=
  PE.imp (L2.pe_revL ha) fun σ H Q ⟨g, env, c⟩ => (c.bind (relB := relD X.K)).imp fun x H1 ⟨d, g1, rx, ev, c1⟩ => by
    obtain ⟨z, e, P⟩ := c1.lift
    unfold revD at e
    split at e
    · rename_i xs qv
      cases e
      obtain ⟨l, vs, rfl, h1, h2⟩ := viewL_ok c1.good rx qv
      exact ⟨l, vs, rfl, h1, fun p hp => P _ _ _ _ (Evo.frozen c1.good hp) (c1.good.frozen hp) ⟨p, _, rfl, upd_same, (h2.reverse).mono (c1.good.up hp) List.prefix_rfl⟩⟩
    · cases e
def joinD (S : List MO) (s x : D) : Option D := match s with
  | .str a => match viewS S x with
    | some xs => match strsOf xs with
      | some ys => if (ys.map (·.length)).sum + ys.length * a.length ≤ 16777216 then some (.str (Txt.join a ys)) else none
      | none => none
    | none => none
  | _ => none
def fJoin (fo fa : Fx D) : Fx D := bindF fo fun d => match d with
  | .str a => bindF fa fun x => liftF fun S => joinD S (.str a) x
  | _ => fDead
theorem ce_join {o : Expr} {fo : Fx D} {apos pos : Pos} (ho : CE X W o fo) (ha : CE X W a fa) (hs : starEach [a] X.env = [(false, eval a X.env)] := by rfl) (hbase : attributeBase o "join" X.env (eval o X.env) = eval o X.env := by rfl) (hline : (apos.endLine == pos.line) = true := by rfl) :
    CE X W (.Call (.Attribute o "join" apos) [a] [] pos) (fJoin fo fa) :=
  PE.imp (pe_join ho ha hs hbase hline) fun σ H Q ⟨g, env, c⟩ => (c.bind (relB := relD X.K)).imp fun x H1 ⟨d, g1, rx, ev, c1⟩ => by
    split at c1
    · rename_i a
      cases rx
      refine ⟨⟨a, rfl⟩, (c1.bind (relB := relD X.K)).imp fun y H2 ⟨d2, g2, ry, ev2, c2⟩ => ?_⟩
      obtain ⟨z, e, P⟩ := c2.lift
      unfold joinD at e
      dsimp only at e
      split at e
      · rename_i xs qv
        split at e
        · rename_i ys qs
          split at e
          · rename_i hz
            cases e
            obtain ⟨l, vs, rfl, h1, h2⟩ := viewS_ok c2.good ry qv
            have ev := strsOf_ok h2 qs
            subst ev
            exact ⟨a, l, ys, rfl, rfl, h1, hz, P _ _ _ _ (Evo.refl _ _) c2.good rfl⟩
          · cases e
        · cases e
      · cases e
    · obtain ⟨_, _, r, S', z, _⟩ := c1
      cases z
end

def CatO (S : List MO) (x y : D) : Option (List D) := match viewM S x, viewM S y with
  | some xs, some ys => if xs.length + ys.length ≤ 100000 then some (xs ++ ys) else none
  | _, _ => none
def RepO (S : List MO) (x y : D) : Option (List D) := match y with
  | .int k => match viewM S x with
    | some xs => if k < 1000000 ∧ -1000000 < k ∧ xs.length * k.toNat ≤ 100000 then some (List.replicate k.toNat xs).flatten else none
    | none => none
  | _ => none
def ListO (S : List MO) (x : D) : Option (List D) := viewS S x
def fNew (t : Fx (List D)) : Fx D := bindF t fun xs => fun _ S => some (.ok (.obj S.length), S ++ [.lst xs])
def fOpO (op : List MO → D → D → Option (List D)) (fa fb : Fx D) : Fx D := fNew (bindF fa fun x => bindF fb fun y => liftF fun S => op S x y)
def fListO (fa : Fx D) : Fx D := fNew (bindF fa fun x => liftF fun S => ListO S x)
section
variable {K : PySem.W.Frag}
/-- the new list in the store -/
theorem newO {g g1 : G} {H H1 : Hp} {W : Wx} {σ : L2.St} {env : Dv} {Q : VK} {o : List MO → Option (List D)} (c : Cf K (relD K) (fNew (liftF o)) W σ H Q g env) : ∃ xs, o g.S = some xs ∧ ∀ p vs, H p = none → RepL K g.F g.r xs vs → Q (.ref p) (upd H p (.lst vs)) := by
  obtain ⟨gd, er, r, S', e, P⟩ := c
  unfold fNew bindF liftF at e
  cases q : o g.S with
  | none => simp only [q] at e; cases e
  | some xs =>
    simp only [q] at e
    cases e
    refine ⟨xs, rfl, fun p vs hp rv => P _ _ _ _ (Evo.fresh gd hp) (gd.fresh hp ⟨vs, upd_same, rv.mono (Same.refl _) (List.prefix_append _ _)⟩) ⟨p, rfl, ?_⟩⟩
    rw [← gd.len]
    simp
theorem bindF_assoc {α β γ : Type} (f : Fx α) (g : α → Fx β) (h : β → Fx γ) : bindF (bindF f g) h = bindF f fun a => bindF (g a) h := by
  funext env S
  unfold bindF
  cases f env S with
  | none => rfl
  | some z =>
    obtain ⟨z, S1⟩ := z
    cases z <;> rfl
end
section
variable {X : Cx} {W : Wx} {a b : Expr} {fa fb : Fx D} {pos : Pos}
theorem ox_opO {r : R2} {op : List MO → D → D → Option (List D)} (lk : ∀ (g : G) (H : Hp) (x y : V) (dx dy : D) (xs : List D) (Q : VK), Good X.K g H → Rep X.K g.F g.r dx x → Rep X.K g.F g.r dy y → op g.S dx dy = some xs → (∀ p vs, H p = none → RepL X.K g.F g.r xs vs → Q (.ref p) (upd H p (.lst vs))) → r x y H Q)
    {σ : L2.St} {H : Hp} {Q : VK} (h : tX X.K (relD X.K) (fOpO op fa fb) W σ H Q) : tOp r (tX X.K (relD X.K) fa W) (tX X.K (relD X.K) fb W) σ H Q := by
  obtain ⟨g, env, c⟩ := h
  unfold fOpO fNew at c
  simp only [bindF_assoc] at c
  refine (c.bind (relB := relD X.K)).imp fun x H1 ⟨dx, g1, rx, ev, c1⟩ => ?_
  refine (c1.bind (relB := relD X.K)).imp fun y H2 ⟨dy, g2, ry, ev2, c2⟩ => ?_
  obtain ⟨xs, e, P⟩ := newO (g1 := g2) (H1 := H2) c2
  exact lk g2 H2 x y dx dy xs Q c2.good (rx.mono ev2.f ev2.r) ry e P
theorem ce_catO (ha : CE X W a fa) (hb : CE X W b fb) : CE X W (.BinOp a .Add b pos) (fOpO CatO fa fb) :=
  PE.imp (pe_op op_cat ha hb) fun σ H Q h => ox_opO (fun g H x y dx dy xs Q gd hx hy e P => by
    unfold CatO at e
    split at e
    · rename_i xs ys q1 q2
      split at e
      · rename_i hz
        cases e
        obtain ⟨l, vs, rfl, h1, h2⟩ := viewM_ok gd hx q1
        obtain ⟨m, ws, rfl, h3, h4⟩ := viewM_ok gd hy q2
        exact ⟨l, m, vs, ws, rfl, rfl, h1, h3, by rw [h2.length, h4.length]; exact sz_of hz, fun p hp => P p _ hp (h2.append h4)⟩
      · cases e
    · cases e) h
theorem ce_repO (ha : CE X W a fa) (hb : CE X W b fb) : CE X W (.BinOp a .Mult b pos) (fOpO RepO fa fb) :=
  PE.imp (pe_op op_rep ha hb) fun σ H Q h => ox_opO (fun g H x y dx dy xs Q gd hx hy e P => by
    unfold RepO at e
    split at e
    · split at e
      · rename_i xs q
        split at e
        · rename_i k _ hz
          cases hy; cases e
          obtain ⟨l, vs, rfl, h1, h2⟩ := viewM_ok gd hx q
          exact ⟨l, k, vs, rfl, rfl, h1, by omega, by omega, by rw [h2.length]; exact sz_of hz.2.2, fun p hp => P p _ hp (h2.rep _)⟩
        · cases e
      · cases e
    · cases e) h
theorem ce_listO {p : Pos} (hm : X.mg "list" = none) (ha : CE X W a fa) (hg : Gl X "list" := by rfl)
    (hst : starEach [a] X.env = (false, eval a X.env) :: starEach [] X.env := by rfl) (hpl : (backTo pos (starEach [] X.env)).any (·.1) = false := by rfl) : CE X W (.Call (.Name "list" p) [a] [] pos) (fListO fa) :=
  PE.imp (pe_callTy call_list_of hg hm (show bootBuiltins "list" = some (.type "list") by decide +kernel) (pa_cons ha pa_nil hst) (by decide) (by decide) hst hpl) fun σ H Q ⟨g, env, c⟩ => by
    unfold fListO fNew at c
    simp only [bindF_assoc] at c
    refine (c.bind (relB := relD X.K)).imp fun x H1 ⟨dx, g1, rx, ev, c1⟩ => ?_
    obtain ⟨xs, e, P⟩ := newO (g1 := g1) (H1 := H1) c1
    obtain ⟨l, vs, rfl, h1, h2⟩ := viewS_ok c1.good rx e
    exact ⟨l, vs, rfl, h1, fun p hp => P p vs hp h2⟩
end
end FL

namespace FL
open PySem L2 PyProof.Rows

def keyPy : Key → PyData
  | .inl i => .int i
  | .inr s => .str s
def scPy : D → Option PyData
  | .non => some .none
  | .bl b => some (.bool b)
  | .int i => some (.int i)
  | .str s => some (.str s)
  | _ => none
def scPyL : List D → Option (List PyData)
  | [] => some []
  | d :: ds => match scPy d, scPyL ds with
    | some p, some ps => some (p :: ps)
    | _, _ => none
theorem scPy_ok {K : PySem.W.Frag} {F : Hp} {r : List Addr} {d : D} {v : V} {u : Value} {p : PyData} {h : Heap} (hr : Rep K F r d v) (e : scPy d = some p) (ru : RelV v u) : Reads h u p [] := by
  cases d with
  | non => cases hr; cases e; cases ru; exact .none
  | bl b => cases hr; cases e; cases ru; exact .bool b
  | int i => cases hr; cases e; obtain ⟨t, rfl⟩ := ru; exact .int i t
  | str s => cases hr; cases e; obtain ⟨t, rfl⟩ := ru; exact .str s t
  | _ => cases e
theorem reads_dk {P : Program} {w : World} {K : PySem.W.Frag} {F : Hp} {r : List Addr} {h : Heap} : ∀ {kvs : List (Key × V)} {es : List DictEntry} {vs : List (Key × Value)} {ds : List D} {ps : List PyData}, Pairs (mixKind P w) es vs → KV kvs vs → RepL K F r ds (kvs.map (·.2)) → scPyL ds = some ps →
    ReadsAll h (es.map (·.key)) (kvs.map fun kv => keyPy kv.1) [] ∧ ReadsAll h (es.map (·.val)) ps [] ∧ ps.length = kvs.length
  | [], es, vs, ds, ps, hp, hk, hr, e => by
    cases hk
    cases hp
    cases ds with
    | nil => cases e; exact ⟨.nil, .nil, rfl⟩
    | cons d ds =>
      obtain ⟨_, _, z, _⟩ := hr
      cases z
  | kv :: kvs, es, vs, ds, ps, hp, hk, hr, e => by
    cases hk with
    | @cons _ q _ qs hq hk =>
      cases hp with
      | @cons en _ es _ h1 h2 hp =>
        cases ds with
        | nil => cases hr
        | cons d ds =>
          obtain ⟨v, ws, ev, h3, h4⟩ := hr
          rw [List.map_cons] at ev
          injection ev with e1 e2
          subst e1 e2
          unfold scPyL at e
          split at e
          · rename_i p ps' q1 q2
            cases e
            obtain ⟨i1, i2, i3⟩ := reads_dk hp hk h4 q2
            refine ⟨?_, ?_, by rw [List.length_cons, List.length_cons, i3]⟩
            · refine .cons (as := []) (bs := []) ?_ i1
              have hk1 : keyIs q.1 en.key = true := h1
              rw [← hq.1] at hk1
              rcases keyIs_shape hk1 with ⟨i, t, z1, z2⟩ | ⟨x, t, z1, z2⟩
              · show Reads h en.key (keyPy kv.1) []
                rw [z1, z2]; exact .int i t
              · show Reads h en.key (keyPy kv.1) []
                rw [z1, z2]; exact .str x t
            · refine .cons (as := []) (bs := []) ?_ i2
              show Reads h en.val p []
              rw [h2]
              exact scPy_ok h3 q1 hq.2
          · cases e
def dictPy (ks : List Key) (ps : List PyData) : PyData := .dict ((ks.map keyPy).zip ps)
def reprK (d : D) : Option D := match d with
  | .dK ks ds => match scPyL ds with
    | some ps => if ps.length = ks.length ∧ (dictPy ks ps).showable = true ∧ (dictPy ks ps).depth ≤ 60 ∧ (dictPy ks ps).shown.length ≤ 16000000 then some (.str (dictPy ks ps).shown) else none
    | none => none
  | _ => none
def reprA (S : List MO) (ds : List D) : Option D := match ds with
  | [.dK ks vs] => reprK (.dK ks vs)
  | ds => reprD S ds
def rReprK (K : PySem.W.Frag) : List V → Hp → VK → Prop := fun xs H Q => ∃ (a : Addr) (kvs : List (Key × V)) (F : Hp) (r : List Addr) (ds : List D) (ps : List PyData), xs = [.ref a] ∧ H a = some (.dK kvs) ∧ RepL K F r ds (kvs.map (·.2)) ∧ scPyL ds = some ps ∧
  (dictPy (kvs.map (·.1)) ps).showable = true ∧ (dictPy (kvs.map (·.1)) ps).depth ≤ 60 ∧ (dictPy (kvs.map (·.1)) ps).shown.length ≤ 16000000 ∧ Q (.str (dictPy (kvs.map (·.1)) ps).shown) H
section
variable {X : Cx}
theorem cx_reprK (B : Rpr X) : CallR X (.builtin "repr") (rReprK X.K) := fun pins s σ H xs us Q I r h => by
  obtain ⟨a, kvs, F, rr, ds, ps, rfl, ha, hr, hs, h1, h2, h3, q⟩ := h
  obtain ⟨u, rfl, rx⟩ := vals1 r
  cases rx
  have hx : ObjOk X.prog X.w H s.heap a (.dK kvs) := I.hok a _ ha
  obtain ⟨z, nsys, vs, kv, o, es, ep, ho, hex, hd, _, hp, _⟩ := hx
  obtain ⟨r1, r2, r3⟩ := reads_dk (h := s.heap) hp kv hr hs
  have hl : (kvs.map fun kv => keyPy kv.1).length = ps.length := by rw [List.length_map, r3]
  have rd : Reads s.heap (.ref a) (dictPy (kvs.map (·.1)) ps) (a :: [] ++ []) := by
    refine .dict ho hex.1 hd ?_ ?_
    · have e : (((kvs.map (·.1)).map keyPy).zip ps).map (·.1) = kvs.map fun kv => keyPy kv.1 := by
        rw [List.map_map]
        exact List.map_fst_zip (by rw [List.length_map] at hl ⊢; omega)
      rw [e]
      exact r1
    · have e : (((kvs.map (·.1)).map keyPy).zip ps).map (·.2) = ps := by
        rw [List.map_map]
        exact List.map_snd_zip (by rw [List.length_map] at hl ⊢; omega)
      rw [e]
      exact r2
  have hsz : (dictPy (kvs.map (·.1)) ps).shown.length ≤ sizeLine := by rw [sizeLine_eq]; omega
  have hun : X.A.units + ((dictPy (kvs.map (·.1)) ps).depth + 1) < cLine := by have := B.un; omega
  refine repr_of_reads' rd h1 (fun _ hm => ?_) B.gu hun (fun _ _ z => z) (fun h' t tk hk => ⟨.str _, H, I.kept (t' := tk) hk, ⟨t, rfl⟩, q⟩) hsz
  have e : sysModules = a := by simpa using hm
  rw [e] at nsys
  simp at nsys
theorem lk_reprA {K : PySem.W.Frag} : CallLk K (fun xs H Q => rRepr K xs H Q ∨ rReprK K xs H Q) reprA := fun g H vs ds d Q gd hs e f => by
  unfold reprA at e
  split at e
  · rename_i ks ws
    obtain ⟨v, rfl, h⟩ := repL1 hs
    obtain ⟨a, kvs, rfl, h1, h2, h3⟩ := h
    unfold reprK at e
    dsimp only at e
    split at e
    · rename_i ps q
      split at e
      · rename_i hz
        cases e
        subst h2
        exact .inr ⟨a, kvs, g.F, g.r, ws, ps, rfl, gd.ex _ _ h1, h3, q, hz.2.1, hz.2.2.1, hz.2.2.2, f.here gd rfl⟩
      · cases e
    · cases e
  · exact .inl (lk_repr g H vs ds d Q gd hs e f)
theorem cx_reprA (B : Rpr X) : CallR X (.builtin "repr") (fun xs H Q => rRepr X.K xs H Q ∨ rReprK X.K xs H Q) := CallR.or (cx_repr B) (cx_reprK B)
end

def keyD : D → Option Key
  | .int i => some (.inl i)
  | .str s => some (.inr s)
  | _ => none
def keysD : List D → Option (List Key)
  | [] => some []
  | d :: ds => match keyD d, keysD ds with
    | some k, some ks => some (k :: ks)
    | _, _ => none
def fPairs : List (Fx D × Fx D) → Fx (List D × List D)
  | [] => pureF ([], [])
  | (k, v) :: r => bindF k fun a => bindF v fun b => bindF (fPairs r) fun ps => pureF (a :: ps.1, b :: ps.2)
def fDisp (ts : List (Fx D × Fx D)) : Fx D := bindF (fPairs ts) fun ps => liftF fun _ => match keysD ps.1 with
  | some ks => if ks.Nodup ∧ ks.length ≤ 15 then some (.dK ks ps.2) else none
  | none => none
abbrev relPs (K : PySem.W.Frag) : Rl (List D × List D) (List (V × V)) := fun F r d ps => RepL K F r d.1 (ps.map (·.1)) ∧ RepL K F r d.2 (ps.map (·.2))
inductive CPs (X : Cx) (W : Wx) : List (Option Expr) → List Expr → List (Fx D × Fx D) → Prop
  | nil : CPs X W [] [] []
  | cons {k v : Expr} {ks : List (Option Expr)} {vs : List Expr} {fk fv : Fx D} {ts : List (Fx D × Fx D)} (hk : CE X W k fk) (hv : CE X W v fv) (r : CPs X W ks vs ts) : CPs X W (some k :: ks) (v :: vs) ((fk, fv) :: ts)
def trsOf (K : PySem.W.Frag) (W : Wx) (ts : List (Fx D × Fx D)) : List (TE × TE) := ts.map fun t => (tX K (relD K) t.1 W, tX K (relD K) t.2 W)
theorem CPs.pps {X : Cx} {W : Wx} {pos : Pos} {ks : List (Option Expr)} {vs : List Expr} {ts : List (Fx D × Fx D)} (h : CPs X W ks vs ts) : PPs X pos ks vs (trsOf X.K W ts) := by
  induction h with
  | nil => exact pps_nil
  | cons hk hv r ih => exact pps_cons hk hv ih
theorem CPs.facts {X : Cx} {W : Wx} {ks : List (Option Expr)} {vs : List Expr} {ts : List (Fx D × Fx D)} (h : CPs X W ks vs ts) : ks.all (·.isSome) = true ∧ ks.length = vs.length := by
  induction h with
  | nil => exact ⟨rfl, rfl⟩
  | cons hk hv r ih => exact ⟨by simp [ih.1], by simp [ih.2]⟩
theorem pairs_t {K : PySem.W.Frag} {W : Wx} {σ : L2.St} {Q : List (V × V) → Hp → Prop} : ∀ {ts : List (Fx D × Fx D)} {H : Hp}, tX K (relPs K) (fPairs ts) W σ H Q → tPairs (trsOf K W ts) σ H Q
  | [], H, ⟨g, env, c⟩ => c.pure ⟨RepL.nil, RepL.nil⟩
  | (k, v) :: r, H, ⟨g, env, c⟩ => (c.bind (relB := relD K)).imp fun x H1 ⟨a, g1, ra, ev, c1⟩ => (c1.bind (relB := relD K)).imp fun y H2 ⟨b, g2, rb, ev2, c2⟩ =>
    pairs_t ((c2.bind (relB := relPs K)).imp fun ps H3 ⟨ds, g3, rs, ev3, c3⟩ => c3.pure ⟨RepL.cons ((ra.mono ev2.f ev2.r).mono ev3.f ev3.r) rs.1, RepL.cons (rb.mono ev3.f ev3.r) rs.2⟩)
theorem keysD_ok {K : PySem.W.Frag} {F : Hp} {r : List Addr} : ∀ {ds : List D} {ps : List (V × V)} {ks : List Key}, RepL K F r ds (ps.map (·.1)) → keysD ds = some ks → ∃ kvs : List (Key × V), ps = kvs.map (fun kv => (kV kv.1, kv.2)) ∧ kvs.map (·.1) = ks ∧ kvs.map (·.2) = ps.map (·.2)
  | [], ps, ks, h, e => by
    cases ps with
    | nil => cases e; exact ⟨[], rfl, rfl, rfl⟩
    | cons p ps => cases h
  | d :: ds, ps, ks, h, e => by
    obtain ⟨v, ws, ev, h1, h2⟩ := h
    cases ps with
    | nil => cases ev
    | cons p ps =>
      rw [List.map_cons] at ev
      injection ev with e1 e2
      subst e2
      unfold keysD at e
      split at e
      · rename_i k ks' q1 q2
        cases e
        obtain ⟨kvs, i1, i2, i3⟩ := keysD_ok h2 q2
        have hk : p.1 = kV k := by
          rw [e1]
          cases d <;> first | (cases q1; done) | (cases q1; exact h1)
        refine ⟨(k, p.2) :: kvs, ?_, by simp [i2], by simp [i3]⟩
        rw [List.map_cons, ← i1, ← hk]
      · cases e
theorem mergeK_nodup : ∀ {more kvs : List (Key × V)}, ((kvs ++ more).map (·.1)).Nodup → mergeK kvs more = kvs ++ more
  | [], kvs, _ => by simp [mergeK]
  | p :: more, kvs, h => by
    have h0 : p.1 ∉ kvs.map (·.1) := fun z => by
      rw [List.map_append, List.map_cons] at h
      have := (List.nodup_append.mp h).2.2 p.1 z p.1 List.mem_cons_self
      exact this rfl
    have e : putK kvs p.1 p.2 = kvs ++ [p] := by
      unfold putK
      rw [if_neg]
      intro z
      rw [List.any_eq_true] at z
      obtain ⟨kv, h1, h2⟩ := z
      exact h0 (List.mem_map.mpr ⟨kv, h1, of_decide_eq_true h2⟩)
    show mergeK (putK kvs p.1 p.2) more = _
    rw [e, mergeK_nodup (by rw [List.append_assoc]; exact h), List.append_assoc]
    rfl
section
variable {X : Cx} {W : Wx} {pos : Pos}
theorem ce_dE : CE X W (.Dict [] [] pos) (pureF (.dK [] [])) := PE.imp pe_dnewK fun σ H Q ⟨g, env, gd, er, r, S', q, P⟩ => by
  cases q
  exact fun p hp => P _ _ _ _ (Evo.frozen gd hp) (gd.frozen hp) ⟨p, [], rfl, upd_same, rfl, RepL.nil⟩
theorem side_fin {K : PySem.W.Frag} {g : G} {H H' : Hp} {p : Addr} {o : HO} {F' : Hp} {r' : List Addr} {S1 : List MO} (ev : Evo g H ⟨F', r', S1⟩ H') (gd : Good K ⟨F', r', S1⟩ H') (nf : F' p = none) (nr : p ∉ r') (n0 : H p = none) :
    Evo g H ⟨upd F' p o, r', S1⟩ (upd H' p o) ∧ Good K ⟨upd F' p o, r', S1⟩ (upd H' p o) := by
  have sm : Same F' (upd F' p o) := same_new nf
  have hne : ∀ (n : Nat) (a : Addr), r'[n]? = some a → a ≠ p := fun n a e z => nr (z ▸ List.mem_of_getElem? e)
  refine ⟨⟨ev.f.trans sm, ev.r, fun b u e h => ?_, fun b u e => ?_, ev.newR⟩, fun b u e => ?_, gd.len, gd.nd, fun n a m h1 h2 => (gd.mr n a m h1 h2).mono sm List.prefix_rfl (upd_ne (hne n a h1)), fun n a m h1 h2 h3 => ?_⟩
  · rw [upd_ne (ne_of_none e n0)]
    exact ev.keep b u e h
  · by_cases hb : b = p
    · exact .inr (.inr (hb ▸ n0))
    · have e' : upd F' p o b = some u := e
      rw [upd_ne hb] at e'
      exact ev.newF b u e'
  · have e' : upd F' p o b = some u := e
    by_cases hb : b = p
    · subst hb
      rw [upd_same] at e' ⊢
      exact e'
    · rw [upd_ne hb] at e' ⊢
      exact gd.ex b u e'
  · show upd F' p o a = none
    rw [upd_ne (hne n a h1)]
    exact gd.fr n a m h1 h2 h3
theorem ce_disp {ks : List (Option Expr)} {vs : List Expr} {ts : List (Fx D × Fx D)} (h : CPs X W ks vs ts) (h0 : ks ≠ [] := by intro z; cases z) (h15 : ks.length ≤ 15 := by decide) : CE X W (.Dict ks vs pos) (fDisp ts) :=
  PE.imp (pe_disp h.pps h.facts.1 h.facts.2 h0 h15) fun σ H Q ⟨g, env, gd, er, r, S', e, P⟩ => fun p hp => by
    obtain ⟨f1, f2⟩ := gd.nof hp
    have gd0 : Good X.K g (upd H p (.dK [])) := gd.side f1 f2
    have ev0 : Evo g H g (upd H p (.dK [])) := Evo.beside hp
    unfold fDisp bindF at e
    cases q : fPairs ts env g.S with
    | none => simp only [q] at e; cases e
    | some z =>
      obtain ⟨z, S1⟩ := z
      simp only [q] at e
      cases z with
      | ex c pp =>
        cases e
        exact pairs_t ⟨g, env, gd0, er, .ex c pp, _, q, fun F' r' H' cls dd ev gd' x => P F' r' H' cls dd (ev0.trans gd0 ev) gd' x⟩
      | ok ds =>
        refine pairs_t ⟨g, env, gd0, er, .ok ds, S1, q, fun F' r' H' ps ev gd' rs => ?_⟩
        unfold liftF at e
        dsimp only at e
        split at e
        · rename_i a qa
          cases e
          split at qa
          · rename_i kk qk
            split at qa
            · rename_i hz
              cases qa
              have hat : H' p = some (.dK []) := ev.keep p _ upd_same f2
              obtain ⟨kvs, e1, e2, e3⟩ := keysD_ok rs.1 qk
              refine ⟨hat, kvs, e1, ?_, ?_⟩
              · rw [← List.length_map (f := (·.1)), e2]
                exact hz.2
              · have em : mergeK [] kvs = kvs := by
                  rw [mergeK_nodup (by rw [List.nil_append, e2]; exact hz.1), List.nil_append]
                rw [em]
                have nf : F' p = none := by
                  cases q : F' p with
                  | none => rfl
                  | some u =>
                    rcases ev.newF p u q with h | h | h
                    · rw [f1] at h; cases h
                    · exact absurd h f2
                    · rw [upd_same] at h; cases h
                have nr : p ∉ r' := fun hm => by
                  rcases ev.newR p hm with h | h
                  · exact f2 h
                  · rw [upd_same] at h; cases h
                obtain ⟨ev2, gd2⟩ := side_fin (o := .dK kvs) (ev0.trans gd0 ev) gd' nf nr hp
                exact P _ _ _ _ ev2 gd2 ⟨p, kvs, rfl, upd_same, e2, by rw [e3]; exact rs.2.mono (same_new nf) List.prefix_rfl⟩
            · cases qa
          · cases qa
        · cases e
def rgD (a b : Int) : List D := (List.range (b - a).toNat).map fun i => D.int (a + (i : Nat))
theorem rgD_ok {K : PySem.W.Frag} {F : Hp} {r : List Addr} (a b : Int) : RepL K F r (rgD a b) (rgV a b) := by
  have key : ∀ l : List Nat, RepL K F r (l.map fun i => D.int (a + (i : Nat))) (l.map fun i => V.int (a + (i : Nat))) := fun l => by
    induction l with
    | nil => exact RepL.nil
    | cons i l ih => exact RepL.cons rfl ih
  exact key _
def lstRgD (d : D) : Option (List D) := match d with
  | .int n => if -1000000 < n ∧ n ≤ 50000 then some (rgD 0 n) else none
  | _ => none
variable {a : Expr} {fa : Fx D}
theorem tLstRg_ok {n : Int} {H : Hp} {Q : VK} (h1 : -1000000 < n ∧ n ≤ 50000) (q : ∀ p, H p = none → Q (.ref p) (upd H p (.lst (rgV 0 n)))) : RgOk 0 n ∧ ∀ p, H p = none → Q (.ref p) (upd H p (.lst (rgV 0 n))) :=
  ⟨⟨by decide, by decide, by omega, by omega, by omega⟩, q⟩
def lstRgF (_ : List MO) (d : D) : Option D := match d with
  | .int n => if -1000000 < n ∧ n ≤ 50000 then some (.lst (rgD 0 n)) else none
  | _ => none
def fLstRg (fa : Fx D) : Fx D := fUn lstRgF fa
theorem ce_lstRg {p p2 pos2 : Pos} (hc : X.calm = true) (hm : X.mg "list" = none) (hm2 : X.mg "range" = none) (ha : CE X W a fa) (hg : Gl X "list" := by rfl) (hg2 : Gl X "range" := by rfl) (na : starEach [a] X.env = (false, eval a X.env) :: starEach [] X.env := by rfl)
    (na2 : starEach [.Call (.Name "range" p2) [a] [] pos2] X.env = (false, eval (.Call (.Name "range" p2) [a] [] pos2) X.env) :: starEach [] X.env := by rfl) : CE X W (.Call (.Name "list" p) [.Call (.Name "range" p2) [a] [] pos2] [] pos) (fLstRg fa) :=
  PE.imp (pe_listRg hc hg hm (prg_1 hg2 hm2 ha na) na2) fun σ H Q ⟨g, env, c⟩ => (c.bind (relB := relD X.K)).imp fun x H1 ⟨d, g1, rx, ev, c1⟩ => by
    obtain ⟨z, e, P⟩ := c1.lift
    unfold lstRgF at e
    split at e
    · rename_i n
      split at e
      · rename_i hz
        cases e; cases rx
        exact ⟨n, rfl, tLstRg_ok hz fun p hp => P _ _ _ _ (Evo.frozen c1.good hp) (c1.good.frozen hp) ⟨p, _, rfl, upd_same, rgD_ok 0 n⟩⟩
      · cases e
    · cases e
def fLstRgO (fa : Fx D) : Fx D := fNew (bindF fa fun d => liftF fun _ => lstRgD d)
theorem ce_lstRgO {p p2 pos2 : Pos} (hc : X.calm = true) (hm : X.mg "list" = none) (hm2 : X.mg "range" = none) (ha : CE X W a fa) (hg : Gl X "list" := by rfl) (hg2 : Gl X "range" := by rfl) (na : starEach [a] X.env = (false, eval a X.env) :: starEach [] X.env := by rfl)
    (na2 : starEach [.Call (.Name "range" p2) [a] [] pos2] X.env = (false, eval (.Call (.Name "range" p2) [a] [] pos2) X.env) :: starEach [] X.env := by rfl) : CE X W (.Call (.Name "list" p) [.Call (.Name "range" p2) [a] [] pos2] [] pos) (fLstRgO fa) :=
  PE.imp (pe_listRg hc hg hm (prg_1 hg2 hm2 ha na) na2) fun σ H Q ⟨g, env, c⟩ => by
    unfold fLstRgO fNew at c
    simp only [bindF_assoc] at c
    refine (c.bind (relB := relD X.K)).imp fun x H1 ⟨d, g1, rx, ev, c1⟩ => ?_
    obtain ⟨xs, e, P⟩ := newO (g1 := g1) (H1 := H1) c1
    unfold lstRgD at e
    split at e
    · rename_i n
      split at e
      · rename_i hz
        cases e; cases rx
        exact ⟨n, rfl, tLstRg_ok hz fun p hp => P p _ hp (rgD_ok 0 n)⟩
      · cases e
    · cases e
theorem Cs.lift {K : PySem.W.Frag} {α : Type} {W : Wx} {Dn : Ends} {σ : L2.St} {H : Hp} {g : G} {env : Dv} {o : List MO → Option α} {k : α → Sx} (c : Cs K (bindS (liftF o) k) W Dn σ H g env) : ∃ a, o g.S = some a ∧ Cs K (k a) W Dn σ H g env := by
  obtain ⟨gd, er, fl, env', S', e, P⟩ := c
  unfold bindS liftF at e
  cases q : o g.S with
  | none => simp only [q] at e; cases e
  | some a =>
    simp only [q] at e
    exact ⟨a, rfl, gd, er, fl, env', S', e, P⟩
def fldC (cs : List Str) (f : Str) (o : D) (S : List MO) : Option (Str × D) := match insView S o with
  | some (c, ns, vs) => if c ∈ cs then match (ns.zip vs).lookup f with
    | some d => some (c, d)
    | none => none else none
  | none => none
def clsD (S : List MO) (o : D) : Option Str := match insView S o with
  | some (c, _, _) => some c
  | none => none
def augK (op : Int → Int → Int) (cs : List Str) (f : Str) (o : D) (c : Str) (v e : D) : Sx := fun env S => match v with
  | .int i => match e with
    | .int j => if clsD S o = some c then match storeF cs f o (.int (op i j)) S with
      | some S' => some (.nx, env, S')
      | none => none else none
    | _ => none
  | _ => none
def augI (op : Int → Int → Int) (cs : List Str) (f : Str) (fo fv : Fx D) : Sx := bindS fo fun o => bindS (liftF fun S => fldC cs f o S) fun cv => bindS fv fun e => augK op cs f o cv.1 cv.2 e
theorem cs_aug {op : Int → Int → Int} {o : Operator} {rd : V → V → Hp → VK → Prop} {eo ev : Expr} {f : Str} {tpos : Pos} {fo fv : Fx D} (cs : List Str) (hc : ∀ c ∈ cs, FldOk X.K c f) (hop : InOp X o rd) (hrd : ∀ i j H Q, Q (.int (op i j)) H → rd (.int i) (.int j) H Q) (ho : CE X W eo fo) (hv : CE X W ev fv) :
    CS X W (.AugAssign (.Attribute eo f tpos) o ev pos) (augI op cs f fo fv) :=
  PS.imp (ps_fldaug ho hv hop) fun D σ H ⟨g, env, c⟩ => (c.bind (rel := relD X.K)).imp fun x H1 ⟨d, g1, rx, evo, c1⟩ => by
    obtain ⟨⟨c, z⟩, e, c2⟩ := c1.lift
    unfold fldC at e
    split at e
    · rename_i c' ns vs q
      split at e
      · rename_i hm
        split at e
        · rename_i z' qz
          cases e
          obtain ⟨a, dx, fs, h1, h2, h3, h4⟩ := insView_ok c2.1 rx q
          rw [← h3] at qz
          obtain ⟨v, h5, h6⟩ := sFields h4 qz
          refine ⟨a, _, dx, fs, v, h1, h2, (hc _ hm).cls, (hc _ hm).na, h5, (c2.bind (rel := relD X.K)).imp fun y H2 zz => ?_⟩
          obtain ⟨d2, g2, ry, ev2, gd, er, fl, env', S', q2, P⟩ := zz
          dsimp only at q2
          unfold augK at q2
          split at q2
          · rename_i i
            split at q2
            · rename_i j
              split at q2
              · rename_i hcl
                split at q2
                · rename_i S3 q3
                  cases q2
                  cases h6; cases ry
                  obtain ⟨a2, c2', dx2, fs2, k1, k2, k3, k4, k5, k6, k7⟩ := storeF_ok (y := .int (op i j)) gd hc (rx.mono ev2.f ev2.r) (show Rep X.K g2.F g2.r (.int (op i j)) (.int (op i j)) from rfl) q3
                  rw [h1] at k1
                  cases k1
                  have ec : He.ga X.K c2' = He.ga X.K c := by
                    unfold clsD at hcl
                    split at hcl
                    · rename_i c3 ns3 vs3 q4
                      cases hcl
                      obtain ⟨a4, dx4, fs4, l1, l2, _, _⟩ := insView_ok gd (rx.mono ev2.f ev2.r) q4
                      rw [h1] at l1
                      cases l1
                      rw [k2] at l2
                      injection l2 with l2
                      injection l2 with l2
                    · cases hcl
                  rw [ec] at k2 k6 k7
                  exact hrd _ _ _ _ ⟨dx2, fs2, k2, k5, P _ _ _ k6 k7 σ (er.mono k6.f k6.r)⟩
                · cases q2
              · cases q2
            · cases q2
          · cases q2
        · cases e
      · cases e
    · cases e
theorem cs_fsub {eo ev : Expr} {f : Str} {tpos : Pos} {fo fv : Fx D} (cs : List Str) (hc : ∀ c ∈ cs, FldOk X.K c f) (ho : CE X W eo fo) (hv : CE X W ev fv) : CS X W (.AugAssign (.Attribute eo f tpos) .Sub ev pos) (augI (fun i j => i - j) cs f fo fv) :=
  cs_aug cs hc in_sub (fun i j H Q q => ⟨i, j, rfl, rfl, q⟩) ho hv
theorem cs_fadd {eo ev : Expr} {f : Str} {tpos : Pos} {fo fv : Fx D} (cs : List Str) (hc : ∀ c ∈ cs, FldOk X.K c f) (ho : CE X W eo fo) (hv : CE X W ev fv) : CS X W (.AugAssign (.Attribute eo f tpos) .Add ev pos) (augI (fun i j => i + j) cs f fo fv) :=
  cs_aug cs hc in_add (fun i j H Q q => ⟨i, j, rfl, rfl, q⟩) ho hv
end
end FL

namespace FL
open PySem L2 PyProof.Rows

inductive Ff where
  | fa (f : He.Fa)
  | own (cs : List Str)
  | ec (c f : Str)
  | ec0 (c : Str)
  | eb (c : Str)
  | xf (c f : Str)
  | xc (c : Str)
  | kit (c d : Str) (b : Bool)
  | exm (c d : Str) (b : Bool)
def valIs (r : Option PySem.W.CFound) (n : String) : Bool := match r with
  | some (.val (.builtin m)) => decide (m = n)
  | _ => false
def bts : List Bt := [.non, .bool, .int, .str, .list, .tuple, .dict]
theorem bt_mem : ∀ b : Bt, b ∈ bts := fun b => by cases b <;> decide
def ownB (K : PySem.W.Frag) (cs : List Str) : Bool :=
  (cs.all fun c => (He.Fa.cls c).ok K && He.eqO (PySem.W.findIn K (.ref (He.ga K c)) "__class__") (some (some (.builtin "object.__class__"))) && decide (PySem.W.mroIn K (He.ga K c) (.type "object") = some true)) &&
  (He.eqO (PySem.W.specialIn K (.builtin "object.__class__") "__get__") (some (some (.builtin "getset_descriptor.__get__"))) && (decide (PySem.W.takesIn K (.builtin "object.__class__") = some true) &&
  ((cs.all fun c => bts.all fun b => decide (PySem.W.kitOne K (.ref (He.ga K c)) (.type b.name) = some false) && decide (PySem.W.kitOne K (.type b.name) (.ref (He.ga K c)) = some false)) &&
  cs.all fun c => cs.all fun d => decide (PySem.W.kitOne K (.ref (He.ga K c)) (.ref (He.ga K d)) = some (decide (c = d))))))
theorem ownB_ok {K : PySem.W.Frag} {cs : List Str} (h : ownB K cs = true) : OwnOk K cs := by
  unfold ownB at h
  obtain ⟨h1, h⟩ := bAnd h
  obtain ⟨h2, h⟩ := bAnd h
  obtain ⟨h3, h⟩ := bAnd h
  obtain ⟨h4, h5⟩ := bAnd h
  refine ⟨fun c hc => ?_, fun c hc => ?_, He.eqO_ok h2, of_decide_eq_true h3, fun c hc => ?_, fun c hc b => ?_, fun c hc b => ?_, fun c hc d hd => ?_⟩
  · exact He.cls_ok (bAnd (bAnd (List.all_eq_true.mp h1 c hc)).1).1
  · exact He.eqO_ok (bAnd (bAnd (List.all_eq_true.mp h1 c hc)).1).2
  · exact of_decide_eq_true (bAnd (List.all_eq_true.mp h1 c hc)).2
  · exact of_decide_eq_true (bAnd (List.all_eq_true.mp (List.all_eq_true.mp h4 c hc) b (bt_mem b))).1
  · exact of_decide_eq_true (bAnd (List.all_eq_true.mp (List.all_eq_true.mp h4 c hc) b (bt_mem b))).2
  · exact of_decide_eq_true (List.all_eq_true.mp (List.all_eq_true.mp h5 c hc) d hd)
def ecB (K : PySem.W.Frag) (c : Str) : Bool := PySem.W.excInitIn K (He.ga K c) exTl "Exception.__new__" && (PySem.W.excOver K (He.ga K c) exTl && (He.eqO (PySem.W.findIn K (.ref (He.ga K c)) "__setattr__") (some (some (.builtin "object.__setattr__"))) && (PySem.W.hasDictIn K (He.ga K c) &&
  (decide (PySem.W.subIn K (.ref (He.ga K c)) (.type "BaseException") = some true) && (decide (PySem.W.typeIn K (.ref (He.ga K c)) = some (.type "type")) && (PySem.W.keepIn K (.ref (He.ga K c)) &&
  (He.eqO (PySem.W.findIn K (.ref (He.ga K c)) "__init__") (some (some (.ref (He.ma K (He.ga K c) "__init__")))) && decide (PySem.W.typeIn K (.ref (He.ma K (He.ga K c) "__init__")) = some (.type "function")))))))))
/-- what FL14's raise asks of a class -/
structure EcMk (K : PySem.W.Frag) (c : Str) : Prop where
  ok : EcOk K (He.ga K c)
  ini : PySem.W.findIn K (.ref (He.ga K c)) "__init__" = some (some (.ref (He.ma K (He.ga K c) "__init__")))
  ty : PySem.W.typeIn K (.ref (He.ma K (He.ga K c) "__init__")) = some (.type "function")
theorem ecB_ok {K : PySem.W.Frag} {c : Str} (h : ecB K c = true) : EcMk K c := by
  unfold ecB at h
  obtain ⟨h1, h⟩ := bAnd h
  obtain ⟨h2, h⟩ := bAnd h
  obtain ⟨h3, h⟩ := bAnd h
  obtain ⟨h4, h⟩ := bAnd h
  obtain ⟨h5, h⟩ := bAnd h
  obtain ⟨h6, h⟩ := bAnd h
  obtain ⟨h7, h⟩ := bAnd h
  obtain ⟨h8, h9⟩ := bAnd h
  exact ⟨⟨h1, h2, He.eqO_ok h3, h4, of_decide_eq_true h5, of_decide_eq_true h6, h7⟩, He.eqO_ok h8, of_decide_eq_true h9⟩
def ebB (K : PySem.W.Frag) (c : Str) : Bool := PySem.W.readsIn K (He.ga K c) (.type "type") && (He.eqO (PySem.W.specialIn K (.ref (He.ga K c)) "__getattribute__") (some (some (.builtin "type.__getattribute__"))) && valIs (PySem.W.findCls K (.ref (He.ga K c)) (.type "type") "__init__") "Exception.__init__")
theorem valIs_ok {r : Option PySem.W.CFound} {n : String} (h : valIs r n = true) : r = some (.val (.builtin n)) := by
  unfold valIs at h
  split at h
  · rename_i m
    rw [of_decide_eq_true h]
  · cases h
theorem ebB_ok {K : PySem.W.Frag} {c : Str} (h : ebB K c = true) : EbOk K (He.ga K c) := by
  unfold ebB at h
  obtain ⟨h1, h⟩ := bAnd h
  obtain ⟨h2, h3⟩ := bAnd h
  exact ⟨h1, He.eqO_ok h2, valIs_ok h3⟩
def xcB (K : PySem.W.Frag) (c : Str) : Bool := He.eqO (PySem.W.findIn K (.ref (He.ga K c)) "__getattribute__") (some (some (.builtin "BaseException.__getattribute__"))) && (He.eqO (PySem.W.findIn K (.ref (He.ga K c)) "__getattr__") (some none) &&
  (decide (PySem.W.subIn K (.ref (He.ga K c)) (.type "BaseException") = some true) && (PySem.W.hasDictIn K (He.ga K c) && (He.eqO (PySem.W.findIn K (.ref (He.ga K c)) "__class__") (some (some (.builtin "object.__class__"))) &&
  (He.eqO (PySem.W.specialIn K (.builtin "object.__class__") "__get__") (some (some (.builtin "getset_descriptor.__get__"))) && (decide (PySem.W.takesIn K (.builtin "object.__class__") = some true) && decide (PySem.W.mroIn K (He.ga K c) (.type "object") = some true)))))))
theorem xcB_ok {K : PySem.W.Frag} {c : Str} (h : xcB K c = true) : ExcC K (He.ga K c) ∧ XfC K (He.ga K c) := by
  unfold xcB at h
  obtain ⟨h1, h⟩ := bAnd h
  obtain ⟨h2, h⟩ := bAnd h
  obtain ⟨h3, h⟩ := bAnd h
  obtain ⟨h4, h⟩ := bAnd h
  obtain ⟨h5, h⟩ := bAnd h
  obtain ⟨h6, h⟩ := bAnd h
  obtain ⟨h7, h8⟩ := bAnd h
  exact ⟨⟨He.eqO_ok h1, He.eqO_ok h2, of_decide_eq_true h3, h4, He.eqO_ok h5, He.eqO_ok h6, of_decide_eq_true h7, of_decide_eq_true h8⟩, ⟨He.eqO_ok h1, He.eqO_ok h2, of_decide_eq_true h3, h4⟩⟩
def Ff.ok (K : PySem.W.Frag) : Ff → Bool
  | .fa f => f.ok K
  | .own cs => ownB K cs
  | .ec c f => ecB K c && decide (PySem.W.takerIn K (He.ga K c) f = some none)
  | .ec0 c => ecB K c
  | .eb c => ebB K c
  | .xf c f => xcB K c && He.eqO (PySem.W.findIn K (.ref (He.ga K c)) f) (some none)
  | .xc c => xcB K c
  | .kit c d b => decide (PySem.W.kitOne K (.ref (He.ga K c)) (.ref (He.ga K d)) = some b)
  | .exm c d b => decide (PySem.W.exmOne K (.ref (He.ga K c)) (.ref (He.ga K d)) = some b)
section
variable {K : PySem.W.Frag} {h : Heap} {mg : Str → Option Value}
theorem ff_glo (X : K.In h) (G : h.Ns mainGlobals mg) {x : Str} (c : (Ff.fa (.glo x)).ok K = true) : mg x = some (.ref (He.ga K x)) := He.glo_ok X G c
theorem ff_free (X : K.In h) (G : h.Ns mainGlobals mg) {x : Str} (c : (Ff.fa (.free x)).ok K = true) : mg x = none := He.free_ok X G c
theorem ff_own {cs : List Str} (c : (Ff.own cs).ok K = true) : OwnOk K cs := ownB_ok c
theorem ff_ec {x f : Str} (c : (Ff.ec x f).ok K = true) : EcMk K x ∧ PySem.W.takerIn K (He.ga K x) f = some none := ⟨ecB_ok (bAnd c).1, of_decide_eq_true (bAnd c).2⟩
theorem ff_ec0 {x : Str} (c : (Ff.ec0 x).ok K = true) : EcMk K x := ecB_ok c
theorem ff_eb {x : Str} (c : (Ff.eb x).ok K = true) : EbOk K (He.ga K x) := ebB_ok c
theorem ff_xf {x f : Str} (c : (Ff.xf x f).ok K = true) : XfC K (He.ga K x) ∧ PySem.W.findIn K (.ref (He.ga K x)) f = some none := ⟨(xcB_ok (bAnd c).1).2, He.eqO_ok (bAnd c).2⟩
theorem ff_xc {x : Str} (c : (Ff.xc x).ok K = true) : ExcC K (He.ga K x) := (xcB_ok c).1
theorem ff_kit {x y : Str} {b : Bool} (c : (Ff.kit x y b).ok K = true) : PySem.W.kitOne K (.ref (He.ga K x)) (.ref (He.ga K y)) = some b := of_decide_eq_true c
theorem ff_exm {x y : Str} {b : Bool} (c : (Ff.exm x y b).ok K = true) : PySem.W.exmOne K (.ref (He.ga K x)) (.ref (He.ga K y)) = some b := of_decide_eq_true c
theorem ff_cls {x : Str} (c : (Ff.fa (.cls x)).ok K = true) : Cls K (He.ga K x) := He.cls_ok c
theorem ff_meth {x m : Str} (c : (Ff.fa (.meth x m)).ok K = true) : Meth K (He.ga K x) m (He.ma K (He.ga K x) m) := He.meth_ok c
theorem ff_mkr {x : Str} (c : (Ff.fa (.mkr x)).ok K = true) : Mk K (He.ga K x) (He.ma K (He.ga K x) "__init__") := He.mkr_ok c
theorem ff_fld {x f : Str} (c : (Ff.fa (.cls x)).ok K = true) (d : (Ff.fa (.noat x f)).ok K = true) : FldOk K x f := ⟨He.cls_ok c, He.noat_ok d⟩
theorem ff_int (X : K.In h) (G : h.Ns mainGlobals mg) {x : Str} {i : Int} (c : (Ff.fa (.int x i)).ok K = true) : ∃ t, mg x = some (.int i t) := He.int_ok X G c
theorem ff_str (X : K.In h) (G : h.Ns mainGlobals mg) {x z : Str} (c : (Ff.fa (.str x z)).ok K = true) : ∃ t, mg x = some (.str z t) := He.str_ok X G c
theorem glob_int {Y : Cx} {x : Str} {i : Int} (h : ∃ t, Y.mg x = some (.int i t)) : GlobD Y x (.int i) := by
  obtain ⟨t, h⟩ := h
  exact ⟨_, .int i, h, ⟨t, rfl⟩, fun _ _ => rfl⟩
theorem glob_str {Y : Cx} {x z : Str} (h : ∃ t, Y.mg x = some (.str z t)) : GlobD Y x (.str z) := by
  obtain ⟨t, h⟩ := h
  exact ⟨_, .str z, h, ⟨t, rfl⟩, fun _ _ => rfl⟩
end
abbrev AlF : Type := Bool × List He.FnW
def obsF (fa : List Ff) (fn : List He.DefD) (K : PySem.W.Frag) : AlF := ((fa.all fun f => f.ok K) && fn.all fun d => d.ok K, fn.map fun d => He.fnW K d.at_)
def valF (fn : List He.DefD) : AlF := (true, fn.map He.DefD.val)
def SaysF (fa : List Ff) (fn : List He.DefD) (K : PySem.W.Frag) : Prop := obsF fa fn K = valF fn
def obsFG (n : Nat) (fa : List Ff) (fn : List He.DefD) (g : Addr → Option Obj) : AlF := obsF fa fn (He.frG g (PySem.cStatics :: He.asD g n))
def hookF (n : Nat) (fa : List Ff) (fn : List He.DefD) : PySem.W.Hook where
  α := AlF
  obs := fun s => obsFG n fa fn s.heap.get?
  val := fun _ => valF fn
  says := fun _ h => ∃ K : PySem.W.Frag, K.In h ∧ SaysF fa fn K
  of := fun _ _ e => ⟨_, He.frG_in, e⟩
  keeps := fun _ _ _ ⟨K, hK, c⟩ k => ⟨K, PySem.W.Frag.In.keeps hK k, c⟩
theorem obsFG_eq {n : Nat} {fa : List Ff} {fn : List He.DefD} {g : Addr → Option Obj} {s : Shared} (h : ∀ a, g a = s.heap.get? a) : obsFG n fa fn g = (hookF n fa fn).obs s := by
  have e : g = s.heap.get? := funext h
  rw [e] <;> rfl
section
variable {fa : List Ff} {fn : List He.DefD} {K : PySem.W.Frag}
theorem SaysF.fact (c : SaysF fa fn K) (i : Nat) {f : Ff} (h : fa[i]? = some f := by rfl) : f.ok K = true := by
  have c1 := (bAnd (show ((fa.all fun f => f.ok K) && fn.all fun d => d.ok K) = true from congrArg (fun z : AlF => z.1) c)).1
  exact List.all_eq_true.mp c1 f (List.mem_of_getElem? h)
theorem SaysF.def_ (c : SaysF fa fn K) (i : Nat) {d : He.DefD} (h : fn[i]? = some d := by rfl) : ∃ fd, FunD K d.name d.qual d.params d.body d.scope (d.dvs K) (d.kws K) (He.fAd K d.at_) fd := by
  have c2 := (bAnd (show ((fa.all fun f => f.ok K) && fn.all fun d => d.ok K) = true from congrArg (fun z : AlF => z.1) c)).2
  have e : fn.map (fun d => He.fnW K d.at_) = fn.map He.DefD.val := congrArg (fun z : AlF => z.2) c
  have e2 : (fn.map fun d => He.fnW K d.at_)[i]? = (fn.map He.DefD.val)[i]? := by rw [e]
  rw [List.getElem?_map, List.getElem?_map, h] at e2
  exact He.DefD.funD (Option.some.inj e2) (List.all_eq_true.mp c2 d (List.mem_of_getElem? h))
end
theorem law_callG {P : Program} {w : World} {K : PySem.W.Frag} {mg mb : Str → Option Value} {k : Nat} {fa a : Addr} {fd : FuncData} {x : Str} {sp : Sp} {s₁ : Shared} {vs : List Value} {ns : List Int}
    (KX : K.In s₁.heap) (hns : s₁.heap.Ns mainGlobals mg) (hb : s₁.heap.Ns builtinsNs mb) (hbb : ∀ x : Str, x ≠ "__name__" → mb x = bootBuiltins x) (hlim : s₁.heap.NoLimit) (hg : s₁.gens = #[])
    (ha : s₁.heap.get? a = some { cls := .type "list", data := .seq vs.toArray }) (hi : IntsAre vs ns) (hl : ns.length ≤ sizeLine) (hr : Room k callerA)
    (F : ∀ base : Heap, K.In base → base.Ns mainGlobals mg → FnG P w K mg base k fa fd [x] sp) (hbind : ∀ (s : Shared) (u : Value), BindsTo s fd ⟨[u], []⟩ [(x, u)])
    (hsp : ∀ H : Hp, Only H → SqL K H a (ns.map V.int) → sp [.ref a] H (fun v _ => v = .bl true) fun _ _ _ => False) :
    codeAny (model P w) callerA (.call (.ref fa) ⟨[.ref a], []⟩) (fun r s' => r = .ok (.ret (.bool true)) ∧ OldK s₁.heap s'.heap ∧ s'.os = s₁.os ∧ AllBare s'.gens) s₁ := by
  have rv := vals_ints hi
  have lenV := hi.length
  have core : ∀ H : Hp, Only H → SqL K H a (ns.map V.int) → HOk P w H s₁.heap → (∀ b, H b ≠ none → b = a) → (H a ≠ none → K.lookup a = none) →
      codeAny (model P w) callerA (.call (.ref fa) ⟨[.ref a], []⟩) (fun r s' => r = .ok (.ret (.bool true)) ∧ OldK s₁.heap s'.heap ∧ s'.os = s₁.os ∧ AllBare s'.gens) s₁ := by
    intro H hO hS hok hA hK
    have noneAt : ∀ {b : Addr}, (b = a → False) → H b = none := fun {b} hn => by
      cases q : H b with
      | none => rfl
      | some u => exact (hn (hA b (by rw [q]; simp))).elim
    have nsK : ∀ {b : Addr} {m : Str → Option Value}, s₁.heap.Ns b m → (hidT s₁.heap H).Ns b m := fun {b m} ⟨o, es, ep, e, d, r⟩ => ⟨o, es, ep, hidT_get e (noneAt fun z => by
      rw [z, ha] at e
      cases e
      cases (show Data.seq vs.toArray _ = Data.dict es ep from d)), d, r⟩
    have hKb : K.In (hidT s₁.heap H) := fun b o e => hidT_get (KX b o e) (by
      cases q : H b with
      | none => rfl
      | some u =>
        have e' : b = a := hA b (by rw [q]; simp)
        subst e'
        rw [hK (by rw [q]; simp)] at e
        cases e)
    have e0 : Env0 P w K mg (hidT s₁.heap H) callerA [] s₁ H := ⟨rfl, ⟨hKb, nsK hns, ⟨mb, nsK hb, hbb⟩, let ⟨mc, h1, h2⟩ := hlim; ⟨mc, nsK h1, h2⟩⟩, fun b o e => of_hidT e, Nat.le_of_eq (hidT_size _ _), trivial,
      fun b hb => absurd (show b ∈ ([] : List Addr) from hb) (by simp), hok, .of_eq hg⟩
    refine codeAny_mono ((F _ hKb (nsK hns)).run callerA [] s₁ H ⟨[.ref a], []⟩ [.ref a] [.ref a] _ _ hr rfl e0 (hbind s₁ (.ref a)) (.cons rfl .nil) (hsp H hO hS)) fun r s' h => ?_
    cases r with
    | error e =>
      obtain ⟨_, _, _, _, _, _, _, _, _, _, _, _, z⟩ := h
      exact z.elim
    | ok fl =>
      cases fl with
      | next => exact False.elim h
      | brk => exact False.elim h
      | cont => exact False.elim h
      | ret u =>
        obtain ⟨v, H', os, bare, un, hok', r', q⟩ := h
        have q' : v = .bl true := q
        subst q'
        obtain rfl : u = Value.bool true := r'
        refine ⟨rfl, OldK.of_keep fun b o e => ?_, os, bare⟩
        cases q : H b with
        | none => exact un.keep b o e q (by intro z; exact absurd (show b ∈ ([] : List Addr) from z) (by simp)) (by simp)
        | some u =>
          rcases hO b with z | ⟨ob, xs, z⟩
          · rw [q] at z; cases z
          · obtain ⟨e1, _⟩ := hok b _ z
            obtain ⟨e2, _⟩ := hok' b _ (un.frzs b ob _ z)
            rw [e] at e1; cases e1
            exact e2
  cases hk : K.lookup a with
  | some o =>
    have e := KX a o hk
    rw [ha] at e
    cases e
    refine core (fun _ => none) (fun _ => .inl rfl) (.inr ⟨_, vs.toArray, _, hk, rfl, rfl, rfl, by rw [List.size_toArray, lenV]; exact hl, by simpa using rv⟩) (fun b u z => by cases (show (none : Option HO) = some u from z)) (fun b z => absurd rfl z) fun z => absurd rfl z
  | none =>
    refine core (fun b => if b = a then some (.frz { cls := .type "list", data := .seq vs.toArray } (.lst (ns.map V.int))) else none) (fun b => ?_) (.inl (.inr ⟨{ cls := .type "list", data := .seq vs.toArray }, if_pos rfl⟩)) (fun b u z => ?_) (fun b z => ?_) fun _ => hk
    · by_cases hb : b = a
      · exact .inr ⟨_, _, if_pos hb⟩
      · exact .inl (if_neg hb)
    · by_cases hb : b = a
      · have z' := (if_pos hb).symm.trans z
        cases z'
        subst hb
        exact ⟨ha, by rw [List.length_map]; exact hl, vs, _, rv, ha⟩
      · cases (if_neg hb).symm.trans z
    · by_cases hb : b = a
      · exact hb
      · exact absurd (if_neg hb) z
theorem walk_ofG {l : PySem.W.OpenLaw} {n k : Nat} {q : Program} {loose : List Str} {XP : (Str → Option Value) → Heap → Prop} {YP : World → Heap → Prop} {d : DefRec} {x : Str}
    (hn : l.most = some n) (hn2 : n ≤ sizeLine) (hdf : d.params.defaults = []) (hr : Room k callerA)
    (F : ∀ (w : World) (mg : Str → Option Value) (fa : Addr) (h : Heap), YP w h → h.Ns mainGlobals mg → mg d.name = some (.ref fa) →
      ∃ (K : PySem.W.Frag) (fd : FuncData) (sp : Sp), K.In h ∧ (∀ (s : Shared) (u : Value), BindsTo s fd ⟨[u], []⟩ [(x, u)]) ∧
        (∀ (H : Hp) (a : Addr) (ns : List Int), ns.length ≤ n → Only H → SqL K H a (ns.map V.int) → sp [.ref a] H (fun v _ => v = .bl true) fun _ _ _ => False) ∧
        ∀ base : Heap, K.In base → base.Ns mainGlobals mg → FnG l.prog w K mg base k fa fd [x] sp) :
    PySem.W.WalkO q loose XP YP l.row.toRowW d [] (fun f vs => PySem.call f vs) := by
  refine Att.attach_call hn hdf fun w s₀ s₁ mg mb fa o pm cd doc a vs ns G Y ho hd hcd hmg hobj hints hlen hg => ?_
  obtain ⟨K, fd, sp, KX, hb, hsp, hF⟩ := F w mg fa _ Y G.T.g hmg
  exact law_callG KX G.T.g G.T.b G.T.builtins G.T.nolimit hg hobj hints (Nat.le_trans hlen hn2) hr hF hb (fun H hO hS => hsp H a ns hlen hO hS)
/-- the script as data -/
theorem rep_ints {K : PySem.W.Frag} {F : Hp} {r : List Addr} : ∀ ns : List Int, RepL K F r (ns.map D.int) (ns.map V.int)
  | [] => RepL.nil
  | n :: ns => RepL.cons rfl (rep_ints ns)
theorem good_none {K : PySem.W.Frag} {H : Hp} : Good K ⟨H, [], []⟩ H := ⟨fun _ _ e => e, rfl, List.nodup_nil, fun n a m h _ => by simp at h, fun n a m h _ _ => by simp at h⟩
/-- the law's def answers True -/
theorem law_sp {K : PySem.W.Frag} {fn : Fn} {H : Hp} {a : Addr} {ns : List Int} (h : SqL K H a (ns.map V.int)) {S' : List MO} (e : fn [.scr (ns.map D.int)] [] = some (.ok (.bl true), S')) : spF K 1 fn [.ref a] H (fun v _ => v = .bl true) fun _ _ _ => False :=
  ⟨⟨H, [], []⟩, [.scr (ns.map D.int)], .ok (.bl true), S', rfl, good_none, RepL.cons ⟨a, _, rfl, h, rep_ints ns⟩ RepL.nil, e, fun F' r' H' v ev gd rv => rv⟩
end FL

namespace FL
open PySem L2 PyProof.Rows

def negD (_ : List MO) (d : D) : Option D := match d with
  | .int i => some (.int (-i))
  | _ => none
section
variable {X : Cx} {W : Wx} {a b c : Expr} {fa fb fc : Fx D} {pos : Pos}
theorem ce_neg (ha : CE X W a fa) : CE X W (.UnaryOp .USub a pos) (fUn negD fa) :=
  PE.imp (pe_un un_neg ha) fun σ H Q ⟨g, env, cf⟩ => (cf.bind (relB := relD X.K)).imp fun x H1 ⟨d, g1, rx, ev, c1⟩ => by
    obtain ⟨z, e, P⟩ := c1.lift
    unfold negD at e
    split at e
    · cases e; cases rx
      exact ⟨_, rfl, P _ _ _ _ (Evo.refl _ _) c1.good rfl⟩
    · cases e
def rEqL (K : PySem.W.Frag) (neg : Bool) : R2 := fun x y H Q => ∃ a b xs ys, x = .ref a ∧ y = .ref b ∧ SqL K H a xs ∧ SqL K H b ys ∧ xs.length ≠ ys.length ∧ Q (.bl neg) H
theorem op_eqL (hu : X.A.units < cLine) : OpR X (compareOp .Eq) (rEqL X.K false) := fun pins s σ H x y v u Q I rx ry h => by
  obtain ⟨a, b, xs, ys, rfl, rfl, hx, hy, hl, q⟩ := h
  cases rx; cases ry
  obtain ⟨its, r, pl, hz⟩ := I.list hx
  obtain ⟨its2, r2, pl2, hz2⟩ := I.list hy
  refine SeqAt.eq_list_lengthsAt pl.isList pl2.isList ?_ hu ⟨.bl false, H, I, rfl, q⟩
  simp only [List.size_toArray, bne_iff_ne]
  rw [← r.length, ← r2.length]
  exact hl
def lenNe (S : List MO) (x y : D) : Bool := match viewL S x, viewL S y with
  | some xs, some ys => decide (xs.length ≠ ys.length)
  | _, _ => false
def eqA (S : List MO) (x y : D) : Option D := if lenNe S x y = true then some (.bl false) else eqD S x y
theorem lk_eqA {K : PySem.W.Frag} : OpLk K (fun x y H Q => rEqL K false x y H Q ∨ rEqA K x y H Q) eqA := fun g H x y dx dy d Q gd hx hy e f => by
  unfold eqA at e
  split at e
  · rename_i hl
    cases e
    unfold lenNe at hl
    split at hl
    · rename_i xs ys q1 q2
      obtain ⟨a, vs, rfl, h1, h2⟩ := viewL_ok gd hx q1
      obtain ⟨b, ws, rfl, h3, h4⟩ := viewL_ok gd hy q2
      exact .inl ⟨a, b, vs, ws, rfl, rfl, h1, h3, by rw [h2.length, h4.length]; exact of_decide_eq_true hl, f.here gd rfl⟩
    · cases hl
  · exact .inr (lk_eq g H x y dx dy d Q gd hx hy e f)
theorem opx_eqA (hu : X.A.units + 64 < cLine) : OpR X (compareOp .Eq) (fun x y H Q => rEqL X.K false x y H Q ∨ rEqA X.K x y H Q) := OpR.or (op_eqL (by omega)) (opx_eq hu)
def flatD : D → Bool
  | .non => true
  | .bl _ => true
  | .int _ => true
  | .str _ => true
  | _ => false
def eqF : D → D → Bool
  | .non, .non => true
  | .bl a, .bl b => a == b
  | .bl a, .int b => (if a then 1 else 0) == b
  | .int a, .bl b => a == (if b then 1 else 0)
  | .int a, .int b => a == b
  | .str a, .str b => a == b
  | _, _ => false
def inD' (neg : Bool) (S : List MO) (x y : D) : Option D := match viewS S y with
  | some xs => if flatD x = true ∧ xs.all flatD = true then some (.bl (if neg then !(xs.any fun z => eqF z x) else xs.any fun z => eqF z x)) else none
  | none => none
theorem flat_ok {K : PySem.W.Frag} {F : Hp} {r : List Addr} {d : D} {v : V} (h : Rep K F r d v) (e : flatD d = true) : flatV v = true := by
  cases d <;> first | (cases e; done) | (cases h; rfl)
theorem eqF_ok {K : PySem.W.Frag} {F : Hp} {r : List Addr} {d e : D} {v w : V} (h : Rep K F r d v) (h2 : Rep K F r e w) (hd : flatD d = true) (he : flatD e = true) : eqV v w = eqF d e := by
  cases d <;> first | (cases hd; done) | (cases e <;> first | (cases he; done) | (cases h; cases h2; rfl))
theorem anyF_ok {K : PySem.W.Frag} {F : Hp} {r : List Addr} {d : D} {v : V} (h : Rep K F r d v) (hd : flatD d = true) : ∀ {xs : List D} {vs : List V}, RepL K F r xs vs → xs.all flatD = true → vs.all flatV = true ∧ inV v vs = xs.any fun z => eqF z d
  | [], vs, hr, _ => by cases hr; exact ⟨rfl, rfl⟩
  | x :: xs, vs, hr, hf => by
    obtain ⟨w, ws, rfl, h1, h2⟩ := hr
    rw [List.all_cons, Bool.and_eq_true] at hf
    obtain ⟨i1, i2⟩ := anyF_ok h hd h2 hf.2
    refine ⟨by rw [List.all_cons, flat_ok h1 hf.1, i1]; rfl, ?_⟩
    show (eqV w v || inV v ws) = _
    rw [i2, eqF_ok h1 h hf.1 hd, List.any_cons]
theorem lk_in {K : PySem.W.Frag} (neg : Bool) : OpLk K (rIn K neg) (inD' neg) := fun g H x y dx dy d Q gd hx hy e f => by
  unfold inD' at e
  split at e
  · rename_i xs q
    split at e
    · rename_i hf
      cases e
      obtain ⟨a, vs, rfl, h1, h2⟩ := viewS_ok gd hy q
      obtain ⟨i1, i2⟩ := anyF_ok hx hf.1 h2 hf.2
      refine ⟨a, vs, rfl, h1, flat_ok hx hf.1, i1, ?_⟩
      rw [i2]
      exact f.here gd rfl
    · cases e
  · cases e
theorem ce_in (ha : CE X W a fa) (hb : CE X W b fb) (hm : behindInMarks .In b = false := by rfl) : CE X W (.Compare a [.In] [b] pos) (fOp (inD' false) fa fb) := ce_cmp op_in_seq (lk_in false) ha hb hm
theorem ce_notin (ha : CE X W a fa) (hb : CE X W b fb) (hm : behindInMarks .NotIn b = false := by rfl) : CE X W (.Compare a [.NotIn] [b] pos) (fOp (inD' true) fa fb) := ce_cmp op_notIn_seq (lk_in true) ha hb hm
def parS3 (i j l : Nat) (fs : Fx (List D)) : Sx := bindS fs fun ds env S => match ds with
  | [d, e, h] => some (.nx, ((env.set i (some d)).set j (some e)).set l (some h), S)
  | _ => none
theorem repL3 {K : PySem.W.Frag} {F : Hp} {r : List Addr} {d e h : D} {vs : List V} (q : RepL K F r [d, e, h] vs) : ∃ u v w, vs = [u, v, w] ∧ Rep K F r d u ∧ Rep K F r e v ∧ Rep K F r h w := by
  obtain ⟨u, vs1, rfl, h1, q⟩ := q
  obtain ⟨v, vs2, rfl, h2, q⟩ := q
  obtain ⟨w, vs3, rfl, h3, q⟩ := q
  cases q
  exact ⟨u, v, w, rfl, h1, h2, h3⟩
theorem cs_par3 (i j l : Nat) {x y z : Str} {fs : Fx (List D)} {px py pz pt : Pos} {kt k2 pt2} (hc : X.calm = true) (hN : X.N.Nodup) (ha : CA X W [a, b, c] fs)
    (hw : swappedStores [.Tuple [.Name x px, .Name y py, .Name z pz] kt pt] (.Tuple [a, b, c] k2 pt2) X.env = pure (some [x, y, z]) := by rfl) (hi : X.N[i]? = some x := by rfl) (hj : X.N[j]? = some y := by rfl) (hl : X.N[l]? = some z := by rfl) (hij : i ≠ j := by decide) (hil : i ≠ l := by decide) (hjl : j ≠ l := by decide)
    (hx : X.env.scope.names.lookup x = some .local := by rfl) (hy : X.env.scope.names.lookup y = some .local := by rfl) (hz : X.env.scope.names.lookup z = some .local := by rfl)
    (hs : swapsWithSole [.Tuple [.Name x px, .Name y py, .Name z pz] kt pt] (.Tuple [a, b, c] k2 pt2) pos.line X.env = pure false := by rfl) :
    CS X W (.Assign [.Tuple [.Name x px, .Name y py, .Name z pz] kt pt] (.Tuple [a, b, c] k2 pt2) pos) (parS3 i j l fs) :=
  PS.imp (ps_par3 hc hN hi hj hl hij hil hjl hx hy hz ha hw hs) fun Dn σ H ⟨g, env, cf⟩ => (cf.bind (rel := relL X.K)).imp fun vs H1 ⟨ds, g1, rv, ev, gd, er, fl, env', S', q, P⟩ => by
    dsimp only at q
    split at q
    · rename_i d e h
      cases q
      obtain ⟨u, v, w, rfl, h1, h2, h3⟩ := repL3 rv
      exact ⟨u, v, w, rfl, P g1.F g1.r H1 (Evo.refl _ _) gd _ (((er.set i h1).set j h2).set l h3)⟩
    · cases q
def rMulS : R2 := fun x y H Q => ∃ s n, x = .str s ∧ y = .int n ∧ MulOk s n ∧ Q (.str (Txt.mul s n)) H
theorem op_mulS : OpR X (binaryOp .Mult) rMulS := fun pins s σ H x y v u Q I rx ry h => by
  obtain ⟨z, n, rfl, rfl, ok, q⟩ := h
  obtain ⟨t, rfl⟩ := rx
  obtain ⟨t', rfl⟩ := ry
  exact SB.mul ok fun tt k => ⟨.str _, H, I.kept (t' := k) (fun _ _ e => e), ⟨tt, rfl⟩, q⟩
def mulS (_ : List MO) (x y : D) : Option D := match x, y with
  | .str s, .int n => if 0 ≤ n ∧ n ≤ 100000 ∧ s.length * n.toNat ≤ 100000 then some (.str (Txt.mul s n)) else none
  | _, _ => none
theorem lk_mulS {K : PySem.W.Frag} : OpLk K rMulS mulS := fun g H x y dx dy d Q gd hx hy e f => by
  unfold mulS at e
  split at e
  · rename_i s n
    split at e
    · rename_i hz
      cases e; cases hx; cases hy
      refine ⟨s, n, rfl, rfl, ⟨by rw [decide_eq_false (by omega), decide_eq_false (by omega)]; rfl, fun h1 _ h3 => ?_, fun _ _ => ?_⟩, f.here gd rfl⟩
      · have hp : (0 : Int) < n := by omega
        have h4 : (s.length : Int) ≤ (2 ^ 63 - 1) / n := (Int.le_ediv_iff_mul_le hp).mpr (by
          have h5 : ((s.length * n.toNat : Nat) : Int) ≤ 100000 := Int.ofNat_le.mpr hz.2.2
          have h6 : ((s.length * n.toNat : Nat) : Int) = (s.length : Int) * (n.toNat : Int) := rfl
          rw [h6, Int.toNat_of_nonneg hz.1] at h5
          omega)
        omega
      · show decide (s.length * n.toNat > sizeLine) = false
        refine decide_eq_false ?_
        have := hz.2.2
        rw [sizeLine_eq]
        omega
    · cases e
  · cases e
end
section
variable {X : Cx} {k : Nat}
theorem Bd.blk {s : Shared} {H : Hp} {scope : Scope} {cenv : Env} {fp : List Addr} (B : Bd X k) : Bd (X.blk s H scope cenv fp) k := ⟨B.room, B.gu⟩
theorem Bd.tr {pn : List (Addr × Obj)} {xe : Value → Shared → Prop} (B : Bd X k) : Bd (X.tr pn xe) k := ⟨B.room, B.gu⟩
theorem Bd.mono {j : Nat} (B : Bd X k) (h : j ≤ k) : Bd X j := ⟨B.room.mono h, B.gu⟩
theorem Rpr.suite {a : Addr} {pn : List (Addr × Obj)} (B : Rpr X) : Rpr (X.suite a pn) := ⟨B.gu, B.un⟩
theorem Bd.u64 (B : Bd X k) : X.A.units + 64 < cLine := B.room.units
theorem Rpr.u64 (B : Rpr X) : X.A.units + 64 < cLine := by have := B.un; omega
theorem tk0 {x : Gh} : Takes X (W0 x).w := fun _ _ ⟨_, _, _, _, _, _, _, _, _, _, _, _, _, _, _, _, w⟩ => w.elim
theorem bindsKA {K : PySem.W.Frag} {x qual : Str} {params : Arguments} {body : List Stmt} {scope : Scope} {kws : List (Str × V)} {f : Addr} {fd : FuncData} {ps ks : List Str} {m : Nat} {perm : List Nat} (F : FunD K x qual params body scope [] kws f fd)
    (h : ∀ (kV doc pm : Value) (an : Option Addr) (cdv ct : Value) (us ws : List Value), us.length = m → ws.length = ks.length → bindArgs (PySem.W.fnOf x qual params body scope .none kV doc pm an cdv ct) ⟨us, ks.zip ws⟩ = pure (ps.zip (us ++ perm.filterMap (ws[·]?)))) : BindK fd ps ks m perm := fun s us ws h1 h2 => by
  obtain ⟨oc, od, dV, kV, doc, pm, an, cdv, ct, osl, rfl, lk, hcd, hD, hK⟩ := F.ex
  rcases hD with ⟨_, rfl⟩ | ⟨e, _⟩
  · exact .of_eq (h kV doc pm an cdv ct us ws h1 h2)
  · exact absurd rfl e
/-- the body of a class -/
def clsBody : Stmt → List Stmt
  | .ClassDef _ _ _ body _ _ _ _ _ _ _ => body
  | _ => []
end
end FL

namespace FL
open PySem L2 PyProof.Rows

section
variable {X : Cx} {W : Wx}
theorem ce_or2 {e : Expr} {f f1 f2 : Fx D} (h1 : CE X W e f1) (h2 : CE X W e f2) (h : ∀ env S, f env S = f1 env S ∨ f env S = f2 env S) : CE X W e f := ⟨fun pins s σ H Q I ⟨g, env, gd, er, r, S', q, P⟩ => by
  rcases h env g.S with z | z
  · exact h1.run pins s σ H Q I ⟨g, env, gd, er, r, S', z ▸ q, P⟩
  · exact h2.run pins s σ H Q I ⟨g, env, gd, er, r, S', z ▸ q, P⟩⟩
theorem cs_or2 {st : Stmt} {f f1 f2 : Sx} (h1 : CS X W st f1) (h2 : CS X W st f2) (h : ∀ env S, f env S = f1 env S ∨ f env S = f2 env S) : CS X W st f := ⟨fun pins s σ H D I ⟨g, env, gd, er, fl, env', S', q, P⟩ => by
  rcases h env g.S with z | z
  · exact h1.run pins s σ H D I ⟨g, env, gd, er, fl, env', S', z ▸ q, P⟩
  · exact h2.run pins s σ H D I ⟨g, env, gd, er, fl, env', S', z ▸ q, P⟩⟩
theorem cg_or2 {tg : Expr} {f f1 f2 : Gx} (h1 : CG X tg f1) (h2 : CG X tg f2) (h : ∀ d env S, f d env S = f1 d env S ∨ f d env S = f2 d env S) : CG X tg f := ⟨fun pins s σ H v u Q I r ⟨w, g, env, d, env', S', gd, er, rv, q, P⟩ => by
  rcases h d env g.S with z | z
  · exact h1.run pins s σ H v u Q I r ⟨w, g, env, d, env', S', gd, er, rv, z ▸ q, P⟩
  · exact h2.run pins s σ H v u Q I r ⟨w, g, env, d, env', S', gd, er, rv, z ▸ q, P⟩⟩
theorem cgv_or2 {vs : List Nat} {tg : Expr} {f f1 f2 : Gx} (h1 : CGv X vs tg f1) (h2 : CGv X vs tg f2) (h : ∀ d env S, f d env S = f1 d env S ∨ f d env S = f2 d env S) : CGv X vs tg f := ⟨fun pins s σ H v u Q I r ⟨w, g, env, d, env', S', gd, er, rv, q, P⟩ => by
  rcases h d env g.S with z | z
  · exact h1.run pins s σ H v u Q I r ⟨w, g, env, d, env', S', gd, er, rv, z ▸ q, P⟩
  · exact h2.run pins s σ H v u Q I r ⟨w, g, env, d, env', S', gd, er, rv, z ▸ q, P⟩⟩
end
/-- what an iterable's value is -/
def isT : D → Bool
  | .tup _ => true
  | _ => false
def isO : D → Bool
  | .obj _ => true
  | _ => false
def isS : D → Bool
  | .str _ => true
  | _ => false
def valOf (f : Fx D) (env : Dv) (S : List MO) : Option D := match f env S with
  | some (.ok d, _) => some d
  | _ => none
/-- (a, b, ..) = a tuple or a list -/
def gSeqG (n : Nat) (h : GxL) : Gx := fun d => if isT d = true then gTupG n h d else gLstG n h d
section
variable {X : Cx}
theorem cg_seq {es : List Expr} {k : Nat} {h : GxL} {pos : Pos} {n : Nat} (hc : X.calm = true) (hg : CGs X es h) (hn : (assignEach es X.env).length = n := by rfl) (hst : (assignEach es X.env).findIdx? (·.1) = none := by rfl) : CG X (.Tuple es k pos) (gSeqG n h) :=
  cg_or2 (cg_tup hc hg hn hst) (cg_lst hc hg hn hst) fun d env S => by
    unfold gSeqG
    by_cases q : isT d = true
    · rw [if_pos q]; exact .inl rfl
    · rw [if_neg q]; exact .inr rfl
theorem cgv_seq {vs : List Nat} {es : List Expr} {k : Nat} {h : GxL} {pos : Pos} {n : Nat} (hc : X.calm = true) (hg : CGvs X vs es h) (hn : (assignEach es X.env).length = n := by rfl) (hst : (assignEach es X.env).findIdx? (·.1) = none := by rfl) : CGv X vs (.Tuple es k pos) (gSeqG n h) :=
  cgv_or2 (cgv_tup hc hg hn hst) (cgv_lst hc hg hn hst) fun d env S => by
    unfold gSeqG
    by_cases q : isT d = true
    · rw [if_pos q]; exact .inl rfl
    · rw [if_neg q]; exact .inr rfl
end
/-- for over a tuple, a text, a list that is plain, a list as it stands -/
def forA (f : Fx D) (gx : Gx) (body : Sx) : Sx := bindS f fun d => match d with
  | .tup xs => loopS gx body xs
  | .str z => loopS gx body (signsD z)
  | .lst xs => loopS gx body xs
  | .scr xs => loopS gx body xs
  | d => fun env S => match viewL S d with
    | some xs => liveS d gx body (xs.length + 1) 0 env S
    | none => none
def lcA (src : Fx D) (vs : List Nat) (gx : Gx) (tt : Fx Bool) (te : Fx D) : Fx D := bindF src fun d env S =>
  let go (xs : List D) : Option (R D × List MO) := if xs.length ≤ 50000 then match lcRun gx tt te (wipeD env vs) xs S with
    | some (ys, S') => some (.ok (.lst ys), S')
    | none => none else none
  match d with
  | .tup xs => go xs
  | .str z => go (signsD z)
  | .lst xs => go xs
  | .scr xs => go xs
  | d => match viewL S d with
    | some xs => if xs.length ≤ 50000 then match liveC d gx tt te (wipeD env vs) (xs.length + 1) 0 S with
      | some (ys, S') => some (.ok (.lst ys), S')
      | none => none else none
    | none => none
theorem forA_of (f : Fx D) (gx : Gx) (body : Sx) (env : Dv) (S : List MO) : forA f gx body env S = forS (fItT f) gx body env S ∨ forA f gx body env S = forS (fItL f) gx body env S ∨ forA f gx body env S = forS (fItS f) gx body env S ∨ forA f gx body env S = forL f gx body env S := by
  unfold forA forS forL fItT fItL fItS bindS bindF liftF
  cases q : f env S with
  | none => left; simp only
  | some z =>
    obtain ⟨z, S1⟩ := z
    cases z with
    | ex c p => left; simp only
    | ok d =>
      cases d <;> first
        | (left; rfl)
        | (right; left; rfl)
        | (right; right; left; rfl)
        | (right; right; right; rfl)
theorem lcA_of (f : Fx D) (vs : List Nat) (gx : Gx) (tt : Fx Bool) (te : Fx D) (env : Dv) (S : List MO) : lcA f vs gx tt te env S = fLc (fItT f) vs gx tt te env S ∨ lcA f vs gx tt te env S = fLc (fItL f) vs gx tt te env S ∨ lcA f vs gx tt te env S = fLc (fItS f) vs gx tt te env S ∨ lcA f vs gx tt te env S = fLcL f vs gx tt te env S := by
  unfold lcA fLc fLcL fItT fItL fItS bindF liftF
  cases q : f env S with
  | none => left; simp only
  | some z =>
    obtain ⟨z, S1⟩ := z
    cases z with
    | ex c p => left; simp only
    | ok d =>
      cases d <;> first
        | (left; rfl)
        | (right; left; rfl)
        | (right; right; left; rfl)
        | (right; right; right; rfl)
section
variable {X : Cx} {W : Wx} {tg it elt iter : Expr} {ifs : List Expr} {scope : Scope} {pos spos : Pos} {body : List Stmt} {gx : Gx} {fb : Sx} {f : Fx D} {tt : Fx Bool} {te : Fx D}
theorem cs_forA (hp : PassesOwn (model X.prog X.w) X.A X.env X.xe) (hc : X.calm = true) (hi : CE X W it f) (hg : CG X tg gx) (hb : CSs X W body fb) (hs : ∀ x, foldedSetIterable it X.env x = pure x := by intro _; rfl) : CS X W (.For tg it body [] pos) (forA f gx fb) :=
  ⟨fun pins s σ H D I ⟨g, env, gd, er, fl, env', S', q, P⟩ => by
    rcases forA_of f gx fb env g.S with z | z | z | z
    · exact (cs_for hp hc (ci_tup hi) hg hb hs).run pins s σ H D I ⟨g, env, gd, er, fl, env', S', z ▸ q, P⟩
    · exact (cs_for hp hc (ci_lst hi) hg hb hs).run pins s σ H D I ⟨g, env, gd, er, fl, env', S', z ▸ q, P⟩
    · exact (cs_for hp hc (ci_str hi) hg hb hs).run pins s σ H D I ⟨g, env, gd, er, fl, env', S', z ▸ q, P⟩
    · exact (cs_forL hp hc hi hg hb hs).run pins s σ H D I ⟨g, env, gd, er, fl, env', S', z ▸ q, P⟩⟩
theorem ce_lcA (own : List (Str × Nat)) (hc : X.calm = true) (hN : X.N.Nodup) (ok : BlkOk X.N X.env.scope scope own) (hi : CE X W iter f)
    (hg : ∀ (s : Shared) (H : Hp) (C : Addr) (cl : List (Str × Addr)) (fp : List Addr), CGv (X.blk s H scope (compEnvC scope cl C X.env) fp) (own.map (·.2)) tg gx) (ht : ∀ (s : Shared) (H : Hp) (C : Addr) (cl : List (Str × Addr)) (fp : List Addr), CTs (X.blk s H scope (compEnvC scope cl C X.env) fp) (W0 W.x) ifs tt)
    (he : ∀ (s : Shared) (H : Hp) (C : Addr) (cl : List (Str × Addr)) (fp : List Addr), CE (X.blk s H scope (compEnvC scope cl C X.env) fp) (W0 W.x) elt te) (hs : ∀ x, foldedSetIterable iter X.env x = pure x := by intro _; rfl) :
    CE X W (.ListComp elt [⟨tg, iter, ifs, 0⟩] scope pos) (lcA f (own.map (·.2)) gx tt te) :=
  ⟨fun pins s σ H Q I ⟨g, env, gd, er, r, S', q, P⟩ => by
    rcases lcA_of f (own.map (·.2)) gx tt te env g.S with z | z | z | z
    · exact (ce_lc own hc hN ok (ci_tup hi) hg ht he hs).run pins s σ H Q I ⟨g, env, gd, er, r, S', z ▸ q, P⟩
    · exact (ce_lc own hc hN ok (ci_lst hi) hg ht he hs).run pins s σ H Q I ⟨g, env, gd, er, r, S', z ▸ q, P⟩
    · exact (ce_lc own hc hN ok (ci_str hi) hg ht he hs).run pins s σ H Q I ⟨g, env, gd, er, r, S', z ▸ q, P⟩
    · exact (ce_lcL own hc hN ok hi hg ht he hs).run pins s σ H Q I ⟨g, env, gd, er, r, S', z ▸ q, P⟩⟩
end
def OkF (P : Program) (w : World) (K : PySem.W.Frag) (mg : Str → Option Value) (base : Heap) (k : Nat) (f : Addr) (ps : List Str) (sp : Sp) : Prop := ∃ fd, FnG P w K mg base k f fd ps sp ∧ BindP fd ps ∧ PySem.W.keepIn K (.ref f) = true
def OkK (P : Program) (w : World) (K : PySem.W.Frag) (mg : Str → Option Value) (base : Heap) (k : Nat) (f : Addr) (ps ks : List Str) (m : Nat) (perm : List Nat) (sp : Sp) : Prop := ∃ fd, FnG P w K mg base k f fd ps sp ∧ BindK fd ps ks m perm ∧ PySem.W.keepIn K (.ref f) = true
section
variable {P : Program} {w : World} {K : PySem.W.Frag} {mg : Str → Option Value} {base : Heap} {x qual : Str} {params : Arguments} {body : List Stmt} {scope : Scope} {f : Addr} {N ps ks : List Str} {k n pad m : Nat} {perm : List Nat} {fb : Sx} {sp : Sp}
abbrev BindN (x qual : Str) (params : Arguments) (body : List Stmt) (scope : Scope) (ps : List Str) : Prop := ∀ (kV doc pm : Value) (an : Option Addr) (cdv ct : Value) (us : List Value), us.length = ps.length → bindArgs (PySem.W.fnOf x qual params body scope .none kV doc pm an cdv ct) ⟨us, []⟩ = pure (ps.zip us)
abbrev BindNK (x qual : Str) (params : Arguments) (body : List Stmt) (scope : Scope) (ps ks : List Str) (m : Nat) (perm : List Nat) : Prop := ∀ (kV doc pm : Value) (an : Option Addr) (cdv ct : Value) (us ws : List Value), us.length = m → ws.length = ks.length → bindArgs (PySem.W.fnOf x qual params body scope .none kV doc pm an cdv ct) ⟨us, ks.zip ws⟩ = pure (ps.zip (us ++ perm.filterMap (ws[·]?)))
theorem okF_of (h : ∃ fd, FunD K x qual params body scope [] [] f fd) (F : ∀ fd, FunD K x qual params body scope [] [] f fd → FnG P w K mg base k f fd ps sp) (b : BindN x qual params body scope ps) : OkF P w K mg base k f ps sp := by
  obtain ⟨fd, hd⟩ := h
  exact ⟨fd, F fd hd, fun s us hl => hd.bindsA b s us hl, hd.kp⟩
theorem okK_of (h : ∃ fd, FunD K x qual params body scope [] [] f fd) (F : ∀ fd, FunD K x qual params body scope [] [] f fd → FnG P w K mg base k f fd ps sp) (b : BindNK x qual params body scope ps ks m perm) : OkK P w K mg base k f ps ks m perm sp := by
  obtain ⟨fd, hd⟩ := h
  exact ⟨fd, F fd hd, bindsKA hd b, hd.kp⟩
end
section
variable {X : Cx} {W : Wx} {k n : Nat} {f : Addr} {ps ks : List Str} {fn : Fn} {x m c : Str} {p pos apos : Pos} {e o : Expr} {es : List Expr} {kws : List Keyword} {fs : Fx (List D)} {fo : Fx D}
theorem cx_call (F : OkF X.prog X.w X.K X.mg X.base k f ps (spF X.K n fn)) (B : Bd X k) (tk : Takes X W.w) (hm : X.mg x = some (.ref f)) (ha : CA X W (e :: es) fs)
    (hg : Gl X x := by rfl) (hdb : (x == ("__debug__" : Str)) = false := by decide) (he : starEach (e :: es) X.env = (false, eval e X.env) :: starEach es X.env := by rfl) (hpl : (backTo pos (starEach es X.env)).any (·.1) = false := by rfl) :
    CE X W (.Call (.Name x p) (e :: es) [] pos) (fCall n fn fs) := by
  obtain ⟨fd, F, hb, hk⟩ := F
  exact ce_call F B tk hm hk hb ha hg hdb he hpl
theorem cx_call0 (F : OkF X.prog X.w X.K X.mg X.base k f ps (spF X.K n fn)) (B : Bd X k) (tk : Takes X W.w) (hm : X.mg x = some (.ref f)) (hg : Gl X x := by rfl) (hdb : (x == ("__debug__" : Str)) = false := by decide) : CE X W (.Call (.Name x p) [] [] pos) (fCall n fn (pureF [])) := by
  obtain ⟨fd, F, hb, hk⟩ := F
  exact ce_call0 F B tk hm hk hb hg hdb
theorem cx_meth {pl : Sem Bool} (cl : Cls X.K (He.ga X.K c)) (hm : Meth X.K (He.ga X.K c) m f) (F : OkF X.prog X.w X.K X.mg X.base k f ps (spF X.K n fn)) (B : Bd X k) (tk : Takes X W.w) (he : CE X W o fo) (ha : CA X W (e :: es) fs)
    (hst : starEach (e :: es) X.env = (false, eval e X.env) :: starEach es X.env := by rfl) (hpl : (backTo pos (starEach es X.env)).any (·.1) = false := by rfl)
    (ht : eval (.Call (.Attribute o m apos) (e :: es) [] pos) X.env = (do
      let ov ← eval o X.env
      standAt apos.atName
      let (f, first) ← holding [ov] (getMethod ov m pl)
      callWith pos f first (backTo pos (starEach (e :: es) X.env)) (backToKw pos (keywordEach [] X.env))) := by rfl) :
    CE X W (.Call (.Attribute o m apos) (e :: es) [] pos) (fMeth n c m fn fo fs) := by
  obtain ⟨fd, F, hb, hk⟩ := F
  exact ce_meth cl hm F B tk hb he ha hst hpl ht
theorem cx_meth0 {pl : Sem Bool} (cl : Cls X.K (He.ga X.K c)) (hm : Meth X.K (He.ga X.K c) m f) (F : OkF X.prog X.w X.K X.mg X.base k f ps (spF X.K n fn)) (B : Bd X k) (tk : Takes X W.w) (he : CE X W o fo)
    (ht : eval (.Call (.Attribute o m apos) [] [] pos) X.env = (do
      let ov ← eval o X.env
      standAt apos.atName
      let (f, first) ← holding [ov] (getMethod ov m pl)
      callWith pos f first (backTo pos (starEach [] X.env)) (backToKw pos (keywordEach [] X.env))) := by rfl) :
    CE X W (.Call (.Attribute o m apos) [] [] pos) (fMeth n c m fn fo (pureF [])) := by
  obtain ⟨fd, F, hb, hk⟩ := F
  exact ce_meth0 cl hm F B tk hb he ht
def fKw (ks : List Str) (perm : List Nat) (fs : Fx (List D)) : Fx (List D) := bindF fs fun ds => liftF fun _ => if ds.length = ks.length then some (permL perm ds) else none
theorem cx_methK {pl : Sem Bool} {perm : List Nat} (cl : Cls X.K (He.ga X.K c)) (hm : Meth X.K (He.ga X.K c) m f) (F : OkK X.prog X.w X.K X.mg X.base k f ps ks 1 perm (spF X.K n fn)) (B : Bd X k) (tk : Takes X W.w) (he : CE X W o fo) (hkw : CK X W kws fs)
    (hall : (backToKw pos (keywordEach kws X.env)).all (·.1.isSome) = true := by rfl) (hks : (backToKw pos (keywordEach kws X.env)).filterMap (·.1) = ks := by rfl)
    (hpl : ((backTo pos (starEach [] X.env)).any (·.1) || (backToKw pos (keywordEach kws X.env)).any (·.1.isNone)) = false := by rfl)
    (ht : eval (.Call (.Attribute o m apos) [] kws pos) X.env = (do
      let ov ← eval o X.env
      standAt apos.atName
      let (f, first) ← holding [ov] (getMethod ov m pl)
      callWith pos f first (backTo pos (starEach [] X.env)) (backToKw pos (keywordEach kws X.env))) := by rfl) :
    CE X W (.Call (.Attribute o m apos) [] kws pos) (fMeth n c m fn fo (fKw ks perm fs)) := by
  obtain ⟨fd, F, hb, hk⟩ := F
  exact ce_methK perm cl hm F B tk hb he hkw hall hks hpl ht
theorem cx_make {mk : Str → Fn → List D → List MO → Option (R D × List MO)} (lk : MkLk mk) (M : Mk X.K (He.ga X.K c) f) (F : OkF X.prog X.w X.K X.mg X.base k f ps (spF X.K n fn)) (B : Bd X (k + 1)) (tk : Takes X W.w) (hm : X.mg c = some (.ref (He.ga X.K c))) (hn : ps.length = n) (ha : CA X W (e :: es) fs)
    (hg : Gl X c := by rfl) (hdb : (c == ("__debug__" : Str)) = false := by decide) (he : starEach (e :: es) X.env = (false, eval e X.env) :: starEach es X.env := by rfl) (hpl : (backTo pos (starEach es X.env)).any (·.1) = false := by rfl) :
    CE X W (.Call (.Name c p) (e :: es) [] pos) (fMake mk n c fn fs) := by
  obtain ⟨fd, F, hb, hk⟩ := F
  exact ce_make lk M F B tk hm hb hn ha hg hdb he hpl
theorem cx_raise {f' : Str} {rpos : Pos} {fe : Fx D} (hc : X.calm = true) (tk : Takes X W.w) (T : EcMk X.K c ∧ PySem.W.takerIn X.K (He.ga X.K c) f' = some none) (F : OkF X.prog X.w X.K X.mg X.base k (He.ma X.K (He.ga X.K c) "__init__") ps (spI X.K f')) (B : Bd X (k + 1)) (hm : X.mg c = some (.ref (He.ga X.K c))) (he : CE X W e fe) (hg : Gl X c := by rfl)
    (hdb : (c == ("__debug__" : Str)) = false := by decide) (hst : starEach [e] X.env = (false, eval e X.env) :: starEach [] X.env := by rfl) (hpl : (backTo pos (starEach [] X.env)).any (·.1) = false := by rfl) :
    CS X W (.Raise (some (.Call (.Name c p) [e] [] pos)) none rpos) (raiseS c f' fe) := by
  obtain ⟨fd, F, hb, hk⟩ := F
  exact cs_raise hc tk T.1.ok T.2 T.1.ini T.1.ty F B hb hm he hg hdb hst hpl
theorem cx_raise0 {rpos : Pos} (hc : X.calm = true) (tk : Takes X W.w) (T : EcMk X.K c) (F : OkF X.prog X.w X.K X.mg X.base k (He.ma X.K (He.ga X.K c) "__init__") ps (spI0 X.K)) (B : Bd X (k + 1)) (hm : X.mg c = some (.ref (He.ga X.K c))) (hg : Gl X c := by rfl)
    (hdb : (c == ("__debug__" : Str)) = false := by decide) : CS X W (.Raise (some (.Call (.Name c p) [] [] pos)) none rpos) (raiseS0 c) := by
  obtain ⟨fd, F, hb, hk⟩ := F
  exact cs_raise0 hc tk T.ok T.ini T.ty F B hb hm hg hdb
end
end FL

namespace FL
open PySem L2 PyProof.Rows
theorem aNil {α : Type} {P : α → Prop} : ∀ x ∈ ([] : List α), P x := fun _ h => by cases h
theorem aCons {α : Type} {P : α → Prop} {a : α} {l : List α} (h : P a) (t : ∀ x ∈ l, P x) : ∀ x ∈ a :: l, P x := fun x hx => by
  rcases List.mem_cons.mp hx with e | e
  · rw [e]; exact h
  · exact t x e
def nkB (a b : Option NameKind) : Bool := decide (a = b)
def blkB (N : List Str) (sc scope : Scope) (own : List (Str × Nat)) : Bool :=
  decide (scope.kind = .function) && (scope.names.all (fun y => nkB (scope.names.lookup y.1) (some y.2)) && (own.all (fun p => decide (N[p.2]? = some p.1)) &&
  (scope.names.all (fun y => !(decide (y.2 = .free)) || (nkB (sc.names.lookup y.1) (some .cell) || nkB (sc.names.lookup y.1) (some .free))) && scope.names.all (fun y => !(decide (y.2 = .local) || decide (y.2 = .cell)) || (decide (y.1 ∈ own.map (·.1)) || decide (y.1 ∉ N))))))
theorem blk_of {N : List Str} {sc scope : Scope} {own : List (Str × Nat)} (h : blkB N sc scope own = true) : BlkOk N sc scope own := by
  unfold blkB at h
  obtain ⟨h1, h⟩ := bAnd h
  obtain ⟨h2, h⟩ := bAnd h
  obtain ⟨h3, h⟩ := bAnd h
  obtain ⟨h4, h5⟩ := bAnd h
  refine ⟨of_decide_eq_true h1, fun y hy => of_decide_eq_true (List.all_eq_true.mp h2 y hy), fun p hp => of_decide_eq_true (List.all_eq_true.mp h3 p hp), fun y hy e => ?_, fun y hy e => ?_⟩
  · have z := List.all_eq_true.mp h4 y hy
    rw [decide_eq_true e] at z
    rcases (Bool.or_eq_true _ _).mp (by simpa using z) with q | q
    · exact .inl (of_decide_eq_true q)
    · exact .inr (of_decide_eq_true q)
  · have z := List.all_eq_true.mp h5 y hy
    have e2 : (decide (y.2 = .local) || decide (y.2 = .cell)) = true := by
      rcases e with e | e
      · rw [decide_eq_true e]; rfl
      · rw [decide_eq_true e, Bool.or_true]
    rw [e2] at z
    rcases (Bool.or_eq_true _ _).mp (show (decide (y.1 ∈ own.map (·.1)) || decide (y.1 ∉ N)) = true from z) with q | q
    · exact .inl (of_decide_eq_true q)
    · exact .inr (of_decide_eq_true q)
theorem bbi_len : bootBuiltins "len" = some (.builtin "len") := by decide +kernel
theorem bbi_all : bootBuiltins "all" = some (.builtin "all") := by decide +kernel
theorem bbi_any : bootBuiltins "any" = some (.builtin "any") := by decide +kernel
theorem bbi_sum : bootBuiltins "sum" = some (.builtin "sum") := by decide +kernel
theorem bbi_abs : bootBuiltins "abs" = some (.builtin "abs") := by decide +kernel
theorem bbi_max : bootBuiltins "max" = some (.builtin "max") := by decide +kernel
theorem bbi_min : bootBuiltins "min" = some (.builtin "min") := by decide +kernel
theorem bbi_repr : bootBuiltins "repr" = some (.builtin "repr") := by decide +kernel
theorem bty_int : bootBuiltins "int" = some (.type "int") := by decide +kernel
theorem bty_bool : bootBuiltins "bool" = some (.type "bool") := by decide +kernel
theorem bty_str : bootBuiltins "str" = some (.type "str") := by decide +kernel
theorem bty_list : bootBuiltins "list" = some (.type "list") := by decide +kernel
theorem bty_tuple : bootBuiltins "tuple" = some (.type "tuple") := by decide +kernel
theorem bty_dict : bootBuiltins "dict" = some (.type "dict") := by decide +kernel
section
variable {X : Cx} {W : Wx} {tg elt iter : Expr} {ifs : List Expr} {scope : Scope} {pos spos : Pos} {gx : Gx} {f : Fx D} {tt : Fx Bool} {te : Fx D}
theorem cs_setLcL (i : Nat) (own : List (Str × Nat)) {y : Str} {py : Pos} (hc : X.calm = true) (hN : X.N.Nodup) (ok : BlkOk X.N X.env.scope scope own) (hi : CE X W iter f)
    (hg : ∀ (s : Shared) (H : Hp) (C : Addr) (cl : List (Str × Addr)) (fp : List Addr), CGv (X.blk s H scope (compEnvC scope cl C X.env) fp) (own.map (·.2)) tg gx) (ht : ∀ (s : Shared) (H : Hp) (C : Addr) (cl : List (Str × Addr)) (fp : List Addr), CTs (X.blk s H scope (compEnvC scope cl C X.env) fp) (W0 W.x) ifs tt)
    (he : ∀ (s : Shared) (H : Hp) (C : Addr) (cl : List (Str × Addr)) (fp : List Addr), CE (X.blk s H scope (compEnvC scope cl C X.env) fp) (W0 W.x) elt te)
    (hsw : swapsWith (.ListComp elt [⟨tg, iter, ifs, 0⟩] scope pos) (some (.Name y py)) spos.line X.env = pure true) (hy : X.N[i]? = some y := by rfl) (hyl : X.env.scope.names.lookup y = some .local := by rfl) (hs : ∀ x, foldedSetIterable iter X.env x = pure x := by intro _; rfl) :
    CS X W (.Assign [.Name y py] (.ListComp elt [⟨tg, iter, ifs, 0⟩] scope pos) spos) (asgS (fLcL f (own.map (·.2)) gx tt te) (gSet i)) :=
  PS.imp (ps_setLc hc hN hy hyl hsw (pi_list hi) ok hg ht he hs) fun D σ H h => by
    obtain ⟨g, env, c⟩ := h
    refine ox_lcL ((c.bind (rel := relD X.K)).imp fun v H1 ⟨d, g1, rv, ev, gd, er, fl, env', S', q, p⟩ => ?_)
    cases q
    exact p g1.F g1.r H1 (Evo.refl _ _) gd _ (er.set i rv)
theorem asg_of {f f1 : Fx D} {gx : Gx} {env : Dv} {S : List MO} (h : f env S = f1 env S) : asgS f gx env S = asgS f1 gx env S := by
  unfold asgS bindS
  rw [h]
theorem cs_setLcA (i : Nat) (own : List (Str × Nat)) {y : Str} {py : Pos} (hc : X.calm = true) (hN : X.N.Nodup) (ok : BlkOk X.N X.env.scope scope own) (hi : CE X W iter f)
    (hg : ∀ (s : Shared) (H : Hp) (C : Addr) (cl : List (Str × Addr)) (fp : List Addr), CGv (X.blk s H scope (compEnvC scope cl C X.env) fp) (own.map (·.2)) tg gx) (ht : ∀ (s : Shared) (H : Hp) (C : Addr) (cl : List (Str × Addr)) (fp : List Addr), CTs (X.blk s H scope (compEnvC scope cl C X.env) fp) (W0 W.x) ifs tt)
    (he : ∀ (s : Shared) (H : Hp) (C : Addr) (cl : List (Str × Addr)) (fp : List Addr), CE (X.blk s H scope (compEnvC scope cl C X.env) fp) (W0 W.x) elt te)
    (hsw : swapsWith (.ListComp elt [⟨tg, iter, ifs, 0⟩] scope pos) (some (.Name y py)) spos.line X.env = pure true) (hy : X.N[i]? = some y := by rfl) (hyl : X.env.scope.names.lookup y = some .local := by rfl) (hs : ∀ x, foldedSetIterable iter X.env x = pure x := by intro _; rfl) :
    CS X W (.Assign [.Name y py] (.ListComp elt [⟨tg, iter, ifs, 0⟩] scope pos) spos) (asgS (lcA f (own.map (·.2)) gx tt te) (gSet i)) :=
  ⟨fun pins s σ H D I ⟨g, env, gd, er, fl, env', S', q, P⟩ => by
    rcases lcA_of f (own.map (·.2)) gx tt te env g.S with z | z | z | z
    · exact (cs_setLc i own hc hN ok (ci_tup hi) hg ht he hsw hy hyl hs).run pins s σ H D I ⟨g, env, gd, er, fl, env', S', asg_of z ▸ q, P⟩
    · exact (cs_setLc i own hc hN ok (ci_lst hi) hg ht he hsw hy hyl hs).run pins s σ H D I ⟨g, env, gd, er, fl, env', S', asg_of z ▸ q, P⟩
    · exact (cs_setLc i own hc hN ok (ci_str hi) hg ht he hsw hy hyl hs).run pins s σ H D I ⟨g, env, gd, er, fl, env', S', asg_of z ▸ q, P⟩
    · exact (cs_setLcL i own hc hN ok hi hg ht he hsw hy hyl hs).run pins s σ H D I ⟨g, env, gd, er, fl, env', S', asg_of z ▸ q, P⟩⟩
end
end FL

set_option maxHeartbeats 0
namespace LW
open PySem L2 FL PyProof.Rows
def top (i : Nat) : Stmt := PySem.Challenge.pw_anyearlier_k65_cuts_leave_any_loose_writ.main.body.getD i (.Pass ⟨0, 0, 0, 0⟩)
abbrev st__law_box : Stmt := (top 27)
theorem sc__law_box : FnScope ["great"] ["great"] (defScope st__law_box) := ⟨rfl, rfl, rfl, by decide +kernel, rfl, by decide +kernel, by decide +kernel⟩
def d__law_box : He.DefD := ⟨("_law_box", none), "_law_box", "_law_box", defArgs st__law_box, defBody st__law_box, defScope st__law_box, [], []⟩
abbrev st__law_cell : Stmt := (top 26)
theorem sc__law_cell : FnScope ["script", "k"] ["script", "k"] (defScope st__law_cell) := ⟨rfl, rfl, rfl, by decide +kernel, rfl, by decide +kernel, by decide +kernel⟩
def d__law_cell : He.DefD := ⟨("_law_cell", none), "_law_cell", "_law_cell", defArgs st__law_cell, defBody st__law_cell, defScope st__law_cell, [], []⟩
abbrev st__law_behind : Stmt := (top 31)
theorem sc__law_behind : FnScope ["texts", "writes", "found", "page", "text"] ["texts", "writes"] (defScope st__law_behind) := ⟨rfl, rfl, rfl, by decide +kernel, rfl, by decide +kernel, by decide +kernel⟩
def d__law_behind : He.DefD := ⟨("_law_behind", none), "_law_behind", "_law_behind", defArgs st__law_behind, defBody st__law_behind, defScope st__law_behind, [], []⟩
abbrev st_PowerCut : Stmt := ((clsBody (top 8)).getD 0 (.Pass ⟨0, 0, 0, 0⟩))
theorem sc_PowerCut : FnScope ["self"] ["self"] (defScope st_PowerCut) := ⟨rfl, rfl, rfl, by decide +kernel, rfl, by decide +kernel, by decide +kernel⟩
def d_PowerCut : He.DefD := ⟨("PowerCut", some "__init__"), "__init__", "PowerCut.__init__", defArgs st_PowerCut, defBody st_PowerCut, defScope st_PowerCut, [], []⟩
abbrev st_Disk_spend : Stmt := ((clsBody (top 24)).getD 2 (.Pass ⟨0, 0, 0, 0⟩))
theorem sc_Disk_spend : FnScope ["self"] ["self"] (defScope st_Disk_spend) := ⟨rfl, rfl, rfl, by decide +kernel, rfl, by decide +kernel, by decide +kernel⟩
def d_Disk_spend : He.DefD := ⟨("Disk", some "spend"), "spend", "Disk.spend", defArgs st_Disk_spend, defBody st_Disk_spend, defScope st_Disk_spend, [], []⟩
abbrev st_Disk_settle : Stmt := ((clsBody (top 24)).getD 5 (.Pass ⟨0, 0, 0, 0⟩))
theorem sc_Disk_settle : FnScope ["self"] ["self"] (defScope st_Disk_settle) := ⟨rfl, rfl, rfl, by decide +kernel, rfl, by decide +kernel, by decide +kernel⟩
def d_Disk_settle : He.DefD := ⟨("Disk", some "settle"), "settle", "Disk.settle", defArgs st_Disk_settle, defBody st_Disk_settle, defScope st_Disk_settle, [], []⟩
abbrev st__law_settled : Stmt := (top 35)
theorem sc__law_settled : FnScope ["disk", "state", "let", "e"] ["disk", "state"] (defScope st__law_settled) := ⟨rfl, rfl, rfl, by decide +kernel, rfl, by decide +kernel, by decide +kernel⟩
def d__law_settled : He.DefD := ⟨("_law_settled", none), "_law_settled", "_law_settled", defArgs st__law_settled, defBody st__law_settled, defScope st__law_settled, [], []⟩
abbrev st_Disk_loose : Stmt := ((clsBody (top 24)).getD 6 (.Pass ⟨0, 0, 0, 0⟩))
theorem sc_Disk_loose : FnScope ["self", "page", "text"] ["self"] (defScope st_Disk_loose) := ⟨rfl, rfl, rfl, by decide +kernel, rfl, by decide +kernel, by decide +kernel⟩
def d_Disk_loose : He.DefD := ⟨("Disk", some "loose"), "loose", "Disk.loose", defArgs st_Disk_loose, defBody st_Disk_loose, defScope st_Disk_loose, [], []⟩
abbrev st_is_whole : Stmt := (top 10)
theorem sc_is_whole : FnScope ["value"] ["value"] (defScope st_is_whole) := ⟨rfl, rfl, rfl, by decide +kernel, rfl, by decide +kernel, by decide +kernel⟩
def d_is_whole : He.DefD := ⟨("is_whole", none), "is_whole", "is_whole", defArgs st_is_whole, defBody st_is_whole, defScope st_is_whole, [], []⟩
abbrev st_is_index : Stmt := (top 12)
theorem sc_is_index : FnScope ["value", "many"] ["value", "many"] (defScope st_is_index) := ⟨rfl, rfl, rfl, by decide +kernel, rfl, by decide +kernel, by decide +kernel⟩
def d_is_index : He.DefD := ⟨("is_index", none), "is_index", "is_index", defArgs st_is_index, defBody st_is_index, defScope st_is_index, [], []⟩
abbrev st_Disk_check_page : Stmt := ((clsBody (top 24)).getD 1 (.Pass ⟨0, 0, 0, 0⟩))
theorem sc_Disk_check_page : FnScope ["self", "page"] ["self", "page"] (defScope st_Disk_check_page) := ⟨rfl, rfl, rfl, by decide +kernel, rfl, by decide +kernel, by decide +kernel⟩
def d_Disk_check_page : He.DefD := ⟨("Disk", some "check_page"), "check_page", "Disk.check_page", defArgs st_Disk_check_page, defBody st_Disk_check_page, defScope st_Disk_check_page, [], []⟩
abbrev st_Disk_read : Stmt := ((clsBody (top 24)).getD 3 (.Pass ⟨0, 0, 0, 0⟩))
theorem sc_Disk_read : FnScope ["self", "page"] ["self", "page"] (defScope st_Disk_read) := ⟨rfl, rfl, rfl, by decide +kernel, rfl, by decide +kernel, by decide +kernel⟩
def d_Disk_read : He.DefD := ⟨("Disk", some "read"), "read", "Disk.read", defArgs st_Disk_read, defBody st_Disk_read, defScope st_Disk_read, [], []⟩
abbrev st__law_state_right : Stmt := (top 33)
theorem sc__law_state_right : FnScope ["disk", "state", "page", "text"] ["disk", "state"] (defScope st__law_state_right) := ⟨rfl, rfl, rfl, by decide +kernel, rfl, by decide +kernel, by decide +kernel⟩
def d__law_state_right : He.DefD := ⟨("_law_state_right", none), "_law_state_right", "_law_state_right", defArgs st__law_state_right, defBody st__law_state_right, defScope st__law_state_right, [], []⟩
abbrev st_Disk_stop : Stmt := ((clsBody (top 24)).getD 7 (.Pass ⟨0, 0, 0, 0⟩))
theorem sc_Disk_stop : FnScope ["self", "count"] ["self", "count"] (defScope st_Disk_stop) := ⟨rfl, rfl, rfl, by decide +kernel, rfl, by decide +kernel, by decide +kernel⟩
def d_Disk_stop : He.DefD := ⟨("Disk", some "stop"), "stop", "Disk.stop", defArgs st_Disk_stop, defBody st_Disk_stop, defScope st_Disk_stop, [], []⟩
abbrev st__law_stopped : Stmt := (top 36)
theorem sc__law_stopped : FnScope ["disk", "state", "count"] ["disk", "state", "count"] (defScope st__law_stopped) := ⟨rfl, rfl, rfl, by decide +kernel, rfl, by decide +kernel, by decide +kernel⟩
def d__law_stopped : He.DefD := ⟨("_law_stopped", none), "_law_stopped", "_law_stopped", defArgs st__law_stopped, defBody st__law_stopped, defScope st__law_stopped, [], []⟩
abbrev st__law_take : Stmt := (top 28)
theorem sc__law_take : FnScope ["box", "many", "digit", "mixed"] ["box", "many"] (defScope st__law_take) := ⟨rfl, rfl, rfl, by decide +kernel, rfl, by decide +kernel, by decide +kernel⟩
def d__law_take : He.DefD := ⟨("_law_take", none), "_law_take", "_law_take", defArgs st__law_take, defBody st__law_take, defScope st__law_take, [], []⟩
abbrev st__law_text : Stmt := (top 29)
theorem sc__law_text : FnScope ["box", "signs", "k"] ["box"] (defScope st__law_text) := ⟨rfl, rfl, rfl, by decide +kernel, rfl, by decide +kernel, by decide +kernel⟩
def d__law_text : He.DefD := ⟨("_law_text", none), "_law_text", "_law_text", defArgs st__law_text, defBody st__law_text, defScope st__law_text, [], []⟩
abbrev st_is_page_text : Stmt := (top 23)
theorem sc_is_page_text : FnScope ["value", "width", "sign"] ["value", "width"] (defScope st_is_page_text) := ⟨rfl, rfl, rfl, by decide +kernel, rfl, by decide +kernel, by decide +kernel⟩
def d_is_page_text : He.DefD := ⟨("is_page_text", none), "is_page_text", "is_page_text", defArgs st_is_page_text, defBody st_is_page_text, defScope st_is_page_text, [], []⟩
abbrev st_Disk_write : Stmt := ((clsBody (top 24)).getD 4 (.Pass ⟨0, 0, 0, 0⟩))
theorem sc_Disk_write : FnScope ["self", "page", "text"] ["self", "page", "text"] (defScope st_Disk_write) := ⟨rfl, rfl, rfl, by decide +kernel, rfl, by decide +kernel, by decide +kernel⟩
def d_Disk_write : He.DefD := ⟨("Disk", some "write"), "write", "Disk.write", defArgs st_Disk_write, defBody st_Disk_write, defScope st_Disk_write, [], []⟩
abbrev st__law_wrote : Stmt := (top 34)
theorem sc__law_wrote : FnScope ["disk", "state", "page", "text", "let", "e"] ["disk", "state", "page", "text"] (defScope st__law_wrote) := ⟨rfl, rfl, rfl, by decide +kernel, rfl, by decide +kernel, by decide +kernel⟩
def d__law_wrote : He.DefD := ⟨("_law_wrote", none), "_law_wrote", "_law_wrote", defArgs st__law_wrote, defBody st__law_wrote, defScope st__law_wrote, [], []⟩
abbrev st__law_grown : Stmt := (top 42)
theorem sc__law_grown : FnScope ["box", "disk", "state", "pages", "turn", "k"] ["box", "disk", "state"] (defScope st__law_grown) := ⟨rfl, rfl, rfl, by decide +kernel, rfl, by decide +kernel, by decide +kernel⟩
def d__law_grown : He.DefD := ⟨("_law_grown", none), "_law_grown", "_law_grown", defArgs st__law_grown, defBody st__law_grown, defScope st__law_grown, [], []⟩
abbrev st__law_lists : Stmt := (top 39)
theorem sc__law_lists : FnScope ["box", "many", "some", "found", "at", "k", "done"] ["box", "many"] (defScope st__law_lists) := ⟨rfl, rfl, rfl, by decide +kernel, rfl, by decide +kernel, by decide +kernel⟩
def d__law_lists : He.DefD := ⟨("_law_lists", none), "_law_lists", "_law_lists", defArgs st__law_lists, defBody st__law_lists, defScope st__law_lists, [], []⟩
abbrev st__law_new : Stmt := (top 30)
theorem sc__law_new : FnScope ["pages", "width"] ["pages", "width"] (defScope st__law_new) := ⟨rfl, rfl, rfl, by decide +kernel, rfl, by decide +kernel, by decide +kernel⟩
def d__law_new : He.DefD := ⟨("_law_new", none), "_law_new", "_law_new", defArgs st__law_new, defBody st__law_new, defScope st__law_new, [], []⟩
abbrev st_InvalidDone : Stmt := ((clsBody (top 7)).getD 0 (.Pass ⟨0, 0, 0, 0⟩))
theorem sc_InvalidDone : FnScope ["self", "given"] ["self", "given"] (defScope st_InvalidDone) := ⟨rfl, rfl, rfl, by decide +kernel, rfl, by decide +kernel, by decide +kernel⟩
def d_InvalidDone : He.DefD := ⟨("InvalidDone", some "__init__"), "__init__", "InvalidDone.__init__", defArgs st_InvalidDone, defBody st_InvalidDone, defScope st_InvalidDone, [], []⟩
abbrev st_are_unlike : Stmt := (top 14)
theorem sc_are_unlike : FnScope ["items"] ["items"] (defScope st_are_unlike) := ⟨rfl, rfl, rfl, by decide +kernel, rfl, by decide +kernel, by decide +kernel⟩
def d_are_unlike : He.DefD := ⟨("are_unlike", none), "are_unlike", "are_unlike", defArgs st_are_unlike, defBody st_are_unlike, defScope st_are_unlike, [], []⟩
abbrev st_is_listed : Stmt := (top 13)
theorem sc_is_listed : FnScope ["value"] ["value"] (defScope st_is_listed) := ⟨rfl, rfl, rfl, by decide +kernel, rfl, by decide +kernel, by decide +kernel⟩
def d_is_listed : He.DefD := ⟨("is_listed", none), "is_listed", "is_listed", defArgs st_is_listed, defBody st_is_listed, defScope st_is_listed, [], []⟩
abbrev st_are_indices : Stmt := (top 16)
theorem sc_are_indices : FnScope ["value", "many", "item"] ["value", "many"] (defScope st_are_indices) := ⟨rfl, rfl, rfl, by decide +kernel, rfl, by decide +kernel, by decide +kernel⟩
def d_are_indices : He.DefD := ⟨("are_indices", none), "are_indices", "are_indices", defArgs st_are_indices, defBody st_are_indices, defScope st_are_indices, [], []⟩
abbrev st_ascend : Stmt := (top 15)
theorem sc_ascend : FnScope ["items", "at"] ["items"] (defScope st_ascend) := ⟨rfl, rfl, rfl, by decide +kernel, rfl, by decide +kernel, by decide +kernel⟩
def d_ascend : He.DefD := ⟨("ascend", none), "ascend", "ascend", defArgs st_ascend, defBody st_ascend, defScope st_ascend, [], []⟩
abbrev st_are_kept : Stmt := (top 17)
theorem sc_are_kept : FnScope ["value", "many"] ["value", "many"] (defScope st_are_kept) := ⟨rfl, rfl, rfl, by decide +kernel, rfl, by decide +kernel, by decide +kernel⟩
def d_are_kept : He.DefD := ⟨("are_kept", none), "are_kept", "are_kept", defArgs st_are_kept, defBody st_are_kept, defScope st_are_kept, [], []⟩
abbrev st_is_from_to : Stmt := (top 11)
theorem sc_is_from_to : FnScope ["value", "low", "high"] ["value", "low", "high"] (defScope st_is_from_to) := ⟨rfl, rfl, rfl, by decide +kernel, rfl, by decide +kernel, by decide +kernel⟩
def d_is_from_to : He.DefD := ⟨("is_from_to", none), "is_from_to", "is_from_to", defArgs st_is_from_to, defBody st_is_from_to, defScope st_is_from_to, [], []⟩
abbrev st_Disk___init__ : Stmt := ((clsBody (top 24)).getD 0 (.Pass ⟨0, 0, 0, 0⟩))
theorem sc_Disk___init__ : FnScope ["self", "pages", "width"] ["self", "pages", "width"] (defScope st_Disk___init__) := ⟨rfl, rfl, rfl, by decide +kernel, rfl, by decide +kernel, by decide +kernel⟩
def d_Disk___init__ : He.DefD := ⟨("Disk", some "__init__"), "__init__", "Disk.__init__", defArgs st_Disk___init__, defBody st_Disk___init__, defScope st_Disk___init__, [], []⟩
abbrev st_Disk_cut : Stmt := ((clsBody (top 24)).getD 8 (.Pass ⟨0, 0, 0, 0⟩))
theorem sc_Disk_cut : FnScope ["self", "done", "lasting", "at", "page", "text", "rest"] ["self", "done"] (defScope st_Disk_cut) := ⟨rfl, rfl, rfl, by decide +kernel, rfl, by decide +kernel, by decide +kernel⟩
def d_Disk_cut : He.DefD := ⟨("Disk", some "cut"), "cut", "Disk.cut", defArgs st_Disk_cut, defBody st_Disk_cut, defScope st_Disk_cut, [], []⟩
abbrev st__law_cut : Stmt := (top 37)
theorem sc__law_cut : FnScope ["disk", "done", "by_name", "e"] ["disk", "done", "by_name"] (defScope st__law_cut) := ⟨rfl, rfl, rfl, by decide +kernel, rfl, by decide +kernel, by decide +kernel⟩
def d__law_cut : He.DefD := ⟨("_law_cut", none), "_law_cut", "_law_cut", defArgs st__law_cut, defBody st__law_cut, defScope st__law_cut, [], []⟩
abbrev st__law_cut_of : Stmt := (top 32)
theorem sc__law_cut_of : FnScope ["state", "done", "at"] ["state", "done"] (defScope st__law_cut_of) := ⟨rfl, rfl, rfl, by decide +kernel, rfl, by decide +kernel, by decide +kernel⟩
def d__law_cut_of : He.DefD := ⟨("_law_cut_of", none), "_law_cut_of", "_law_cut_of", defArgs st__law_cut_of, defBody st__law_cut_of, defScope st__law_cut_of, [], []⟩
abbrev st__law_one_right : Stmt := (top 41)
theorem sc__law_one_right : FnScope ["box", "disk", "state", "done", "by_name", "passed", "told", "new", "left", "turn"] ["box", "disk", "state", "done", "by_name"] (defScope st__law_one_right) := ⟨rfl, rfl, rfl, by decide +kernel, rfl, by decide +kernel, by decide +kernel⟩
def d__law_one_right : He.DefD := ⟨("_law_one_right", none), "_law_one_right", "_law_one_right", defArgs st__law_one_right, defBody st__law_one_right, defScope st__law_one_right, [], []⟩
abbrev st__law_bad_done : Stmt := (top 38)
theorem sc__law_bad_done : FnScope ["way", "many", "some", "menu"] ["way", "many"] (defScope st__law_bad_done) := ⟨rfl, rfl, rfl, by decide +kernel, rfl, by decide +kernel, by decide +kernel⟩
def d__law_bad_done : He.DefD := ⟨("_law_bad_done", none), "_law_bad_done", "_law_bad_done", defArgs st__law_bad_done, defBody st__law_bad_done, defScope st__law_bad_done, [], []⟩
abbrev st__law_refused_right : Stmt := (top 40)
theorem sc__law_refused_right : FnScope ["box", "disk", "state", "by_name", "way"] ["box", "disk", "state", "by_name"] (defScope st__law_refused_right) := ⟨rfl, rfl, rfl, by decide +kernel, rfl, by decide +kernel, by decide +kernel⟩
def d__law_refused_right : He.DefD := ⟨("_law_refused_right", none), "_law_refused_right", "_law_refused_right", defArgs st__law_refused_right, defBody st__law_refused_right, defScope st__law_refused_right, [], []⟩
abbrev st__law_chain_right : Stmt := (top 43)
theorem sc__law_chain_right : FnScope ["box", "by_name", "pages", "disk", "state", "others", "turn", "found", "done", "one"] ["box"] (defScope st__law_chain_right) := ⟨rfl, rfl, rfl, by decide +kernel, rfl, by decide +kernel, by decide +kernel⟩
def d__law_chain_right : He.DefD := ⟨("_law_chain_right", none), "_law_chain_right", "_law_chain_right", defArgs st__law_chain_right, defBody st__law_chain_right, defScope st__law_chain_right, [], []⟩
abbrev st__law_great_right : Stmt := (top 44)
theorem sc__law_great_right : FnScope ["box", "disk", "state", "turn", "text", "half", "done", "at"] ["box"] (defScope st__law_great_right) := ⟨rfl, rfl, rfl, by decide +kernel, rfl, by decide +kernel, by decide +kernel⟩
def d__law_great_right : He.DefD := ⟨("_law_great_right", none), "_law_great_right", "_law_great_right", defArgs st__law_great_right, defBody st__law_great_right, defScope st__law_great_right, [], []⟩
abbrev st_law : Stmt := (top 45)
theorem sc_law : FnScope ["script", "k"] ["script"] (defScope st_law) := ⟨rfl, rfl, rfl, by decide +kernel, rfl, by decide +kernel, by decide +kernel⟩
def d_law : He.DefD := ⟨("law", none), "law", "law", defArgs st_law, defBody st_law, defScope st_law, [], []⟩
def fn : List He.DefD := [d__law_box, d__law_cell, d__law_behind, d_PowerCut, d_Disk_spend, d_Disk_settle, d__law_settled, d_Disk_loose, d_is_whole, d_is_index, d_Disk_check_page, d_Disk_read, d__law_state_right, d_Disk_stop, d__law_stopped, d__law_take, d__law_text, d_is_page_text, d_Disk_write, d__law_wrote, d__law_grown, d__law_lists, d__law_new, d_InvalidDone, d_are_unlike, d_is_listed, d_are_indices, d_ascend, d_are_kept, d_is_from_to, d_Disk___init__, d_Disk_cut, d__law_cut, d__law_cut_of, d__law_one_right, d__law_bad_done, d__law_refused_right, d__law_chain_right, d__law_great_right, d_law]
def fa : List Ff := [.fa (.glo "_law_cell"),
  .fa (.glo "_law_box"),
  .fa (.glo "_law_chain_right"),
  .fa (.free "len"),
  .fa (.free "min"),
  .fa (.free "max"),
  .fa (.free "range"),
  .fa (.glo "_law_great_right"),
  .fa (.free "sum"),
  .fa (.free "int"),
  .fa (.free "abs"),
  .fa (.glo "_law_state_right"),
  .fa (.free "all"),
  .fa (.glo "_law_one_right"),
  .fa (.glo "_law_settled"),
  .fa (.glo "_law_take"),
  .fa (.free "list"),
  .fa (.glo "_law_wrote"),
  .fa (.glo "_law_stopped"),
  .fa (.glo "_law_lists"),
  .fa (.glo "_law_refused_right"),
  .fa (.glo "_law_grown"),
  .fa (.glo "_law_new"),
  .fa (.mkr "Disk"),
  .fa (.glo "Disk"),
  .fa (.glo "_law_text"),
  .fa (.cls "Disk"),
  .fa (.meth "Disk" "settle"),
  .xc "PowerCut",
  .kit "PowerCut" "EarlierError" true,
  .fa (.free "isinstance"),
  .fa (.glo "EarlierError"),
  .exm "PowerCut" "PowerCut" true,
  .exm "InvalidDone" "PowerCut" false,
  .fa (.glo "PowerCut"),
  .fa (.glo "_law_behind"),
  .fa (.noat "Disk" "writes"),
  .fa (.noat "Disk" "texts"),
  .fa (.noat "Disk" "lasting"),
  .fa (.meth "Disk" "spend"),
  .fa (.noat "Disk" "left"),
  .ec0 "PowerCut",
  .eb "EarlierError",
  .fa (.meth "Disk" "read"),
  .fa (.free "repr"),
  .fa (.meth "Disk" "loose"),
  .fa (.noat "Disk" "width"),
  .fa (.noat "Disk" "pages"),
  .own ["Disk"],
  .fa (.meth "Disk" "check_page"),
  .fa (.glo "is_index"),
  .fa (.glo "is_whole"),
  .fa (.free "bool"),
  .fa (.meth "Disk" "stop"),
  .fa (.meth "Disk" "write"),
  .fa (.glo "is_page_text"),
  .fa (.free "str"),
  .fa (.glo "_law_cut_of"),
  .fa (.free "tuple"),
  .fa (.glo "_law_cut"),
  .fa (.meth "Disk" "cut"),
  .xf "InvalidDone" "given",
  .xc "InvalidDone",
  .kit "InvalidDone" "EarlierError" true,
  .exm "PowerCut" "InvalidDone" false,
  .exm "InvalidDone" "InvalidDone" true,
  .fa (.glo "InvalidDone"),
  .exm "PowerCut" "EarlierError" true,
  .exm "InvalidDone" "EarlierError" true,
  .fa (.glo "are_kept"),
  .ec "InvalidDone" "given",
  .fa (.glo "ascend"),
  .fa (.glo "are_indices"),
  .fa (.glo "are_unlike"),
  .fa (.glo "is_listed"),
  .fa (.free "set"),
  .fa (.int "MOST_WIDTH" 400),
  .fa (.int "LEAST_WIDTH" 20),
  .fa (.glo "is_from_to"),
  .fa (.int "MOST_PAGES" 40),
  .fa (.int "LEAST_PAGES" 3),
  .fa (.glo "_law_bad_done"),
  .fa (.glo "law")]
structure Ct (K : PySem.W.Frag) (mg : Str → Option Value) (base : Heap) : Prop where
  X : K.In base
  G : base.Ns mainGlobals mg
  c : SaysF fa fn K
section
variable {P : Program} {w : World} {K : PySem.W.Frag} {mg : Str → Option Value} {base : Heap}
def fn__law_box : Fn := defF 0 ((retS (fLstO (fCons (fCB absD (fCons (fVar 0) (pureF []))) (fCons (fOp geD (fCB absD (fCons (fVar 0) (pureF []))) (fOp powD (pureF (.int 10)) (pureF (.int 18)))) (fCons (fOp modD (fCB int1D (fCons (fCB absD (fCons (fVar 0) (pureF []))) (pureF []))) (pureF (.int 2147483629))) (fCons (pureF (.int 0)) (pureF []))))))))
theorem fg__law_box (c : Ct K mg base) (fd : FuncData) (F : FunD K "_law_box" "_law_box" (defArgs st__law_box) (defBody st__law_box) (defScope st__law_box) [] [] (He.ga K "_law_box") fd) : FnG P w K mg base 1 (He.ga K "_law_box") fd ["great"] (spF K 1 fn__law_box) :=
  fn_okG F sc__law_box rfl rfl fun cdv A outer s H E B tk => (css_one (cs_ret (ce_lstO (ca_cons (ce_cb call_abs lk_abs (ff_free c.X c.G (c.c.fact 10)) bbi_abs (ca_cons (ce_var 0) ca_nil)) (ca_cons (ce_cmp opx_ge lk_ge (ce_cb call_abs lk_abs (ff_free c.X c.G (c.c.fact 10)) bbi_abs (ca_cons (ce_var 0) ca_nil)) (ce_bin op_pow lk_pow ce_int ce_int) (nomark _)) (ca_cons (ce_bin op_mod lk_mod (ce_ct call_int1 lk_int1 (ff_free c.X c.G (c.c.fact 9)) bty_int (ca_cons (ce_cb call_abs lk_abs (ff_free c.X c.G (c.c.fact 10)) bbi_abs (ca_cons (ce_var 0) ca_nil)) ca_nil)) ce_int) (ca_cons ce_int ca_nil)))))))
theorem ok__law_box (c : Ct K mg base) : OkF P w K mg base 1 (He.ga K "_law_box") ["great"] (spF K 1 fn__law_box) := okF_of (c.c.def_ 0 (d := d__law_box) rfl) (fg__law_box c) (fun _ _ _ _ _ _ us hl => match us, hl with | [_], _ => rfl)
def fn__law_cell : Fn := defF 0 ((retS (fIf (fTest (fOp ltD (fVar 1) (fCB lenD (fCons (fVar 0) (pureF []))))) (fOp getD (fVar 0) (fVar 1)) (fOp addD (fOp mulD (pureF (.int 6089)) (fVar 1)) (fOp modD (fCB sumD (fCons (fSlice (fVar 0) (pureF none) (fInt (pureF (.int 1)))) (pureF []))) (pureF (.int 1000033)))))))
theorem fg__law_cell (c : Ct K mg base) (fd : FuncData) (F : FunD K "_law_cell" "_law_cell" (defArgs st__law_cell) (defBody st__law_cell) (defScope st__law_cell) [] [] (He.ga K "_law_cell") fd) : FnG P w K mg base 1 (He.ga K "_law_cell") fd ["script", "k"] (spF K 2 fn__law_cell) :=
  fn_okG F sc__law_cell rfl rfl fun cdv A outer s H E B tk => (css_one (cs_ret (ce_if (ct_cmp opx_lt lk_lt (ce_var 1) (ce_cb cx_len lk_len (ff_free c.X c.G (c.c.fact 3)) bbi_len (ca_cons (ce_var 0) ca_nil)) (nomark _)) (ce_ix (ce_var 0) (ce_var 1)) (ce_bin opx_add lk_add (ce_bin opx_mul lk_mul ce_int (ce_var 1)) (ce_bin op_mod lk_mod (ce_cb (cr_sum rfl) lk_sum (ff_free c.X c.G (c.c.fact 8)) bbi_sum (ca_cons (ce_slice (ce_var 0) co_none (co_some ce_int)) ca_nil)) ce_int)))))
theorem ok__law_cell (c : Ct K mg base) : OkF P w K mg base 1 (He.ga K "_law_cell") ["script", "k"] (spF K 2 fn__law_cell) := okF_of (c.c.def_ 1 (d := d__law_cell) rfl) (fg__law_cell c) (fun _ _ _ _ _ _ us hl => match us, hl with | [_, _], _ => rfl)
def fn__law_behind : Fn := defF 3 ((seqS (asgS (fListO (fVar 0)) (gSet 2)) (seqS (forA (fVar 1) (gSeqG 2 (gConss (gSet 3) (gConss (gSet 4) gNils))) (asgS (fVar 4) (gSubG (fVar 2) (fVar 3)))) (retS (fVar 2)))))
theorem fg__law_behind (c : Ct K mg base) (fd : FuncData) (F : FunD K "_law_behind" "_law_behind" (defArgs st__law_behind) (defBody st__law_behind) (defScope st__law_behind) [] [] (He.ga K "_law_behind") fd) : FnG P w K mg base 1 (He.ga K "_law_behind") fd ["texts", "writes"] (spF K 2 fn__law_behind) :=
  fn_okG F sc__law_behind rfl rfl fun cdv A outer s H E B tk => (css_cons (cs_asg (ce_listO (ff_free c.X c.G (c.c.fact 16)) (ce_var 0)) (cg_name 2 sc__law_behind.nd)) (css_cons (cs_forA (passes_of rfl) rfl (ce_var 1) (cg_seq rfl (cgs_cons (cg_name 3 sc__law_behind.nd) (cgs_cons (cg_name 4 sc__law_behind.nd) cgs_nil))) (css_one (cs_asg (ce_var 4) (cg_sub (fun _ => (ce_var 2)) (fun _ => (ce_var 3)))))) (css_one (cs_ret (ce_var 2)))))
theorem ok__law_behind (c : Ct K mg base) : OkF P w K mg base 1 (He.ga K "_law_behind") ["texts", "writes"] (spF K 2 fn__law_behind) := okF_of (c.c.def_ 2 (d := d__law_behind) rfl) (fg__law_behind c) (fun _ _ _ _ _ _ us hl => match us, hl with | [_, _], _ => rfl)
theorem ok_PowerCut (c : Ct K mg base) : OkF P w K mg base 1 (He.ma K (He.ga K "PowerCut") "__init__") ["self"] (spI0 K) :=
  okF_of (c.c.def_ 3 (d := d_PowerCut) rfl) (fun fd F => fn_okH (t := fun _ => tDrop (tEeI K (tCons (tVar 0) (tCons (tC (.str _)) tNil)))) F sc_PowerCut (fun vs H Q E h => by obtain ⟨_, _, rfl, _⟩ := h; rfl) (fun cdv A outer s H E B tk => pss_one (ps_expr (pe_eeinit (ff_eb (c.c.fact 42)) rfl (ff_glo c.X c.G (c.c.fact 31)) (pa_cons (pv 0) (pa_cons pe_str pa_nil))))) (fun vs H Q E h => spI0_t rfl h)) (fun _ _ _ _ _ _ us hl => match us, hl with | [_], _ => rfl)
def fn_Disk_spend : Fn := defF 0 ((seqS (ifS (fTest (fOp eqA (fFld ["Disk"] "left" (fVar 0)) (pureF (.int 0)))) (raiseS0 "PowerCut") fNx) (ifS (fTest (fOp isnD (fFld ["Disk"] "left" (fVar 0)) (pureF .non))) (augI (fun i j => i - j) ["Disk"] "left" (fVar 0) (pureF (.int 1))) fNx)))
theorem fg_Disk_spend (c : Ct K mg base) (fd : FuncData) (F : FunD K "spend" "Disk.spend" (defArgs st_Disk_spend) (defBody st_Disk_spend) (defScope st_Disk_spend) [] [] (He.ma K (He.ga K "Disk") "spend") fd) : FnG P w K mg base 3 (He.ma K (He.ga K "Disk") "spend") fd ["self"] (spF K 1 fn_Disk_spend) :=
  fn_okG F sc_Disk_spend rfl rfl fun cdv A outer s H E B tk => (css_cons (cs_if (ct_cmp (opx_eqA B.rpr.u64) lk_eqA (ce_fld ["Disk"] (aCons (ff_fld (c.c.fact 26) (c.c.fact 40)) aNil) (ce_var 0)) ce_int (nomark _)) (css_one (cx_raise0 rfl tk (ff_ec0 (c.c.fact 41)) (ok_PowerCut c) (B.mono (by decide)) (ff_glo c.X c.G (c.c.fact 34)))) css_nil) (css_one (cs_if (ct_cmp op_notN lk_isn (ce_fld ["Disk"] (aCons (ff_fld (c.c.fact 26) (c.c.fact 40)) aNil) (ce_var 0)) ce_non (nomark _)) (css_one (cs_fsub ["Disk"] (aCons (ff_fld (c.c.fact 26) (c.c.fact 40)) aNil) (ce_var 0) ce_int)) css_nil)))
theorem ok_Disk_spend (c : Ct K mg base) : OkF P w K mg base 3 (He.ma K (He.ga K "Disk") "spend") ["self"] (spF K 1 fn_Disk_spend) := okF_of (c.c.def_ 4 (d := d_Disk_spend) rfl) (fg_Disk_spend c) (fun _ _ _ _ _ _ us hl => match us, hl with | [_], _ => rfl)
def fn_Disk_settle : Fn := defF 0 ((seqS (dropS (fMeth 1 "Disk" "spend" fn_Disk_spend (fVar 0) (pureF []))) (seqS (fldS ["Disk"] "lasting" (fListO (fFld ["Disk"] "texts" (fVar 0))) (fVar 0)) (fldS ["Disk"] "writes" (fLstO (pureF [])) (fVar 0)))))
theorem fg_Disk_settle (c : Ct K mg base) (fd : FuncData) (F : FunD K "settle" "Disk.settle" (defArgs st_Disk_settle) (defBody st_Disk_settle) (defScope st_Disk_settle) [] [] (He.ma K (He.ga K "Disk") "settle") fd) : FnG P w K mg base 4 (He.ma K (He.ga K "Disk") "settle") fd ["self"] (spF K 1 fn_Disk_settle) :=
  fn_okG F sc_Disk_settle rfl rfl fun cdv A outer s H E B tk => (css_cons (cs_expr (cx_meth0 (ff_cls (c.c.fact 26)) (ff_meth (c.c.fact 39)) (ok_Disk_spend c) (B.mono (by decide)) tk (ce_var 0))) (css_cons (cs_fld ["Disk"] (aCons (ff_fld (c.c.fact 26) (c.c.fact 38)) aNil) (ce_var 0) (ce_listO (ff_free c.X c.G (c.c.fact 16)) (ce_fld ["Disk"] (aCons (ff_fld (c.c.fact 26) (c.c.fact 37)) aNil) (ce_var 0)))) (css_one (cs_fld ["Disk"] (aCons (ff_fld (c.c.fact 26) (c.c.fact 36)) aNil) (ce_var 0) (ce_lstO ca_nil)))))
theorem ok_Disk_settle (c : Ct K mg base) : OkF P w K mg base 4 (He.ma K (He.ga K "Disk") "settle") ["self"] (spF K 1 fn_Disk_settle) := okF_of (c.c.def_ 5 (d := d_Disk_settle) rfl) (fg_Disk_settle c) (fun _ _ _ _ _ _ us hl => match us, hl with | [_], _ => rfl)
def fn__law_settled : Fn := defF 2 ((seqS (asgS (fOp neD (fOp getD (fVar 1) (pureF (.int 4))) (pureF (.int 0))) (gSet 2)) (seqS (ifS (fTru (fVar 2)) (seqS (asgS (fTup (fCons (fCall 2 fn__law_behind (fCons (fOp getD (fVar 1) (pureF (.int 2))) (fCons (fOp getD (fVar 1) (pureF (.int 3))) (pureF [])))) (fCons (fLstO (pureF [])) (pureF [])))) (gSeqG 2 (gConss (gSubG (fVar 1) (pureF (.int 2))) (gConss (gSubG (fVar 1) (pureF (.int 3))) gNils)))) (asgS (fIf (fTest (fOp isD (fOp getD (fVar 1) (pureF (.int 4))) (pureF .non))) (pureF .non) (fOp subD (fOp getD (fVar 1) (pureF (.int 4))) (pureF (.int 1)))) (gSubG (fVar 1) (pureF (.int 4))))) fNx) (tryS (retS (fAndV (fOp isD (fMeth 1 "Disk" "settle" fn_Disk_settle (fVar 0) (pureF [])) (pureF .non)) (fVar 2))) [⟨[("PowerCut", true), ("InvalidDone", false)], (some 3), fun c' p' => (retS (fAndV (fIsE 3 [("PowerCut", true)] c') (fNotV (fVar 2))))⟩]))))
theorem fg__law_settled (c : Ct K mg base) (fd : FuncData) (F : FunD K "_law_settled" "_law_settled" (defArgs st__law_settled) (defBody st__law_settled) (defScope st__law_settled) [] [] (He.ga K "_law_settled") fd) : FnG P w K mg base 5 (He.ga K "_law_settled") fd ["disk", "state"] (spF K 2 fn__law_settled) :=
  fn_okG F sc__law_settled rfl rfl fun cdv A outer s H E B tk => (css_cons (cs_asg (ce_cmp (opx_ne B.rpr.u64) lk_ne (ce_ix (ce_var 1) ce_int) ce_int (nomark _)) (cg_name 2 sc__law_settled.nd)) (css_cons (cs_if (ct_tru (ce_var 2)) (css_cons (cs_asg (ce_tup (ca_cons (cx_call (ok__law_behind c) (B.mono (by decide)) tk (ff_glo c.X c.G (c.c.fact 35)) (ca_cons (ce_ix (ce_var 1) ce_int) (ca_cons (ce_ix (ce_var 1) ce_int) ca_nil))) (ca_cons (ce_lstO ca_nil) ca_nil))) (cg_seq rfl (cgs_cons (cg_sub (fun _ => (ce_var 1)) (fun _ => ce_int)) (cgs_cons (cg_sub (fun _ => (ce_var 1)) (fun _ => ce_int)) cgs_nil)))) (css_one (cs_asg (ce_if (ct_cmp op_isN lk_is (ce_ix (ce_var 1) ce_int) ce_non (nomark _)) ce_non (ce_bin op_sub lk_sub (ce_ix (ce_var 1) ce_int) ce_int)) (cg_sub (fun _ => (ce_var 1)) (fun _ => ce_int))))) css_nil) (css_one (cs_try rfl rfl sc__law_settled.nd tk (fun w' pn xe tk' hp' => (css_one (cs_ret (ce_and (ce_cmp op_isN lk_is (cx_meth0 (ff_cls (c.c.fact 26)) (ff_meth (c.c.fact 27)) (ok_Disk_settle c) (B.tr.mono (by decide)) tk' (ce_var 0)) ce_non (nomark _)) (ce_one (ce_var 2)))))) (.cons (hd := ⟨[("PowerCut", true), ("InvalidDone", false)], (some 3), fun c' p' => (retS (fAndV (fIsE 3 [("PowerCut", true)] c') (fNotV (fVar 2))))⟩) ⟨rfl, by decide, .inl (ff_glo c.X c.G (c.c.fact 34))⟩ (aCons (ff_exm (c.c.fact 32)) (aCons (ff_exm (c.c.fact 33)) aNil)) ⟨rfl, rfl⟩ (fun a oe c' p' d pn hz hf => (css_one (cs_ret (ce_and (ce_isE 3 [("PowerCut", true)] "EarlierError" (aCons ⟨ff_xc (c.c.fact 28), ff_kit (c.c.fact 29)⟩ aNil) (ff_free c.X c.G (c.c.fact 30)) (ff_glo c.X c.G (c.c.fact 31)) hz hf) (ce_one (ce_not (ce_var 2))))))) .nil)))))
theorem ok__law_settled (c : Ct K mg base) : OkF P w K mg base 5 (He.ga K "_law_settled") ["disk", "state"] (spF K 2 fn__law_settled) := okF_of (c.c.def_ 6 (d := d__law_settled) rfl) (fg__law_settled c) (fun _ _ _ _ _ _ us hl => match us, hl with | [_, _], _ => rfl)
def fn_Disk_loose : Fn := defF 2 ((retS (lcA (fFld ["Disk"] "writes" (fVar 0)) [1, 2] (gSeqG 2 (gConss (gSet 1) (gConss (gSet 2) gNils))) (pureF true) (fVar 1))))
theorem fg_Disk_loose (c : Ct K mg base) (fd : FuncData) (F : FunD K "loose" "Disk.loose" (defArgs st_Disk_loose) (defBody st_Disk_loose) (defScope st_Disk_loose) [] [] (He.ma K (He.ga K "Disk") "loose") fd) : FnG P w K mg base 1 (He.ma K (He.ga K "Disk") "loose") fd ["self"] (spF K 1 fn_Disk_loose) :=
  fn_okG F sc_Disk_loose rfl rfl fun cdv A outer s H E B tk => (css_one (cs_ret (ce_lcA [("page", 1), ("text", 2)] rfl sc_Disk_loose.nd (blk_of (by rfl)) (ce_fld ["Disk"] (aCons (ff_fld (c.c.fact 26) (c.c.fact 36)) aNil) (ce_var 0)) (fun s H C cl fp => (cgv_seq rfl (cgvs_cons (cgv_name 1 sc_Disk_loose.nd) (cgvs_cons (cgv_name 2 sc_Disk_loose.nd) cgvs_nil)))) (fun s H C cl fp => cts_nil) (fun s H C cl fp => (ce_var 1)))))
theorem ok_Disk_loose (c : Ct K mg base) : OkF P w K mg base 1 (He.ma K (He.ga K "Disk") "loose") ["self"] (spF K 1 fn_Disk_loose) := okF_of (c.c.def_ 7 (d := d_Disk_loose) rfl) (fg_Disk_loose c) (fun _ _ _ _ _ _ us hl => match us, hl with | [_], _ => rfl)
def fn_is_whole : Fn := defF 0 ((retS (fAndV (fIsi ["Disk"] [(.b .int)] (fVar 0)) (fNotV (fIsi ["Disk"] [(.b .bool)] (fVar 0))))))
theorem fg_is_whole (c : Ct K mg base) (fd : FuncData) (F : FunD K "is_whole" "is_whole" (defArgs st_is_whole) (defBody st_is_whole) (defScope st_is_whole) [] [] (He.ga K "is_whole") fd) : FnG P w K mg base 1 (He.ga K "is_whole") fd ["value"] (spF K 1 fn_is_whole) :=
  fn_okG F sc_is_whole rfl rfl fun cdv A outer s H E B tk => (css_one (cs_ret (ce_and (ce_isi (.b .int) (ff_own (c.c.fact 48)) (ff_free c.X c.G (c.c.fact 30)) (ce_var 0) (pe_bt .int rfl (ff_free c.X c.G (c.c.fact 9)) bty_int)) (ce_one (ce_not (ce_isi (.b .bool) (ff_own (c.c.fact 48)) (ff_free c.X c.G (c.c.fact 30)) (ce_var 0) (pe_bt .bool rfl (ff_free c.X c.G (c.c.fact 52)) bty_bool)))))))
theorem ok_is_whole (c : Ct K mg base) : OkF P w K mg base 1 (He.ga K "is_whole") ["value"] (spF K 1 fn_is_whole) := okF_of (c.c.def_ 8 (d := d_is_whole) rfl) (fg_is_whole c) (fun _ _ _ _ _ _ us hl => match us, hl with | [_], _ => rfl)
def fn_is_index : Fn := defF 0 ((retS (fAndV (fCall 1 fn_is_whole (fCons (fVar 0) (pureF []))) (fChain leD ltD (pureF (.int 0)) (fVar 0) (fVar 1)))))
theorem fg_is_index (c : Ct K mg base) (fd : FuncData) (F : FunD K "is_index" "is_index" (defArgs st_is_index) (defBody st_is_index) (defScope st_is_index) [] [] (He.ga K "is_index") fd) : FnG P w K mg base 2 (He.ga K "is_index") fd ["value", "many"] (spF K 2 fn_is_index) :=
  fn_okG F sc_is_index rfl rfl fun cdv A outer s H E B tk => (css_one (cs_ret (ce_and (cx_call (ok_is_whole c) (B.mono (by decide)) tk (ff_glo c.X c.G (c.c.fact 51)) (ca_cons (ce_var 0) ca_nil)) (ce_one (ce_chain opx_le lk_le opx_lt lk_lt ce_int (ce_var 0) (ce_var 1))))))
theorem ok_is_index (c : Ct K mg base) : OkF P w K mg base 2 (He.ga K "is_index") ["value", "many"] (spF K 2 fn_is_index) := okF_of (c.c.def_ 9 (d := d_is_index) rfl) (fg_is_index c) (fun _ _ _ _ _ _ us hl => match us, hl with | [_, _], _ => rfl)
def fn_Disk_check_page : Fn := defF 0 ((ifS (fNot (fTru (fCall 2 fn_is_index (fCons (fVar 1) (fCons (fFld ["Disk"] "pages" (fVar 0)) (pureF [])))))) sDead fNx))
theorem fg_Disk_check_page (c : Ct K mg base) (fd : FuncData) (F : FunD K "check_page" "Disk.check_page" (defArgs st_Disk_check_page) (defBody st_Disk_check_page) (defScope st_Disk_check_page) [] [] (He.ma K (He.ga K "Disk") "check_page") fd) : FnG P w K mg base 3 (He.ma K (He.ga K "Disk") "check_page") fd ["self", "page"] (spF K 2 fn_Disk_check_page) :=
  fn_okG F sc_Disk_check_page rfl rfl fun cdv A outer s H E B tk => (css_one (cs_if (ct_not (ct_tru (cx_call (ok_is_index c) (B.mono (by decide)) tk (ff_glo c.X c.G (c.c.fact 50)) (ca_cons (ce_var 1) (ca_cons (ce_fld ["Disk"] (aCons (ff_fld (c.c.fact 26) (c.c.fact 47)) aNil) (ce_var 0)) ca_nil))))) (css_one cs_dead) css_nil))
theorem ok_Disk_check_page (c : Ct K mg base) : OkF P w K mg base 3 (He.ma K (He.ga K "Disk") "check_page") ["self", "page"] (spF K 2 fn_Disk_check_page) := okF_of (c.c.def_ 10 (d := d_Disk_check_page) rfl) (fg_Disk_check_page c) (fun _ _ _ _ _ _ us hl => match us, hl with | [_, _], _ => rfl)
def fn_Disk_read : Fn := defF 0 ((seqS (dropS (fMeth 2 "Disk" "check_page" fn_Disk_check_page (fVar 0) (fCons (fVar 1) (pureF [])))) (retS (fOp getD (fFld ["Disk"] "texts" (fVar 0)) (fVar 1)))))
theorem fg_Disk_read (c : Ct K mg base) (fd : FuncData) (F : FunD K "read" "Disk.read" (defArgs st_Disk_read) (defBody st_Disk_read) (defScope st_Disk_read) [] [] (He.ma K (He.ga K "Disk") "read") fd) : FnG P w K mg base 4 (He.ma K (He.ga K "Disk") "read") fd ["self", "page"] (spF K 2 fn_Disk_read) :=
  fn_okG F sc_Disk_read rfl rfl fun cdv A outer s H E B tk => (css_cons (cs_expr (cx_meth (ff_cls (c.c.fact 26)) (ff_meth (c.c.fact 49)) (ok_Disk_check_page c) (B.mono (by decide)) tk (ce_var 0) (ca_cons (ce_var 1) ca_nil))) (css_one (cs_ret (ce_ix (ce_fld ["Disk"] (aCons (ff_fld (c.c.fact 26) (c.c.fact 37)) aNil) (ce_var 0)) (ce_var 1)))))
theorem ok_Disk_read (c : Ct K mg base) : OkF P w K mg base 4 (He.ma K (He.ga K "Disk") "read") ["self", "page"] (spF K 2 fn_Disk_read) := okF_of (c.c.def_ 11 (d := d_Disk_read) rfl) (fg_Disk_read c) (fun _ _ _ _ _ _ us hl => match us, hl with | [_, _], _ => rfl)
def fn__law_state_right : Fn := defF 2 ((seqS (ifS (fOr (fNot (fTru (fIsi ["Disk"] [(.own "Disk")] (fVar 0)))) (fTest (fOp neD (fCB reprA (fCons (fLst (fCons (fFld ["Disk"] "pages" (fVar 0)) (fCons (fFld ["Disk"] "width" (fVar 0)) (pureF [])))) (pureF []))) (fCB reprA (fCons (fSlice (fVar 1) (pureF none) (fInt (pureF (.int 2)))) (pureF [])))))) (retS (pureF (.bl false))) fNx) (seqS (ifS (fTest (fOp neD (fCB reprA (fCons (fMeth 1 "Disk" "loose" fn_Disk_loose (fVar 0) (pureF [])) (pureF []))) (fCB reprA (fCons (lcA (fOp getD (fVar 1) (pureF (.int 3))) [2, 3] (gSeqG 2 (gConss (gSet 2) (gConss (gSet 3) gNils))) (pureF true) (fVar 2)) (pureF []))))) (retS (pureF (.bl false))) fNx) (retS (fOp eqA (fCB reprA (fCons (fLc (fRng1 (fCons (fOp getD (fVar 1) (pureF (.int 0))) (pureF []))) [2] (gSet 2) (pureF true) (fMeth 2 "Disk" "read" fn_Disk_read (fVar 0) (fCons (fVar 2) (pureF [])))) (pureF []))) (fCB reprA (fCons (fCall 2 fn__law_behind (fCons (fOp getD (fVar 1) (pureF (.int 2))) (fCons (fOp getD (fVar 1) (pureF (.int 3))) (pureF [])))) (pureF []))))))))
theorem fg__law_state_right (c : Ct K mg base) (fd : FuncData) (F : FunD K "_law_state_right" "_law_state_right" (defArgs st__law_state_right) (defBody st__law_state_right) (defScope st__law_state_right) [] [] (He.ga K "_law_state_right") fd) : FnG P w K mg base 5 (He.ga K "_law_state_right") fd ["disk", "state"] (spF K 2 fn__law_state_right) :=
  fn_okG F sc__law_state_right rfl rfl fun cdv A outer s H E B tk => (css_cons (cs_if (cw_t (cw_or (ct_not (ct_tru (ce_isi (.own "Disk") (ff_own (c.c.fact 48)) (ff_free c.X c.G (c.c.fact 30)) (ce_var 0) (pe_own (ff_glo c.X c.G (c.c.fact 24)))))) (cw_or1 (ct_cmp (opx_ne B.rpr.u64) lk_ne (ce_cb (cx_reprA B.rpr) lk_reprA (ff_free c.X c.G (c.c.fact 44)) bbi_repr (ca_cons (ce_lst (ca_cons (ce_fld ["Disk"] (aCons (ff_fld (c.c.fact 26) (c.c.fact 47)) aNil) (ce_var 0)) (ca_cons (ce_fld ["Disk"] (aCons (ff_fld (c.c.fact 26) (c.c.fact 46)) aNil) (ce_var 0)) ca_nil))) ca_nil)) (ce_cb (cx_reprA B.rpr) lk_reprA (ff_free c.X c.G (c.c.fact 44)) bbi_repr (ca_cons (ce_slice (ce_var 1) co_none (co_some ce_int)) ca_nil)) (nomark _))))) (css_one (cs_ret ce_bl)) css_nil) (css_cons (cs_if (ct_cmp (opx_ne B.rpr.u64) lk_ne (ce_cb (cx_reprA B.rpr) lk_reprA (ff_free c.X c.G (c.c.fact 44)) bbi_repr (ca_cons (cx_meth0 (ff_cls (c.c.fact 26)) (ff_meth (c.c.fact 45)) (ok_Disk_loose c) (B.mono (by decide)) tk (ce_var 0)) ca_nil)) (ce_cb (cx_reprA B.rpr) lk_reprA (ff_free c.X c.G (c.c.fact 44)) bbi_repr (ca_cons (ce_lcA [("page", 2), ("text", 3)] rfl sc__law_state_right.nd (blk_of (by rfl)) (ce_ix (ce_var 1) ce_int) (fun s H C cl fp => (cgv_seq rfl (cgvs_cons (cgv_name 2 sc__law_state_right.nd) (cgvs_cons (cgv_name 3 sc__law_state_right.nd) cgvs_nil)))) (fun s H C cl fp => cts_nil) (fun s H C cl fp => (ce_var 2))) ca_nil)) (nomark _)) (css_one (cs_ret ce_bl)) css_nil) (css_one (cs_ret (ce_cmp (opx_eqA B.rpr.u64) lk_eqA (ce_cb (cx_reprA B.rpr) lk_reprA (ff_free c.X c.G (c.c.fact 44)) bbi_repr (ca_cons (ce_lc [("page", 2)] rfl sc__law_state_right.nd (blk_of (by rfl)) (ci_rng1 (ff_free c.X c.G (c.c.fact 6)) (ca_cons (ce_ix (ce_var 1) ce_int) ca_nil)) (fun s H C cl fp => (cgv_name 2 sc__law_state_right.nd)) (fun s H C cl fp => cts_nil) (fun s H C cl fp => (cx_meth (ff_cls (c.c.fact 26)) (ff_meth (c.c.fact 43)) (ok_Disk_read c) (B.blk.mono (by decide)) tk0 (ce_var 0) (ca_cons (ce_var 2) ca_nil)))) ca_nil)) (ce_cb (cx_reprA B.rpr) lk_reprA (ff_free c.X c.G (c.c.fact 44)) bbi_repr (ca_cons (cx_call (ok__law_behind c) (B.mono (by decide)) tk (ff_glo c.X c.G (c.c.fact 35)) (ca_cons (ce_ix (ce_var 1) ce_int) (ca_cons (ce_ix (ce_var 1) ce_int) ca_nil))) ca_nil)) (nomark _))))))
theorem ok__law_state_right (c : Ct K mg base) : OkF P w K mg base 5 (He.ga K "_law_state_right") ["disk", "state"] (spF K 2 fn__law_state_right) := okF_of (c.c.def_ 12 (d := d__law_state_right) rfl) (fg__law_state_right c) (fun _ _ _ _ _ _ us hl => match us, hl with | [_, _], _ => rfl)
def fn_Disk_stop : Fn := defF 0 ((seqS (ifS (fAnd (fTest (fOp isnD (fVar 1) (pureF .non))) (fNot (fAnd (fTru (fCall 1 fn_is_whole (fCons (fVar 1) (pureF [])))) (fTest (fOp geD (fVar 1) (pureF (.int 0))))))) sDead fNx) (fldS ["Disk"] "left" (fVar 1) (fVar 0))))
theorem fg_Disk_stop (c : Ct K mg base) (fd : FuncData) (F : FunD K "stop" "Disk.stop" (defArgs st_Disk_stop) (defBody st_Disk_stop) (defScope st_Disk_stop) [] [] (He.ma K (He.ga K "Disk") "stop") fd) : FnG P w K mg base 2 (He.ma K (He.ga K "Disk") "stop") fd ["self", "count"] (spF K 2 fn_Disk_stop) :=
  fn_okG F sc_Disk_stop rfl rfl fun cdv A outer s H E B tk => (css_cons (cs_if (cw_t (cw_and (ct_cmp op_notN lk_isn (ce_var 1) ce_non (nomark _)) (cw_and1 (ct_not (cw_t (cw_and (ct_tru (cx_call (ok_is_whole c) (B.mono (by decide)) tk (ff_glo c.X c.G (c.c.fact 51)) (ca_cons (ce_var 1) ca_nil))) (cw_and1 (ct_cmp opx_ge lk_ge (ce_var 1) ce_int (nomark _))))))))) (css_one cs_dead) css_nil) (css_one (cs_fld ["Disk"] (aCons (ff_fld (c.c.fact 26) (c.c.fact 40)) aNil) (ce_var 0) (ce_var 1))))
theorem ok_Disk_stop (c : Ct K mg base) : OkF P w K mg base 2 (He.ma K (He.ga K "Disk") "stop") ["self", "count"] (spF K 2 fn_Disk_stop) := okF_of (c.c.def_ 13 (d := d_Disk_stop) rfl) (fg_Disk_stop c) (fun _ _ _ _ _ _ us hl => match us, hl with | [_, _], _ => rfl)
def fn__law_stopped : Fn := defF 0 ((seqS (asgS (fVar 2) (gSubG (fVar 1) (pureF (.int 4)))) (retS (fOp isD (fMeth 2 "Disk" "stop" fn_Disk_stop (fVar 0) (fCons (fVar 2) (pureF []))) (pureF .non)))))
theorem fg__law_stopped (c : Ct K mg base) (fd : FuncData) (F : FunD K "_law_stopped" "_law_stopped" (defArgs st__law_stopped) (defBody st__law_stopped) (defScope st__law_stopped) [] [] (He.ga K "_law_stopped") fd) : FnG P w K mg base 3 (He.ga K "_law_stopped") fd ["disk", "state", "count"] (spF K 3 fn__law_stopped) :=
  fn_okG F sc__law_stopped rfl rfl fun cdv A outer s H E B tk => (css_cons (cs_asg (ce_var 2) (cg_sub (fun _ => (ce_var 1)) (fun _ => ce_int))) (css_one (cs_ret (ce_cmp op_isN lk_is (cx_meth (ff_cls (c.c.fact 26)) (ff_meth (c.c.fact 53)) (ok_Disk_stop c) (B.mono (by decide)) tk (ce_var 0) (ca_cons (ce_var 2) ca_nil)) ce_non (nomark _)))))
theorem ok__law_stopped (c : Ct K mg base) : OkF P w K mg base 3 (He.ga K "_law_stopped") ["disk", "state", "count"] (spF K 3 fn__law_stopped) := okF_of (c.c.def_ 14 (d := d__law_stopped) rfl) (fg__law_stopped c) (fun _ _ _ _ _ _ us hl => match us, hl with | [_, _, _], _ => rfl)
def fn__law_take : Fn := defF 2 ((seqS (ifS (fAnd (fTru (fOp getD (fVar 0) (pureF (.int 1)))) (fTest (fOp gtD (fOp getD (fVar 0) (pureF (.int 0))) (pureF (.int 0))))) (seqS (asgS (fOp modD (fCB int1D (fCons (fOp getD (fVar 0) (pureF (.int 0))) (pureF []))) (fVar 1)) (gSet 2)) (seqS (asgS (fOp fdivD (fOp getD (fVar 0) (pureF (.int 0))) (fVar 1)) (gSubG (fVar 0) (pureF (.int 0)))) (retS (fVar 2)))) fNx) (seqS (asgS (fOp addD (fOp getD (fVar 0) (pureF (.int 3))) (pureF (.int 1))) (gSubG (fVar 0) (pureF (.int 3)))) (seqS (asgS (fOp modD (fCB int1D (fCons (fOp powD (fOp addD (fOp addD (fOp getD (fVar 0) (pureF (.int 2))) (fOp mulD (pureF (.int 15485863)) (fOp getD (fVar 0) (pureF (.int 3))))) (pureF (.int 179424673))) (pureF (.int 5))) (pureF []))) (pureF (.int 2147483647))) (gSet 3)) (retS (fOp modD (fOp fdivD (fOp modD (fCB int1D (fCons (fOp powD (fOp addD (fOp mulD (fVar 3) (pureF (.int 48271))) (fOp mulD (pureF (.int 104729)) (fOp getD (fVar 0) (pureF (.int 3))))) (pureF (.int 3))) (pureF []))) (pureF (.int 2147483587))) (pureF (.int 64))) (fVar 1)))))))
theorem fg__law_take (c : Ct K mg base) (fd : FuncData) (F : FunD K "_law_take" "_law_take" (defArgs st__law_take) (defBody st__law_take) (defScope st__law_take) [] [] (He.ga K "_law_take") fd) : FnG P w K mg base 1 (He.ga K "_law_take") fd ["box", "many"] (spF K 2 fn__law_take) :=
  fn_okG F sc__law_take rfl rfl fun cdv A outer s H E B tk => (css_cons (cs_if (cw_t (cw_and (ct_tru (ce_ix (ce_var 0) ce_int)) (cw_and1 (ct_cmp opx_gt lk_gt (ce_ix (ce_var 0) ce_int) ce_int (nomark _))))) (css_cons (cs_asg (ce_bin op_mod lk_mod (ce_ct call_int1 lk_int1 (ff_free c.X c.G (c.c.fact 9)) bty_int (ca_cons (ce_ix (ce_var 0) ce_int) ca_nil)) (ce_var 1)) (cg_name 2 sc__law_take.nd)) (css_cons (cs_asg (ce_bin op_fdiv lk_fdiv (ce_ix (ce_var 0) ce_int) (ce_var 1)) (cg_sub (fun _ => (ce_var 0)) (fun _ => ce_int))) (css_one (cs_ret (ce_var 2))))) css_nil) (css_cons (cs_asg (ce_bin opx_add lk_add (ce_ix (ce_var 0) ce_int) ce_int) (cg_sub (fun _ => (ce_var 0)) (fun _ => ce_int))) (css_cons (cs_asg (ce_bin op_mod lk_mod (ce_ct call_int1 lk_int1 (ff_free c.X c.G (c.c.fact 9)) bty_int (ca_cons (ce_bin op_pow lk_pow (ce_bin opx_add lk_add (ce_bin opx_add lk_add (ce_ix (ce_var 0) ce_int) (ce_bin opx_mul lk_mul ce_int (ce_ix (ce_var 0) ce_int))) ce_int) ce_int) ca_nil)) ce_int) (cg_name 3 sc__law_take.nd)) (css_one (cs_ret (ce_bin op_mod lk_mod (ce_bin op_fdiv lk_fdiv (ce_bin op_mod lk_mod (ce_ct call_int1 lk_int1 (ff_free c.X c.G (c.c.fact 9)) bty_int (ca_cons (ce_bin op_pow lk_pow (ce_bin opx_add lk_add (ce_bin opx_mul lk_mul (ce_var 3) ce_int) (ce_bin opx_mul lk_mul ce_int (ce_ix (ce_var 0) ce_int))) ce_int) ca_nil)) ce_int) ce_int) (ce_var 1)))))))
theorem ok__law_take (c : Ct K mg base) : OkF P w K mg base 1 (He.ga K "_law_take") ["box", "many"] (spF K 2 fn__law_take) := okF_of (c.c.def_ 15 (d := d__law_take) rfl) (fg__law_take c) (fun _ _ _ _ _ _ us hl => match us, hl with | [_, _], _ => rfl)
def fn__law_text : Fn := defF 2 ((seqS (asgS (pureF (.str " !#$&'()*+,-./0123456789:;<=>?@ABCDEFGHIJKLMNOPQRSTUVWXYZ[]^_abcdefghijklmnopqrstuvwxyz{|}~")) (gSet 1)) (retS (fJoin (pureF (.str "")) (fLc (fRng1 (fCons (fCall 2 fn__law_take (fCons (fVar 0) (fCons (pureF (.int 7)) (pureF [])))) (pureF []))) [2] (gSet 2) (pureF true) (fOp getD (fVar 1) (fCall 2 fn__law_take (fCons (fVar 0) (fCons (pureF (.int 91)) (pureF []))))))))))
theorem fg__law_text (c : Ct K mg base) (fd : FuncData) (F : FunD K "_law_text" "_law_text" (defArgs st__law_text) (defBody st__law_text) (defScope st__law_text) [] [] (He.ga K "_law_text") fd) : FnG P w K mg base 2 (He.ga K "_law_text") fd ["box"] (spF K 1 fn__law_text) :=
  fn_okG F sc__law_text rfl rfl fun cdv A outer s H E B tk => (css_cons (cs_asg ce_str (cg_name 1 sc__law_text.nd)) (css_one (cs_ret (ce_join ce_str (ce_lc [("k", 2)] rfl sc__law_text.nd (blk_of (by rfl)) (ci_rng1 (ff_free c.X c.G (c.c.fact 6)) (ca_cons (cx_call (ok__law_take c) (B.mono (by decide)) tk (ff_glo c.X c.G (c.c.fact 15)) (ca_cons (ce_var 0) (ca_cons ce_int ca_nil))) ca_nil)) (fun s H C cl fp => (cgv_name 2 sc__law_text.nd)) (fun s H C cl fp => cts_nil) (fun s H C cl fp => (ce_ix (ce_var 1) (cx_call (ok__law_take c) (B.blk.mono (by decide)) tk0 (ff_glo c.X c.G (c.c.fact 15)) (ca_cons (ce_var 0) (ca_cons ce_int ca_nil))))))))))
theorem ok__law_text (c : Ct K mg base) : OkF P w K mg base 2 (He.ga K "_law_text") ["box"] (spF K 1 fn__law_text) := okF_of (c.c.def_ 16 (d := d__law_text) rfl) (fg__law_text c) (fun _ _ _ _ _ _ us hl => match us, hl with | [_], _ => rfl)
def fn_is_page_text : Fn := defF 1 ((retS (fAndV (fIsi ["Disk"] [(.b .str)] (fVar 0)) (fAndV (fOp leD (fCB lenD (fCons (fVar 0) (pureF []))) (fVar 1)) (fCB allD (fCons (lcA (fVar 0) [2] (gSet 2) (pureF true) (fChain leD leD (pureF (.str " ")) (fVar 2) (pureF (.str "~")))) (pureF [])))))))
theorem fg_is_page_text (c : Ct K mg base) (fd : FuncData) (F : FunD K "is_page_text" "is_page_text" (defArgs st_is_page_text) (defBody st_is_page_text) (defScope st_is_page_text) [] [] (He.ga K "is_page_text") fd) : FnG P w K mg base 1 (He.ga K "is_page_text") fd ["value", "width"] (spF K 2 fn_is_page_text) :=
  fn_okG F sc_is_page_text rfl rfl fun cdv A outer s H E B tk => (css_one (cs_ret (ce_and (ce_isi (.b .str) (ff_own (c.c.fact 48)) (ff_free c.X c.G (c.c.fact 30)) (ce_var 0) (pe_bt .str rfl (ff_free c.X c.G (c.c.fact 56)) bty_str)) (ce_and (ce_cmp opx_le lk_le (ce_cb cx_len lk_len (ff_free c.X c.G (c.c.fact 3)) bbi_len (ca_cons (ce_var 0) ca_nil)) (ce_var 1) (nomark _)) (ce_one (ce_cb (cr_all rfl) lk_all (ff_free c.X c.G (c.c.fact 12)) bbi_all (ca_cons (ce_lcA [("sign", 2)] rfl sc_is_page_text.nd (blk_of (by rfl)) (ce_var 0) (fun s H C cl fp => (cgv_name 2 sc_is_page_text.nd)) (fun s H C cl fp => cts_nil) (fun s H C cl fp => (ce_chain opx_le lk_le opx_le lk_le ce_str (ce_var 2) ce_str))) ca_nil)))))))
theorem ok_is_page_text (c : Ct K mg base) : OkF P w K mg base 1 (He.ga K "is_page_text") ["value", "width"] (spF K 2 fn_is_page_text) := okF_of (c.c.def_ 17 (d := d_is_page_text) rfl) (fg_is_page_text c) (fun _ _ _ _ _ _ us hl => match us, hl with | [_, _], _ => rfl)
def fn_Disk_write : Fn := defF 0 ((seqS (dropS (fMeth 2 "Disk" "check_page" fn_Disk_check_page (fVar 0) (fCons (fVar 1) (pureF [])))) (seqS (ifS (fNot (fTru (fCall 2 fn_is_page_text (fCons (fVar 2) (fCons (fFld ["Disk"] "width" (fVar 0)) (pureF [])))))) sDead fNx) (seqS (dropS (fMeth 1 "Disk" "spend" fn_Disk_spend (fVar 0) (pureF []))) (seqS (asgS (fVar 2) (gSubG (fFld ["Disk"] "texts" (fVar 0)) (fVar 1))) (dropS (fMt appO (fFld ["Disk"] "writes" (fVar 0)) (fCons (fTup (fCons (fVar 1) (fCons (fVar 2) (pureF [])))) (pureF [])))))))))
theorem fg_Disk_write (c : Ct K mg base) (fd : FuncData) (F : FunD K "write" "Disk.write" (defArgs st_Disk_write) (defBody st_Disk_write) (defScope st_Disk_write) [] [] (He.ma K (He.ga K "Disk") "write") fd) : FnG P w K mg base 4 (He.ma K (He.ga K "Disk") "write") fd ["self", "page", "text"] (spF K 3 fn_Disk_write) :=
  fn_okG F sc_Disk_write rfl rfl fun cdv A outer s H E B tk => (css_cons (cs_expr (cx_meth (ff_cls (c.c.fact 26)) (ff_meth (c.c.fact 49)) (ok_Disk_check_page c) (B.mono (by decide)) tk (ce_var 0) (ca_cons (ce_var 1) ca_nil))) (css_cons (cs_if (ct_not (ct_tru (cx_call (ok_is_page_text c) (B.mono (by decide)) tk (ff_glo c.X c.G (c.c.fact 55)) (ca_cons (ce_var 2) (ca_cons (ce_fld ["Disk"] (aCons (ff_fld (c.c.fact 26) (c.c.fact 46)) aNil) (ce_var 0)) ca_nil))))) (css_one cs_dead) css_nil) (css_cons (cs_expr (cx_meth0 (ff_cls (c.c.fact 26)) (ff_meth (c.c.fact 39)) (ok_Disk_spend c) (B.mono (by decide)) tk (ce_var 0))) (css_cons (cs_asg (ce_var 2) (cg_sub (fun _ => (ce_fld ["Disk"] (aCons (ff_fld (c.c.fact 26) (c.c.fact 37)) aNil) (ce_var 0))) (fun _ => (ce_var 1)))) (css_one (cs_expr (ce_mt PySem.F.slot_list_append PySem.F.type_list_append mt_append lk_app (ce_fld ["Disk"] (aCons (ff_fld (c.c.fact 26) (c.c.fact 36)) aNil) (ce_var 0)) (ca_cons (ce_tup (ca_cons (ce_var 1) (ca_cons (ce_var 2) ca_nil))) ca_nil))))))))
theorem ok_Disk_write (c : Ct K mg base) : OkF P w K mg base 4 (He.ma K (He.ga K "Disk") "write") ["self", "page", "text"] (spF K 3 fn_Disk_write) := okF_of (c.c.def_ 18 (d := d_Disk_write) rfl) (fg_Disk_write c) (fun _ _ _ _ _ _ us hl => match us, hl with | [_, _, _], _ => rfl)
def fn__law_wrote : Fn := defF 2 ((seqS (asgS (fOp neD (fOp getD (fVar 1) (pureF (.int 4))) (pureF (.int 0))) (gSet 4)) (seqS (ifS (fTru (fVar 4)) (seqS (dropS (fMt appO (fOp getD (fVar 1) (pureF (.int 3))) (fCons (fTup (fCons (fVar 2) (fCons (fVar 3) (pureF [])))) (pureF [])))) (asgS (fIf (fTest (fOp isD (fOp getD (fVar 1) (pureF (.int 4))) (pureF .non))) (pureF .non) (fOp subD (fOp getD (fVar 1) (pureF (.int 4))) (pureF (.int 1)))) (gSubG (fVar 1) (pureF (.int 4))))) fNx) (tryS (retS (fAndV (fOp isD (fMeth 3 "Disk" "write" fn_Disk_write (fVar 0) (fCons (fVar 2) (fCons (fVar 3) (pureF [])))) (pureF .non)) (fVar 4))) [⟨[("PowerCut", true), ("InvalidDone", false)], (some 5), fun c' p' => (retS (fAndV (fIsE 5 [("PowerCut", true)] c') (fNotV (fVar 4))))⟩]))))
theorem fg__law_wrote (c : Ct K mg base) (fd : FuncData) (F : FunD K "_law_wrote" "_law_wrote" (defArgs st__law_wrote) (defBody st__law_wrote) (defScope st__law_wrote) [] [] (He.ga K "_law_wrote") fd) : FnG P w K mg base 5 (He.ga K "_law_wrote") fd ["disk", "state", "page", "text"] (spF K 4 fn__law_wrote) :=
  fn_okG F sc__law_wrote rfl rfl fun cdv A outer s H E B tk => (css_cons (cs_asg (ce_cmp (opx_ne B.rpr.u64) lk_ne (ce_ix (ce_var 1) ce_int) ce_int (nomark _)) (cg_name 4 sc__law_wrote.nd)) (css_cons (cs_if (ct_tru (ce_var 4)) (css_cons (cs_expr (ce_mt PySem.F.slot_list_append PySem.F.type_list_append mt_append lk_app (ce_ix (ce_var 1) ce_int) (ca_cons (ce_tup (ca_cons (ce_var 2) (ca_cons (ce_var 3) ca_nil))) ca_nil))) (css_one (cs_asg (ce_if (ct_cmp op_isN lk_is (ce_ix (ce_var 1) ce_int) ce_non (nomark _)) ce_non (ce_bin op_sub lk_sub (ce_ix (ce_var 1) ce_int) ce_int)) (cg_sub (fun _ => (ce_var 1)) (fun _ => ce_int))))) css_nil) (css_one (cs_try rfl rfl sc__law_wrote.nd tk (fun w' pn xe tk' hp' => (css_one (cs_ret (ce_and (ce_cmp op_isN lk_is (cx_meth (ff_cls (c.c.fact 26)) (ff_meth (c.c.fact 54)) (ok_Disk_write c) (B.tr.mono (by decide)) tk' (ce_var 0) (ca_cons (ce_var 2) (ca_cons (ce_var 3) ca_nil))) ce_non (nomark _)) (ce_one (ce_var 4)))))) (.cons (hd := ⟨[("PowerCut", true), ("InvalidDone", false)], (some 5), fun c' p' => (retS (fAndV (fIsE 5 [("PowerCut", true)] c') (fNotV (fVar 4))))⟩) ⟨rfl, by decide, .inl (ff_glo c.X c.G (c.c.fact 34))⟩ (aCons (ff_exm (c.c.fact 32)) (aCons (ff_exm (c.c.fact 33)) aNil)) ⟨rfl, rfl⟩ (fun a oe c' p' d pn hz hf => (css_one (cs_ret (ce_and (ce_isE 5 [("PowerCut", true)] "EarlierError" (aCons ⟨ff_xc (c.c.fact 28), ff_kit (c.c.fact 29)⟩ aNil) (ff_free c.X c.G (c.c.fact 30)) (ff_glo c.X c.G (c.c.fact 31)) hz hf) (ce_one (ce_not (ce_var 4))))))) .nil)))))
theorem ok__law_wrote (c : Ct K mg base) : OkF P w K mg base 5 (He.ga K "_law_wrote") ["disk", "state", "page", "text"] (spF K 4 fn__law_wrote) := okF_of (c.c.def_ 19 (d := d__law_wrote) rfl) (fg__law_wrote c) (fun _ _ _ _ _ _ us hl => match us, hl with | [_, _, _, _], _ => rfl)
def fn__law_grown : Fn := defF 3 ((seqS (asgS (fLc (fRng1 (fCons (pureF (.int 3)) (pureF []))) [5] (gSet 5) (pureF true) (fCall 2 fn__law_take (fCons (fVar 0) (fCons (fOp getD (fVar 2) (pureF (.int 0))) (pureF []))))) (gSet 3)) (seqS (ifS (fAnd (fTest (fOp eqA (fCall 2 fn__law_take (fCons (fVar 0) (fCons (pureF (.int 3)) (pureF [])))) (pureF (.int 0)))) (fNot (fTru (fCall 3 fn__law_stopped (fCons (fVar 1) (fCons (fVar 2) (fCons (fOp addD (pureF (.int 1)) (fCall 2 fn__law_take (fCons (fVar 0) (fCons (pureF (.int 6)) (pureF []))))) (pureF [])))))))) (retS (pureF (.bl false))) fNx) (seqS (forS (fRng1 (fCons (fOp addD (pureF (.int 1)) (fCall 2 fn__law_take (fCons (fVar 0) (fCons (pureF (.int 9)) (pureF []))))) (pureF []))) (gSet 4) (seqS (ifS (fAnd (fTest (fOp eqA (fCall 2 fn__law_take (fCons (fVar 0) (fCons (pureF (.int 9)) (pureF [])))) (pureF (.int 0)))) (fNot (fTru (fCall 2 fn__law_settled (fCons (fVar 1) (fCons (fVar 2) (pureF []))))))) (retS (pureF (.bl false))) fNx) (ifS (fNot (fTru (fCall 4 fn__law_wrote (fCons (fVar 1) (fCons (fVar 2) (fCons (fOp getD (fVar 3) (fCall 2 fn__law_take (fCons (fVar 0) (fCons (pureF (.int 3)) (pureF []))))) (fCons (fCall 1 fn__law_text (fCons (fVar 0) (pureF []))) (pureF [])))))))) (retS (pureF (.bl false))) fNx))) (retS (fCall 2 fn__law_state_right (fCons (fVar 1) (fCons (fVar 2) (pureF [])))))))))
theorem fg__law_grown (c : Ct K mg base) (fd : FuncData) (F : FunD K "_law_grown" "_law_grown" (defArgs st__law_grown) (defBody st__law_grown) (defScope st__law_grown) [] [] (He.ga K "_law_grown") fd) : FnG P w K mg base 6 (He.ga K "_law_grown") fd ["box", "disk", "state"] (spF K 3 fn__law_grown) :=
  fn_okG F sc__law_grown rfl rfl fun cdv A outer s H E B tk => (css_cons (cs_setLc 3 [("k", 5)] rfl sc__law_grown.nd (blk_of (by rfl)) (ci_rng1 (ff_free c.X c.G (c.c.fact 6)) (ca_cons ce_int ca_nil)) (fun s H C cl fp => (cgv_name 5 sc__law_grown.nd)) (fun s H C cl fp => cts_nil) (fun s H C cl fp => (cx_call (ok__law_take c) (B.blk.mono (by decide)) tk0 (ff_glo c.X c.G (c.c.fact 15)) (ca_cons (ce_var 0) (ca_cons (ce_ix (ce_var 2) ce_int) ca_nil)))) rfl) (css_cons (cs_if (cw_t (cw_and (ct_cmp (opx_eqA B.rpr.u64) lk_eqA (cx_call (ok__law_take c) (B.mono (by decide)) tk (ff_glo c.X c.G (c.c.fact 15)) (ca_cons (ce_var 0) (ca_cons ce_int ca_nil))) ce_int (nomark _)) (cw_and1 (ct_not (ct_tru (cx_call (ok__law_stopped c) (B.mono (by decide)) tk (ff_glo c.X c.G (c.c.fact 18)) (ca_cons (ce_var 1) (ca_cons (ce_var 2) (ca_cons (ce_bin opx_add lk_add ce_int (cx_call (ok__law_take c) (B.mono (by decide)) tk (ff_glo c.X c.G (c.c.fact 15)) (ca_cons (ce_var 0) (ca_cons ce_int ca_nil)))) ca_nil))))))))) (css_one (cs_ret ce_bl)) css_nil) (css_cons (cs_for (passes_of rfl) rfl (ci_rng1 (ff_free c.X c.G (c.c.fact 6)) (ca_cons (ce_bin opx_add lk_add ce_int (cx_call (ok__law_take c) (B.mono (by decide)) tk (ff_glo c.X c.G (c.c.fact 15)) (ca_cons (ce_var 0) (ca_cons ce_int ca_nil)))) ca_nil)) (cg_name 4 sc__law_grown.nd) (css_cons (cs_if (cw_t (cw_and (ct_cmp (opx_eqA B.rpr.u64) lk_eqA (cx_call (ok__law_take c) (B.mono (by decide)) tk (ff_glo c.X c.G (c.c.fact 15)) (ca_cons (ce_var 0) (ca_cons ce_int ca_nil))) ce_int (nomark _)) (cw_and1 (ct_not (ct_tru (cx_call (ok__law_settled c) (B.mono (by decide)) tk (ff_glo c.X c.G (c.c.fact 14)) (ca_cons (ce_var 1) (ca_cons (ce_var 2) ca_nil)))))))) (css_one (cs_ret ce_bl)) css_nil) (css_one (cs_if (ct_not (ct_tru (cx_call (ok__law_wrote c) (B.mono (by decide)) tk (ff_glo c.X c.G (c.c.fact 17)) (ca_cons (ce_var 1) (ca_cons (ce_var 2) (ca_cons (ce_ix (ce_var 3) (cx_call (ok__law_take c) (B.mono (by decide)) tk (ff_glo c.X c.G (c.c.fact 15)) (ca_cons (ce_var 0) (ca_cons ce_int ca_nil)))) (ca_cons (cx_call (ok__law_text c) (B.mono (by decide)) tk (ff_glo c.X c.G (c.c.fact 25)) (ca_cons (ce_var 0) ca_nil)) ca_nil))))))) (css_one (cs_ret ce_bl)) css_nil)))) (css_one (cs_ret (cx_call (ok__law_state_right c) (B.mono (by decide)) tk (ff_glo c.X c.G (c.c.fact 11)) (ca_cons (ce_var 1) (ca_cons (ce_var 2) ca_nil))))))))
theorem ok__law_grown (c : Ct K mg base) : OkF P w K mg base 6 (He.ga K "_law_grown") ["box", "disk", "state"] (spF K 3 fn__law_grown) := okF_of (c.c.def_ 20 (d := d__law_grown) rfl) (fg__law_grown c) (fun _ _ _ _ _ _ us hl => match us, hl with | [_, _, _], _ => rfl)
def fn__law_lists : Fn := defF 5 ((seqS (ifS (fTest (fOp gtD (fVar 1) (pureF (.int 4)))) (seqS (asgS (fLc (fRng1 (fCons (pureF (.int 5)) (pureF []))) [5] (gSet 5) (pureF true) (fLc (fRng1 (fCons (fVar 1) (pureF []))) [4] (gSet 4) (fTest (fOp eqA (fCall 2 fn__law_take (fCons (fVar 0) (fCons (pureF (.int 2)) (pureF [])))) (pureF (.int 0)))) (fVar 4))) (gSet 2)) (retS (fOp addD (fLst (fCons (fLst (pureF [])) (fCons (fLstRg (fVar 1)) (fCons (fLst (fCons (fOp subD (fVar 1) (pureF (.int 1))) (pureF []))) (pureF []))))) (fVar 2)))) fNx) (seqS (asgS (fLst (fCons (fLst (pureF [])) (pureF []))) (gSet 3)) (seqS (forS (fRng1 (fCons (fVar 1) (pureF []))) (gSet 4) (asgS (fOp addD (fVar 3) (lcA (fVar 3) [6] (gSet 6) (pureF true) (fOp addD (fVar 6) (fLst (fCons (fVar 4) (pureF [])))))) (gSet 3))) (retS (fVar 3))))))
theorem fg__law_lists (c : Ct K mg base) (fd : FuncData) (F : FunD K "_law_lists" "_law_lists" (defArgs st__law_lists) (defBody st__law_lists) (defScope st__law_lists) [] [] (He.ga K "_law_lists") fd) : FnG P w K mg base 2 (He.ga K "_law_lists") fd ["box", "many"] (spF K 2 fn__law_lists) :=
  fn_okG F sc__law_lists rfl rfl fun cdv A outer s H E B tk => (css_cons (cs_if (ct_cmp opx_gt lk_gt (ce_var 1) ce_int (nomark _)) (css_cons (cs_setLc 2 [("k", 5)] rfl sc__law_lists.nd (blk_of (by rfl)) (ci_rng1 (ff_free c.X c.G (c.c.fact 6)) (ca_cons ce_int ca_nil)) (fun s H C cl fp => (cgv_name 5 sc__law_lists.nd)) (fun s H C cl fp => cts_nil) (fun s H C cl fp => (ce_lc [("at", 4)] rfl sc__law_lists.nd (blk_of (by rfl)) (ci_rng1 (ff_free c.X c.G (c.c.fact 6)) (ca_cons (ce_var 1) ca_nil)) (fun s H C cl fp => (cgv_name 4 sc__law_lists.nd)) (fun s H C cl fp => (cts_one (ct_cmp (opx_eqA B.blk.blk.rpr.u64) lk_eqA (cx_call (ok__law_take c) (B.blk.blk.mono (by decide)) tk0 (ff_glo c.X c.G (c.c.fact 15)) (ca_cons (ce_var 0) (ca_cons ce_int ca_nil))) ce_int (nomark _)))) (fun s H C cl fp => (ce_var 4)))) rfl) (css_one (cs_ret (ce_bin opx_add lk_add (ce_lst (ca_cons (ce_lst ca_nil) (ca_cons (ce_lstRg rfl (ff_free c.X c.G (c.c.fact 16)) (ff_free c.X c.G (c.c.fact 6)) (ce_var 1)) (ca_cons (ce_lst (ca_cons (ce_bin op_sub lk_sub (ce_var 1) ce_int) ca_nil)) ca_nil)))) (ce_var 2))))) css_nil) (css_cons (cs_asg (ce_lst (ca_cons (ce_lst ca_nil) ca_nil)) (cg_name 3 sc__law_lists.nd)) (css_cons (cs_for (passes_of rfl) rfl (ci_rng1 (ff_free c.X c.G (c.c.fact 6)) (ca_cons (ce_var 1) ca_nil)) (cg_name 4 sc__law_lists.nd) (css_one (cs_asg (ce_bin opx_add lk_add (ce_var 3) (ce_lcA [("done", 6)] rfl sc__law_lists.nd (blk_of (by rfl)) (ce_var 3) (fun s H C cl fp => (cgv_name 6 sc__law_lists.nd)) (fun s H C cl fp => cts_nil) (fun s H C cl fp => (ce_bin opx_add lk_add (ce_var 6) (ce_lst (ca_cons (ce_var 4) ca_nil)))))) (cg_name 3 sc__law_lists.nd)))) (css_one (cs_ret (ce_var 3))))))
theorem ok__law_lists (c : Ct K mg base) : OkF P w K mg base 2 (He.ga K "_law_lists") ["box", "many"] (spF K 2 fn__law_lists) := okF_of (c.c.def_ 21 (d := d__law_lists) rfl) (fg__law_lists c) (fun _ _ _ _ _ _ us hl => match us, hl with | [_, _], _ => rfl)
def fn__law_new : Fn := defF 0 ((retS (fLstO (fCons (fVar 0) (fCons (fVar 1) (fCons (fOpO RepO (fLst (fCons (pureF (.str "")) (pureF []))) (fVar 0)) (fCons (fLstO (pureF [])) (fCons (pureF .non) (pureF [])))))))))
theorem fg__law_new (c : Ct K mg base) (fd : FuncData) (F : FunD K "_law_new" "_law_new" (defArgs st__law_new) (defBody st__law_new) (defScope st__law_new) [] [] (He.ga K "_law_new") fd) : FnG P w K mg base 1 (He.ga K "_law_new") fd ["pages", "width"] (spF K 2 fn__law_new) :=
  fn_okG F sc__law_new rfl rfl fun cdv A outer s H E B tk => (css_one (cs_ret (ce_lstO (ca_cons (ce_var 0) (ca_cons (ce_var 1) (ca_cons (ce_repO (ce_lst (ca_cons ce_str ca_nil)) (ce_var 0)) (ca_cons (ce_lstO ca_nil) (ca_cons ce_non ca_nil))))))))
theorem ok__law_new (c : Ct K mg base) : OkF P w K mg base 1 (He.ga K "_law_new") ["pages", "width"] (spF K 2 fn__law_new) := okF_of (c.c.def_ 22 (d := d__law_new) rfl) (fg__law_new c) (fun _ _ _ _ _ _ us hl => match us, hl with | [_, _], _ => rfl)
theorem ok_InvalidDone (c : Ct K mg base) : OkF P w K mg base 1 (He.ma K (He.ga K "InvalidDone") "__init__") ["self", "given"] (spI K "given") :=
  okF_of (c.c.def_ 23 (d := d_InvalidDone) rfl) (fun fd F => fn_okH (t := fun _ => tSeq (tDrop (tEeI K (tCons (tVar 0) (tCons (tC (.str _)) tNil)))) (tOst1 K "given" (tVar 0) (tVar 1))) F sc_InvalidDone (fun vs H Q E h => by obtain ⟨_, _, _, rfl, _⟩ := h; rfl) (fun cdv A outer s H E B tk => pss_cons (ps_expr (pe_eeinit (ff_eb (c.c.fact 42)) rfl (ff_glo c.X c.G (c.c.fact 31)) (pa_cons (pv 0) (pa_cons pe_str pa_nil)))) (pss_one (ps_ost1 (pv 0) (pv 1)))) (fun vs H Q E h => spI_t rfl h)) (fun _ _ _ _ _ _ us hl => match us, hl with | [_, _], _ => rfl)
def fn_are_unlike : Fn := defF 0 ((retS (fOp eqA (fUn lenSetD (fVar 0)) (fCB lenD (fCons (fVar 0) (pureF []))))))
theorem fg_are_unlike (c : Ct K mg base) (fd : FuncData) (F : FunD K "are_unlike" "are_unlike" (defArgs st_are_unlike) (defBody st_are_unlike) (defScope st_are_unlike) [] [] (He.ga K "are_unlike") fd) : FnG P w K mg base 1 (He.ga K "are_unlike") fd ["items"] (spF K 1 fn_are_unlike) :=
  fn_okG F sc_are_unlike rfl rfl fun cdv A outer s H E B tk => (css_one (cs_ret (ce_cmp (opx_eqA B.rpr.u64) lk_eqA (ce_lenSet (ff_free c.X c.G (c.c.fact 3)) (ff_free c.X c.G (c.c.fact 75)) (ce_var 0)) (ce_cb cx_len lk_len (ff_free c.X c.G (c.c.fact 3)) bbi_len (ca_cons (ce_var 0) ca_nil)) (nomark _))))
theorem ok_are_unlike (c : Ct K mg base) : OkF P w K mg base 1 (He.ga K "are_unlike") ["items"] (spF K 1 fn_are_unlike) := okF_of (c.c.def_ 24 (d := d_are_unlike) rfl) (fg_are_unlike c) (fun _ _ _ _ _ _ us hl => match us, hl with | [_], _ => rfl)
def fn_is_listed : Fn := defF 0 ((retS (fIsi ["Disk"] [(.b .list), (.b .tuple)] (fVar 0))))
theorem fg_is_listed (c : Ct K mg base) (fd : FuncData) (F : FunD K "is_listed" "is_listed" (defArgs st_is_listed) (defBody st_is_listed) (defScope st_is_listed) [] [] (He.ga K "is_listed") fd) : FnG P w K mg base 1 (He.ga K "is_listed") fd ["value"] (spF K 1 fn_is_listed) :=
  fn_okG F sc_is_listed rfl rfl fun cdv A outer s H E B tk => (css_one (cs_ret (ce_isi2 (.b .list) (.b .tuple) (ff_own (c.c.fact 48)) (ff_free c.X c.G (c.c.fact 30)) (ce_var 0) (pe_bt .list rfl (ff_free c.X c.G (c.c.fact 16)) bty_list) (pe_bt .tuple rfl (ff_free c.X c.G (c.c.fact 58)) bty_tuple))))
theorem ok_is_listed (c : Ct K mg base) : OkF P w K mg base 1 (He.ga K "is_listed") ["value"] (spF K 1 fn_is_listed) := okF_of (c.c.def_ 25 (d := d_is_listed) rfl) (fg_is_listed c) (fun _ _ _ _ _ _ us hl => match us, hl with | [_], _ => rfl)
def fn_are_indices : Fn := defF 1 ((retS (fAndV (fCall 1 fn_is_listed (fCons (fVar 0) (pureF []))) (fAndV (fCB allD (fCons (lcA (fVar 0) [2] (gSet 2) (pureF true) (fCall 2 fn_is_index (fCons (fVar 2) (fCons (fVar 1) (pureF []))))) (pureF []))) (fCall 1 fn_are_unlike (fCons (fVar 0) (pureF [])))))))
theorem fg_are_indices (c : Ct K mg base) (fd : FuncData) (F : FunD K "are_indices" "are_indices" (defArgs st_are_indices) (defBody st_are_indices) (defScope st_are_indices) [] [] (He.ga K "are_indices") fd) : FnG P w K mg base 3 (He.ga K "are_indices") fd ["value", "many"] (spF K 2 fn_are_indices) :=
  fn_okG F sc_are_indices rfl rfl fun cdv A outer s H E B tk => (css_one (cs_ret (ce_and (cx_call (ok_is_listed c) (B.mono (by decide)) tk (ff_glo c.X c.G (c.c.fact 74)) (ca_cons (ce_var 0) ca_nil)) (ce_and (ce_cb (cr_all rfl) lk_all (ff_free c.X c.G (c.c.fact 12)) bbi_all (ca_cons (ce_lcA [("item", 2)] rfl sc_are_indices.nd (blk_of (by rfl)) (ce_var 0) (fun s H C cl fp => (cgv_name 2 sc_are_indices.nd)) (fun s H C cl fp => cts_nil) (fun s H C cl fp => (cx_call (ok_is_index c) (B.blk.mono (by decide)) tk0 (ff_glo c.X c.G (c.c.fact 50)) (ca_cons (ce_var 2) (ca_cons (ce_var 1) ca_nil))))) ca_nil)) (ce_one (cx_call (ok_are_unlike c) (B.mono (by decide)) tk (ff_glo c.X c.G (c.c.fact 73)) (ca_cons (ce_var 0) ca_nil)))))))
theorem ok_are_indices (c : Ct K mg base) : OkF P w K mg base 3 (He.ga K "are_indices") ["value", "many"] (spF K 2 fn_are_indices) := okF_of (c.c.def_ 26 (d := d_are_indices) rfl) (fg_are_indices c) (fun _ _ _ _ _ _ us hl => match us, hl with | [_, _], _ => rfl)
def fn_ascend : Fn := defF 1 ((retS (fCB allD (fCons (fLc (fRng2 (fCons (pureF (.int 1)) (fCons (fCB lenD (fCons (fVar 0) (pureF []))) (pureF [])))) [1] (gSet 1) (pureF true) (fOp ltD (fOp getD (fVar 0) (fOp subD (fVar 1) (pureF (.int 1)))) (fOp getD (fVar 0) (fVar 1)))) (pureF [])))))
theorem fg_ascend (c : Ct K mg base) (fd : FuncData) (F : FunD K "ascend" "ascend" (defArgs st_ascend) (defBody st_ascend) (defScope st_ascend) [] [] (He.ga K "ascend") fd) : FnG P w K mg base 1 (He.ga K "ascend") fd ["items"] (spF K 1 fn_ascend) :=
  fn_okG F sc_ascend rfl rfl fun cdv A outer s H E B tk => (css_one (cs_ret (ce_cb (cr_all rfl) lk_all (ff_free c.X c.G (c.c.fact 12)) bbi_all (ca_cons (ce_lc [("at", 1)] rfl sc_ascend.nd (blk_of (by rfl)) (ci_rng2 (ff_free c.X c.G (c.c.fact 6)) (ca_cons ce_int (ca_cons (ce_cb cx_len lk_len (ff_free c.X c.G (c.c.fact 3)) bbi_len (ca_cons (ce_var 0) ca_nil)) ca_nil))) (fun s H C cl fp => (cgv_name 1 sc_ascend.nd)) (fun s H C cl fp => cts_nil) (fun s H C cl fp => (ce_cmp opx_lt lk_lt (ce_ix (ce_var 0) (ce_bin op_sub lk_sub (ce_var 1) ce_int)) (ce_ix (ce_var 0) (ce_var 1)) (nomark _)))) ca_nil))))
theorem ok_ascend (c : Ct K mg base) : OkF P w K mg base 1 (He.ga K "ascend") ["items"] (spF K 1 fn_ascend) := okF_of (c.c.def_ 27 (d := d_ascend) rfl) (fg_ascend c) (fun _ _ _ _ _ _ us hl => match us, hl with | [_], _ => rfl)
def fn_are_kept : Fn := defF 0 ((retS (fAndV (fCall 2 fn_are_indices (fCons (fVar 0) (fCons (fVar 1) (pureF [])))) (fCall 1 fn_ascend (fCons (fVar 0) (pureF []))))))
theorem fg_are_kept (c : Ct K mg base) (fd : FuncData) (F : FunD K "are_kept" "are_kept" (defArgs st_are_kept) (defBody st_are_kept) (defScope st_are_kept) [] [] (He.ga K "are_kept") fd) : FnG P w K mg base 4 (He.ga K "are_kept") fd ["value", "many"] (spF K 2 fn_are_kept) :=
  fn_okG F sc_are_kept rfl rfl fun cdv A outer s H E B tk => (css_one (cs_ret (ce_and (cx_call (ok_are_indices c) (B.mono (by decide)) tk (ff_glo c.X c.G (c.c.fact 72)) (ca_cons (ce_var 0) (ca_cons (ce_var 1) ca_nil))) (ce_one (cx_call (ok_ascend c) (B.mono (by decide)) tk (ff_glo c.X c.G (c.c.fact 71)) (ca_cons (ce_var 0) ca_nil))))))
theorem ok_are_kept (c : Ct K mg base) : OkF P w K mg base 4 (He.ga K "are_kept") ["value", "many"] (spF K 2 fn_are_kept) := okF_of (c.c.def_ 28 (d := d_are_kept) rfl) (fg_are_kept c) (fun _ _ _ _ _ _ us hl => match us, hl with | [_, _], _ => rfl)
def fn_is_from_to : Fn := defF 0 ((retS (fAndV (fCall 1 fn_is_whole (fCons (fVar 0) (pureF []))) (fChain leD leD (fVar 1) (fVar 0) (fVar 2)))))
theorem fg_is_from_to (c : Ct K mg base) (fd : FuncData) (F : FunD K "is_from_to" "is_from_to" (defArgs st_is_from_to) (defBody st_is_from_to) (defScope st_is_from_to) [] [] (He.ga K "is_from_to") fd) : FnG P w K mg base 2 (He.ga K "is_from_to") fd ["value", "low", "high"] (spF K 3 fn_is_from_to) :=
  fn_okG F sc_is_from_to rfl rfl fun cdv A outer s H E B tk => (css_one (cs_ret (ce_and (cx_call (ok_is_whole c) (B.mono (by decide)) tk (ff_glo c.X c.G (c.c.fact 51)) (ca_cons (ce_var 0) ca_nil)) (ce_one (ce_chain opx_le lk_le opx_le lk_le (ce_var 1) (ce_var 0) (ce_var 2))))))
theorem ok_is_from_to (c : Ct K mg base) : OkF P w K mg base 2 (He.ga K "is_from_to") ["value", "low", "high"] (spF K 3 fn_is_from_to) := okF_of (c.c.def_ 29 (d := d_is_from_to) rfl) (fg_is_from_to c) (fun _ _ _ _ _ _ us hl => match us, hl with | [_, _, _], _ => rfl)
def fn_Disk___init__ : Fn := defF 0 ((seqS (ifS (fNot (fTru (fCall 3 fn_is_from_to (fCons (fVar 1) (fCons (pureF (.int 3)) (fCons (pureF (.int 40)) (pureF []))))))) sDead fNx) (seqS (ifS (fNot (fTru (fCall 3 fn_is_from_to (fCons (fVar 2) (fCons (pureF (.int 20)) (fCons (pureF (.int 400)) (pureF []))))))) sDead fNx) (seqS (fldS ["Disk"] "pages" (fVar 1) (fVar 0)) (seqS (fldS ["Disk"] "width" (fVar 2) (fVar 0)) (seqS (fldS ["Disk"] "lasting" (fOpO RepO (fLst (fCons (pureF (.str "")) (pureF []))) (fVar 1)) (fVar 0)) (seqS (fldS ["Disk"] "texts" (fOpO RepO (fLst (fCons (pureF (.str "")) (pureF []))) (fVar 1)) (fVar 0)) (seqS (fldS ["Disk"] "writes" (fLstO (pureF [])) (fVar 0)) (fldS ["Disk"] "left" (pureF .non) (fVar 0))))))))))
theorem fg_Disk___init__ (c : Ct K mg base) (fd : FuncData) (F : FunD K "__init__" "Disk.__init__" (defArgs st_Disk___init__) (defBody st_Disk___init__) (defScope st_Disk___init__) [] [] (He.ma K (He.ga K "Disk") "__init__") fd) : FnG P w K mg base 3 (He.ma K (He.ga K "Disk") "__init__") fd ["self", "pages", "width"] (spF K 3 fn_Disk___init__) :=
  fn_okG F sc_Disk___init__ rfl rfl fun cdv A outer s H E B tk => (css_cons (cs_if (ct_not (ct_tru (cx_call (ok_is_from_to c) (B.mono (by decide)) tk (ff_glo c.X c.G (c.c.fact 78)) (ca_cons (ce_var 1) (ca_cons (ce_glob (glob_int (ff_int c.X c.G (c.c.fact 80)))) (ca_cons (ce_glob (glob_int (ff_int c.X c.G (c.c.fact 79)))) ca_nil)))))) (css_one cs_dead) css_nil) (css_cons (cs_if (ct_not (ct_tru (cx_call (ok_is_from_to c) (B.mono (by decide)) tk (ff_glo c.X c.G (c.c.fact 78)) (ca_cons (ce_var 2) (ca_cons (ce_glob (glob_int (ff_int c.X c.G (c.c.fact 77)))) (ca_cons (ce_glob (glob_int (ff_int c.X c.G (c.c.fact 76)))) ca_nil)))))) (css_one cs_dead) css_nil) (css_cons (cs_fld ["Disk"] (aCons (ff_fld (c.c.fact 26) (c.c.fact 47)) aNil) (ce_var 0) (ce_var 1)) (css_cons (cs_fld ["Disk"] (aCons (ff_fld (c.c.fact 26) (c.c.fact 46)) aNil) (ce_var 0) (ce_var 2)) (css_cons (cs_fld ["Disk"] (aCons (ff_fld (c.c.fact 26) (c.c.fact 38)) aNil) (ce_var 0) (ce_repO (ce_lst (ca_cons ce_str ca_nil)) (ce_var 1))) (css_cons (cs_fld ["Disk"] (aCons (ff_fld (c.c.fact 26) (c.c.fact 37)) aNil) (ce_var 0) (ce_repO (ce_lst (ca_cons ce_str ca_nil)) (ce_var 1))) (css_cons (cs_fld ["Disk"] (aCons (ff_fld (c.c.fact 26) (c.c.fact 36)) aNil) (ce_var 0) (ce_lstO ca_nil)) (css_one (cs_fld ["Disk"] (aCons (ff_fld (c.c.fact 26) (c.c.fact 40)) aNil) (ce_var 0) ce_non)))))))))
theorem ok_Disk___init__ (c : Ct K mg base) : OkF P w K mg base 3 (He.ma K (He.ga K "Disk") "__init__") ["self", "pages", "width"] (spF K 3 fn_Disk___init__) := okF_of (c.c.def_ 30 (d := d_Disk___init__) rfl) (fg_Disk___init__ c) (fun _ _ _ _ _ _ us hl => match us, hl with | [_, _, _], _ => rfl)
def fn_Disk_cut : Fn := defF 5 ((seqS (ifS (fNot (fTru (fCall 2 fn_are_kept (fCons (fVar 1) (fCons (fCB lenD (fCons (fFld ["Disk"] "writes" (fVar 0)) (pureF []))) (pureF [])))))) (raiseS "InvalidDone" "given" (fVar 1)) fNx) (seqS (asgS (fListO (fFld ["Disk"] "lasting" (fVar 0))) (gSet 2)) (seqS (forA (fVar 1) (gSet 3) (seqS (asgS (fOp getD (fFld ["Disk"] "writes" (fVar 0)) (fVar 3)) (gSeqG 2 (gConss (gSet 4) (gConss (gSet 5) gNils)))) (asgS (fVar 5) (gSubG (fVar 2) (fVar 4))))) (seqS (asgS (fMake makeF 3 "Disk" fn_Disk___init__ (fCons (fFld ["Disk"] "pages" (fVar 0)) (fCons (fFld ["Disk"] "width" (fVar 0)) (pureF [])))) (gSet 6)) (seqS (asgS (fTup (fCons (fVar 2) (fCons (fListO (fVar 2)) (pureF [])))) (gSeqG 2 (gConss (gFldG ["Disk"] "lasting" (fVar 6)) (gConss (gFldG ["Disk"] "texts" (fVar 6)) gNils)))) (retS (fVar 6))))))))
theorem fg_Disk_cut (c : Ct K mg base) (fd : FuncData) (F : FunD K "cut" "Disk.cut" (defArgs st_Disk_cut) (defBody st_Disk_cut) (defScope st_Disk_cut) [] [] (He.ma K (He.ga K "Disk") "cut") fd) : FnG P w K mg base 5 (He.ma K (He.ga K "Disk") "cut") fd ["self", "done"] (spF K 2 fn_Disk_cut) :=
  fn_okG F sc_Disk_cut rfl rfl fun cdv A outer s H E B tk => (css_cons (cs_if (ct_not (ct_tru (cx_call (ok_are_kept c) (B.mono (by decide)) tk (ff_glo c.X c.G (c.c.fact 69)) (ca_cons (ce_var 1) (ca_cons (ce_cb cx_len lk_len (ff_free c.X c.G (c.c.fact 3)) bbi_len (ca_cons (ce_fld ["Disk"] (aCons (ff_fld (c.c.fact 26) (c.c.fact 36)) aNil) (ce_var 0)) ca_nil)) ca_nil))))) (css_one (cx_raise rfl tk (ff_ec (c.c.fact 70)) (ok_InvalidDone c) (B.mono (by decide)) (ff_glo c.X c.G (c.c.fact 66)) (ce_var 1))) css_nil) (css_cons (cs_asg (ce_listO (ff_free c.X c.G (c.c.fact 16)) (ce_fld ["Disk"] (aCons (ff_fld (c.c.fact 26) (c.c.fact 38)) aNil) (ce_var 0))) (cg_name 2 sc_Disk_cut.nd)) (css_cons (cs_forA (passes_of rfl) rfl (ce_var 1) (cg_name 3 sc_Disk_cut.nd) (css_cons (cs_asg (ce_ix (ce_fld ["Disk"] (aCons (ff_fld (c.c.fact 26) (c.c.fact 36)) aNil) (ce_var 0)) (ce_var 3)) (cg_seq rfl (cgs_cons (cg_name 4 sc_Disk_cut.nd) (cgs_cons (cg_name 5 sc_Disk_cut.nd) cgs_nil)))) (css_one (cs_asg (ce_var 5) (cg_sub (fun _ => (ce_var 2)) (fun _ => (ce_var 4))))))) (css_cons (cs_asg (cx_make make_ok (ff_mkr (c.c.fact 23)) (ok_Disk___init__ c) (B.mono (by decide)) tk (ff_glo c.X c.G (c.c.fact 24)) rfl (ca_cons (ce_fld ["Disk"] (aCons (ff_fld (c.c.fact 26) (c.c.fact 47)) aNil) (ce_var 0)) (ca_cons (ce_fld ["Disk"] (aCons (ff_fld (c.c.fact 26) (c.c.fact 46)) aNil) (ce_var 0)) ca_nil))) (cg_name 6 sc_Disk_cut.nd)) (css_cons (cs_asg (ce_tup (ca_cons (ce_var 2) (ca_cons (ce_listO (ff_free c.X c.G (c.c.fact 16)) (ce_var 2)) ca_nil))) (cg_seq rfl (cgs_cons (cg_fld ["Disk"] (aCons (ff_fld (c.c.fact 26) (c.c.fact 38)) aNil) (fun _ => (ce_var 6))) (cgs_cons (cg_fld ["Disk"] (aCons (ff_fld (c.c.fact 26) (c.c.fact 37)) aNil) (fun _ => (ce_var 6))) cgs_nil)))) (css_one (cs_ret (ce_var 6))))))))
theorem ok_Disk_cut (c : Ct K mg base) : OkF P w K mg base 5 (He.ma K (He.ga K "Disk") "cut") ["self", "done"] (spF K 2 fn_Disk_cut) := okF_of (c.c.def_ 31 (d := d_Disk_cut) rfl) (fg_Disk_cut c) (fun _ _ _ _ _ _ us hl => match us, hl with | [_, _], _ => rfl)
theorem okK_Disk_cut (c : Ct K mg base) : OkK P w K mg base 5 (He.ma K (He.ga K "Disk") "cut") ["self", "done"] ["done"] 1 [0] (spF K 2 fn_Disk_cut) := okK_of (c.c.def_ 31 (d := d_Disk_cut) rfl) (fg_Disk_cut c) (fun _ _ _ _ _ _ us ws hl hw => match us, ws, hl, hw with | [_], [_], _, _ => rfl)
def fn__law_cut : Fn := defF 1 ((tryS (retS (fLst (fCons (pureF (.str "told")) (fCons (fIf (fTru (fVar 2)) (fMeth 2 "Disk" "cut" fn_Disk_cut (fVar 0) (fKw ["done"] [0] (fCons (fVar 1) (pureF [])))) (fMeth 2 "Disk" "cut" fn_Disk_cut (fVar 0) (fCons (fVar 1) (pureF [])))) (pureF []))))) [⟨[("PowerCut", false), ("InvalidDone", true)], (some 3), fun c' p' => (seqS (ifS (fTru (fIsi ["Disk"] [(.b .list)] (fVar 1))) (dropS (fMt appO (fVar 1) (fCons (pureF (.int 0)) (pureF [])))) fNx) (retS (fLst (fCons (pureF (.str "done")) (fCons (fAndV (fIsE 3 [("InvalidDone", true)] c') (fOp eqA (fCB reprA (fCons (fXf 3 ["InvalidDone"] "given" c' p') (pureF []))) (fCB reprA (fCons (fVar 1) (pureF []))))) (pureF []))))))⟩, ⟨[("PowerCut", true), ("InvalidDone", true)], none, fun c' p' => (retS (fLst (fCons (pureF (.str "other")) (pureF []))))⟩]))
theorem fg__law_cut (c : Ct K mg base) (fd : FuncData) (F : FunD K "_law_cut" "_law_cut" (defArgs st__law_cut) (defBody st__law_cut) (defScope st__law_cut) [] [] (He.ga K "_law_cut") fd) : FnG P w K mg base 6 (He.ga K "_law_cut") fd ["disk", "done", "by_name"] (spF K 3 fn__law_cut) :=
  fn_okG F sc__law_cut rfl rfl fun cdv A outer s H E B tk => (css_one (cs_try rfl rfl sc__law_cut.nd tk (fun w' pn xe tk' hp' => (css_one (cs_ret (ce_lst (ca_cons ce_str (ca_cons (ce_if (ct_tru (ce_var 2)) (cx_methK (ff_cls (c.c.fact 26)) (ff_meth (c.c.fact 60)) (okK_Disk_cut c) (B.tr.mono (by decide)) tk' (ce_var 0) (ck_cons (ce_var 1) ck_nil)) (cx_meth (ff_cls (c.c.fact 26)) (ff_meth (c.c.fact 60)) (ok_Disk_cut c) (B.tr.mono (by decide)) tk' (ce_var 0) (ca_cons (ce_var 1) ca_nil))) ca_nil)))))) (.cons (hd := ⟨[("PowerCut", false), ("InvalidDone", true)], (some 3), fun c' p' => (seqS (ifS (fTru (fIsi ["Disk"] [(.b .list)] (fVar 1))) (dropS (fMt appO (fVar 1) (fCons (pureF (.int 0)) (pureF [])))) fNx) (retS (fLst (fCons (pureF (.str "done")) (fCons (fAndV (fIsE 3 [("InvalidDone", true)] c') (fOp eqA (fCB reprA (fCons (fXf 3 ["InvalidDone"] "given" c' p') (pureF []))) (fCB reprA (fCons (fVar 1) (pureF []))))) (pureF []))))))⟩) ⟨rfl, by decide, .inl (ff_glo c.X c.G (c.c.fact 66))⟩ (aCons (ff_exm (c.c.fact 64)) (aCons (ff_exm (c.c.fact 65)) aNil)) ⟨rfl, rfl⟩ (fun a oe c' p' d pn hz hf => (css_cons (cs_if (ct_tru (ce_isi (.b .list) (ff_own (c.c.fact 48)) (ff_free c.X c.G (c.c.fact 30)) (ce_var 1) (pe_bt .list rfl (ff_free c.X c.G (c.c.fact 16)) bty_list))) (css_one (cs_expr (ce_mt PySem.F.slot_list_append PySem.F.type_list_append mt_append lk_app (ce_var 1) (ca_cons ce_int ca_nil)))) css_nil) (css_one (cs_ret (ce_lst (ca_cons ce_str (ca_cons (ce_and (ce_isE 3 [("InvalidDone", true)] "EarlierError" (aCons ⟨ff_xc (c.c.fact 62), ff_kit (c.c.fact 63)⟩ aNil) (ff_free c.X c.G (c.c.fact 30)) (ff_glo c.X c.G (c.c.fact 31)) hz hf) (ce_one (ce_cmp (opx_eqA B.rpr.suite.u64) lk_eqA (ce_cb (cx_reprA B.rpr.suite) lk_reprA (ff_free c.X c.G (c.c.fact 44)) bbi_repr (ca_cons (ce_xf 3 ["InvalidDone"] (aCons (ff_xf (c.c.fact 61)) aNil) hz hf) ca_nil)) (ce_cb (cx_reprA B.rpr.suite) lk_reprA (ff_free c.X c.G (c.c.fact 44)) bbi_repr (ca_cons (ce_var 1) ca_nil)) (nomark _)))) ca_nil))))))) (.cons (hd := ⟨[("PowerCut", true), ("InvalidDone", true)], none, fun c' p' => (retS (fLst (fCons (pureF (.str "other")) (pureF []))))⟩) ⟨rfl, by decide, .inl (ff_glo c.X c.G (c.c.fact 31))⟩ (aCons (ff_exm (c.c.fact 67)) (aCons (ff_exm (c.c.fact 68)) aNil)) trivial (fun a oe c' p' d pn hz hf => (css_one (cs_ret (ce_lst (ca_cons ce_str ca_nil))))) .nil))))
theorem ok__law_cut (c : Ct K mg base) : OkF P w K mg base 6 (He.ga K "_law_cut") ["disk", "done", "by_name"] (spF K 3 fn__law_cut) := okF_of (c.c.def_ 32 (d := d__law_cut) rfl) (fg__law_cut c) (fun _ _ _ _ _ _ us hl => match us, hl with | [_, _, _], _ => rfl)
def fn__law_cut_of : Fn := defF 1 ((retS (fLstO (fCons (fOp getD (fVar 0) (pureF (.int 0))) (fCons (fOp getD (fVar 0) (pureF (.int 1))) (fCons (fCall 2 fn__law_behind (fCons (fOp getD (fVar 0) (pureF (.int 2))) (fCons (lcA (fVar 1) [2] (gSet 2) (pureF true) (fOp getD (fOp getD (fVar 0) (pureF (.int 3))) (fVar 2))) (pureF [])))) (fCons (fLstO (pureF [])) (fCons (pureF .non) (pureF [])))))))))
theorem fg__law_cut_of (c : Ct K mg base) (fd : FuncData) (F : FunD K "_law_cut_of" "_law_cut_of" (defArgs st__law_cut_of) (defBody st__law_cut_of) (defScope st__law_cut_of) [] [] (He.ga K "_law_cut_of") fd) : FnG P w K mg base 2 (He.ga K "_law_cut_of") fd ["state", "done"] (spF K 2 fn__law_cut_of) :=
  fn_okG F sc__law_cut_of rfl rfl fun cdv A outer s H E B tk => (css_one (cs_ret (ce_lstO (ca_cons (ce_ix (ce_var 0) ce_int) (ca_cons (ce_ix (ce_var 0) ce_int) (ca_cons (cx_call (ok__law_behind c) (B.mono (by decide)) tk (ff_glo c.X c.G (c.c.fact 35)) (ca_cons (ce_ix (ce_var 0) ce_int) (ca_cons (ce_lcA [("at", 2)] rfl sc__law_cut_of.nd (blk_of (by rfl)) (ce_var 1) (fun s H C cl fp => (cgv_name 2 sc__law_cut_of.nd)) (fun s H C cl fp => cts_nil) (fun s H C cl fp => (ce_ix (ce_ix (ce_var 0) ce_int) (ce_var 2)))) ca_nil))) (ca_cons (ce_lstO ca_nil) (ca_cons ce_non ca_nil))))))))
theorem ok__law_cut_of (c : Ct K mg base) : OkF P w K mg base 2 (He.ga K "_law_cut_of") ["state", "done"] (spF K 2 fn__law_cut_of) := okF_of (c.c.def_ 33 (d := d__law_cut_of) rfl) (fg__law_cut_of c) (fun _ _ _ _ _ _ us hl => match us, hl with | [_, _], _ => rfl)
def fn__law_one_right : Fn := defF 5 ((seqS (asgS (fListO (fVar 3)) (gSet 5)) (seqS (asgS (fCall 3 fn__law_cut (fCons (fVar 1) (fCons (fIf (fTest (fOp eqA (fCall 2 fn__law_take (fCons (fVar 0) (fCons (pureF (.int 3)) (pureF [])))) (pureF (.int 0)))) (fCB tupleD (fCons (fVar 5) (pureF []))) (fVar 5)) (fCons (fVar 4) (pureF []))))) (gSet 6)) (seqS (ifS (fTest (fOp neD (fOp getD (fVar 6) (pureF (.int 0))) (pureF (.str "told")))) (retS (fLst (pureF []))) fNx) (seqS (dropS (fMt0 revO (fVar 5))) (seqS (dropS (fMt appO (fVar 5) (fCons (pureF (.int 7)) (pureF [])))) (seqS (parS 7 8 (fCons (fOp getD (fVar 6) (pureF (.int 1))) (fCons (fCall 2 fn__law_cut_of (fCons (fVar 2) (fCons (fVar 3) (pureF [])))) (pureF [])))) (seqS (ifS (fOr (fNot (fTru (fCall 2 fn__law_state_right (fCons (fVar 7) (fCons (fVar 8) (pureF [])))))) (fNot (fTru (fCall 2 fn__law_state_right (fCons (fVar 1) (fCons (fVar 2) (pureF []))))))) (retS (fLst (pureF []))) fNx) (seqS (forS (fRng1 (fCons (fOp addD (pureF (.int 1)) (fCall 2 fn__law_take (fCons (fVar 0) (fCons (pureF (.int 2)) (pureF []))))) (pureF []))) (gSet 9) (ifS (fOr (fNot (fTru (fCall 4 fn__law_wrote (fCons (fVar 7) (fCons (fVar 8) (fCons (fCall 2 fn__law_take (fCons (fVar 0) (fCons (fOp getD (fVar 8) (pureF (.int 0))) (pureF [])))) (fCons (fCall 1 fn__law_text (fCons (fVar 0) (pureF []))) (pureF [])))))))) (fNot (fTru (fCall 2 fn__law_state_right (fCons (fVar 1) (fCons (fVar 2) (pureF []))))))) (retS (fLst (pureF []))) fNx)) (seqS (ifS (fNot (fTru (fCall 2 fn__law_state_right (fCons (fVar 7) (fCons (fVar 8) (pureF [])))))) (retS (fLst (pureF []))) fNx) (retS (fLst (fCons (fVar 7) (fCons (fVar 8) (pureF [])))))))))))))))
theorem fg__law_one_right (c : Ct K mg base) (fd : FuncData) (F : FunD K "_law_one_right" "_law_one_right" (defArgs st__law_one_right) (defBody st__law_one_right) (defScope st__law_one_right) [] [] (He.ga K "_law_one_right") fd) : FnG P w K mg base 7 (He.ga K "_law_one_right") fd ["box", "disk", "state", "done", "by_name"] (spF K 5 fn__law_one_right) :=
  fn_okG F sc__law_one_right rfl rfl fun cdv A outer s H E B tk => (css_cons (cs_asg (ce_listO (ff_free c.X c.G (c.c.fact 16)) (ce_var 3)) (cg_name 5 sc__law_one_right.nd)) (css_cons (cs_asg (cx_call (ok__law_cut c) (B.mono (by decide)) tk (ff_glo c.X c.G (c.c.fact 59)) (ca_cons (ce_var 1) (ca_cons (ce_if (ct_cmp (opx_eqA B.rpr.u64) lk_eqA (cx_call (ok__law_take c) (B.mono (by decide)) tk (ff_glo c.X c.G (c.c.fact 15)) (ca_cons (ce_var 0) (ca_cons ce_int ca_nil))) ce_int (nomark _)) (ce_ct call_tuple_of lk_tuple (ff_free c.X c.G (c.c.fact 58)) bty_tuple (ca_cons (ce_var 5) ca_nil)) (ce_var 5)) (ca_cons (ce_var 4) ca_nil)))) (cg_name 6 sc__law_one_right.nd)) (css_cons (cs_if (ct_cmp (opx_ne B.rpr.u64) lk_ne (ce_ix (ce_var 6) ce_int) ce_str (nomark _)) (css_one (cs_ret (ce_lst ca_nil))) css_nil) (css_cons (cs_expr (ce_mt0 PySem.F.slot_list_reverse PySem.F.type_list_reverse mt_reverse lk_rev (ce_var 5))) (css_cons (cs_expr (ce_mt PySem.F.slot_list_append PySem.F.type_list_append mt_append lk_app (ce_var 5) (ca_cons ce_int ca_nil))) (css_cons (cs_par 7 8 rfl sc__law_one_right.nd (ca_cons (ce_ix (ce_var 6) ce_int) (ca_cons (cx_call (ok__law_cut_of c) (B.mono (by decide)) tk (ff_glo c.X c.G (c.c.fact 57)) (ca_cons (ce_var 2) (ca_cons (ce_var 3) ca_nil))) ca_nil))) (css_cons (cs_if (cw_t (cw_or (ct_not (ct_tru (cx_call (ok__law_state_right c) (B.mono (by decide)) tk (ff_glo c.X c.G (c.c.fact 11)) (ca_cons (ce_var 7) (ca_cons (ce_var 8) ca_nil))))) (cw_or1 (ct_not (ct_tru (cx_call (ok__law_state_right c) (B.mono (by decide)) tk (ff_glo c.X c.G (c.c.fact 11)) (ca_cons (ce_var 1) (ca_cons (ce_var 2) ca_nil)))))))) (css_one (cs_ret (ce_lst ca_nil))) css_nil) (css_cons (cs_for (passes_of rfl) rfl (ci_rng1 (ff_free c.X c.G (c.c.fact 6)) (ca_cons (ce_bin opx_add lk_add ce_int (cx_call (ok__law_take c) (B.mono (by decide)) tk (ff_glo c.X c.G (c.c.fact 15)) (ca_cons (ce_var 0) (ca_cons ce_int ca_nil)))) ca_nil)) (cg_name 9 sc__law_one_right.nd) (css_one (cs_if (cw_t (cw_or (ct_not (ct_tru (cx_call (ok__law_wrote c) (B.mono (by decide)) tk (ff_glo c.X c.G (c.c.fact 17)) (ca_cons (ce_var 7) (ca_cons (ce_var 8) (ca_cons (cx_call (ok__law_take c) (B.mono (by decide)) tk (ff_glo c.X c.G (c.c.fact 15)) (ca_cons (ce_var 0) (ca_cons (ce_ix (ce_var 8) ce_int) ca_nil))) (ca_cons (cx_call (ok__law_text c) (B.mono (by decide)) tk (ff_glo c.X c.G (c.c.fact 25)) (ca_cons (ce_var 0) ca_nil)) ca_nil))))))) (cw_or1 (ct_not (ct_tru (cx_call (ok__law_state_right c) (B.mono (by decide)) tk (ff_glo c.X c.G (c.c.fact 11)) (ca_cons (ce_var 1) (ca_cons (ce_var 2) ca_nil)))))))) (css_one (cs_ret (ce_lst ca_nil))) css_nil))) (css_cons (cs_if (ct_not (ct_tru (cx_call (ok__law_state_right c) (B.mono (by decide)) tk (ff_glo c.X c.G (c.c.fact 11)) (ca_cons (ce_var 7) (ca_cons (ce_var 8) ca_nil))))) (css_one (cs_ret (ce_lst ca_nil))) css_nil) (css_one (cs_ret (ce_lst (ca_cons (ce_var 7) (ca_cons (ce_var 8) ca_nil))))))))))))))
theorem ok__law_one_right (c : Ct K mg base) : OkF P w K mg base 7 (He.ga K "_law_one_right") ["box", "disk", "state", "done", "by_name"] (spF K 5 fn__law_one_right) := okF_of (c.c.def_ 34 (d := d__law_one_right) rfl) (fg__law_one_right c) (fun _ _ _ _ _ _ us hl => match us, hl with | [_, _, _, _, _], _ => rfl)
def fn__law_bad_done : Fn := defF 2 ((seqS (asgS (fLstRg (fVar 1)) (gSet 2)) (seqS (asgS (fLst (fCons (fLstO (fCons (fVar 1) (pureF []))) (fCons (fLstO (fCons (fUn negD (pureF (.int 1))) (pureF []))) (fCons (fOpO CatO (fVar 2) (fLstO (fCons (fVar 1) (pureF [])))) (fCons (fOpO CatO (fOp addD (fVar 2) (fSlice (fVar 2) (fInt (fUn negD (pureF (.int 1)))) (pureF none))) (fLst (fCons (fOp subD (fVar 1) (pureF (.int 1))) (pureF [])))) (fCons (fOpO CatO (fLst (fCons (pureF (.int 0)) (pureF []))) (fVar 2)) (fCons (fOpO CatO (fUn revD (fVar 2)) (fLst (fCons (pureF (.int 0)) (pureF [])))) (fCons (fLstO (fCons (pureF .non) (pureF []))) (fCons (fLstO (fCons (pureF (.str "0")) (pureF []))) (pureF [])))))))))) (gSet 3)) (retS (fOp getD (fOp addD (fVar 3) (fLst (fCons (fOpO CatO (fVar 2) (fLst (fCons (pureF (.bl true)) (pureF [])))) (fCons (fOpO CatO (fLst (fCons (pureF (.bl false)) (pureF []))) (fSlice (fVar 2) (fInt (pureF (.int 1))) (pureF none))) (fCons (pureF .non) (fCons (pureF (.int 0)) (fCons (pureF (.str "")) (fCons (pureF (.dK [] [])) (fCons (fDisp [((pureF (.str "0")), (pureF (.int 0)))]) (fCons (fLstO (fCons (fVar 2) (pureF []))) (fCons (fTup (fCons (fVar 2) (pureF []))) (fCons (fOpO CatO (fLstO (fCons (fUn negD (pureF (.int 1))) (pureF []))) (fVar 2)) (pureF []))))))))))))) (fVar 0))))))
theorem fg__law_bad_done (c : Ct K mg base) (fd : FuncData) (F : FunD K "_law_bad_done" "_law_bad_done" (defArgs st__law_bad_done) (defBody st__law_bad_done) (defScope st__law_bad_done) [] [] (He.ga K "_law_bad_done") fd) : FnG P w K mg base 1 (He.ga K "_law_bad_done") fd ["way", "many"] (spF K 2 fn__law_bad_done) :=
  fn_okG F sc__law_bad_done rfl rfl fun cdv A outer s H E B tk => (css_cons (cs_asg (ce_lstRg rfl (ff_free c.X c.G (c.c.fact 16)) (ff_free c.X c.G (c.c.fact 6)) (ce_var 1)) (cg_name 2 sc__law_bad_done.nd)) (css_cons (cs_asg (ce_lst (ca_cons (ce_lstO (ca_cons (ce_var 1) ca_nil)) (ca_cons (ce_lstO (ca_cons (ce_neg ce_int) ca_nil)) (ca_cons (ce_catO (ce_var 2) (ce_lstO (ca_cons (ce_var 1) ca_nil))) (ca_cons (ce_catO (ce_bin opx_add lk_add (ce_var 2) (ce_slice (ce_var 2) (co_some (ce_neg ce_int)) co_none)) (ce_lst (ca_cons (ce_bin op_sub lk_sub (ce_var 1) ce_int) ca_nil))) (ca_cons (ce_catO (ce_lst (ca_cons ce_int ca_nil)) (ce_var 2)) (ca_cons (ce_catO (ce_revL (ce_var 2)) (ce_lst (ca_cons ce_int ca_nil))) (ca_cons (ce_lstO (ca_cons ce_non ca_nil)) (ca_cons (ce_lstO (ca_cons ce_str ca_nil)) ca_nil))))))))) (cg_name 3 sc__law_bad_done.nd)) (css_one (cs_ret (ce_ix (ce_bin opx_add lk_add (ce_var 3) (ce_lst (ca_cons (ce_catO (ce_var 2) (ce_lst (ca_cons ce_bl ca_nil))) (ca_cons (ce_catO (ce_lst (ca_cons ce_bl ca_nil)) (ce_slice (ce_var 2) (co_some ce_int) co_none)) (ca_cons ce_non (ca_cons ce_int (ca_cons ce_str (ca_cons ce_dE (ca_cons (ce_disp (.cons ce_str ce_int .nil)) (ca_cons (ce_lstO (ca_cons (ce_var 2) ca_nil)) (ca_cons (ce_tup (ca_cons (ce_var 2) ca_nil)) (ca_cons (ce_catO (ce_lstO (ca_cons (ce_neg ce_int) ca_nil)) (ce_var 2)) ca_nil)))))))))))) (ce_var 0))))))
theorem ok__law_bad_done (c : Ct K mg base) : OkF P w K mg base 1 (He.ga K "_law_bad_done") ["way", "many"] (spF K 2 fn__law_bad_done) := okF_of (c.c.def_ 35 (d := d__law_bad_done) rfl) (fg__law_bad_done c) (fun _ _ _ _ _ _ us hl => match us, hl with | [_, _], _ => rfl)
def fn__law_refused_right : Fn := defF 1 ((seqS (forS (fRng1 (fCons (pureF (.int 18)) (pureF []))) (gSet 4) (ifS (fTest (fOp neD (fCall 3 fn__law_cut (fCons (fVar 1) (fCons (fCall 2 fn__law_bad_done (fCons (fVar 4) (fCons (fCB lenD (fCons (fOp getD (fVar 2) (pureF (.int 3))) (pureF []))) (pureF [])))) (fCons (fVar 3) (pureF []))))) (fLst (fCons (pureF (.str "done")) (fCons (pureF (.bl true)) (pureF [])))))) (retS (pureF (.bl false))) fNx)) (retS (fCall 2 fn__law_state_right (fCons (fVar 1) (fCons (fVar 2) (pureF [])))))))
theorem fg__law_refused_right (c : Ct K mg base) (fd : FuncData) (F : FunD K "_law_refused_right" "_law_refused_right" (defArgs st__law_refused_right) (defBody st__law_refused_right) (defScope st__law_refused_right) [] [] (He.ga K "_law_refused_right") fd) : FnG P w K mg base 7 (He.ga K "_law_refused_right") fd ["box", "disk", "state", "by_name"] (spF K 4 fn__law_refused_right) :=
  fn_okG F sc__law_refused_right rfl rfl fun cdv A outer s H E B tk => (css_cons (cs_for (passes_of rfl) rfl (ci_rng1 (ff_free c.X c.G (c.c.fact 6)) (ca_cons ce_int ca_nil)) (cg_name 4 sc__law_refused_right.nd) (css_one (cs_if (ct_cmp (opx_ne B.rpr.u64) lk_ne (cx_call (ok__law_cut c) (B.mono (by decide)) tk (ff_glo c.X c.G (c.c.fact 59)) (ca_cons (ce_var 1) (ca_cons (cx_call (ok__law_bad_done c) (B.mono (by decide)) tk (ff_glo c.X c.G (c.c.fact 81)) (ca_cons (ce_var 4) (ca_cons (ce_cb cx_len lk_len (ff_free c.X c.G (c.c.fact 3)) bbi_len (ca_cons (ce_ix (ce_var 2) ce_int) ca_nil)) ca_nil))) (ca_cons (ce_var 3) ca_nil)))) (ce_lst (ca_cons ce_str (ca_cons ce_bl ca_nil))) (nomark _)) (css_one (cs_ret ce_bl)) css_nil))) (css_one (cs_ret (cx_call (ok__law_state_right c) (B.mono (by decide)) tk (ff_glo c.X c.G (c.c.fact 11)) (ca_cons (ce_var 1) (ca_cons (ce_var 2) ca_nil))))))
theorem ok__law_refused_right (c : Ct K mg base) : OkF P w K mg base 7 (He.ga K "_law_refused_right") ["box", "disk", "state", "by_name"] (spF K 4 fn__law_refused_right) := okF_of (c.c.def_ 36 (d := d__law_refused_right) rfl) (fg__law_refused_right c) (fun _ _ _ _ _ _ us hl => match us, hl with | [_, _, _, _], _ => rfl)
def fn__law_chain_right : Fn := defF 9 ((seqS (parS 1 2 (fCons (fOp eqA (fCall 2 fn__law_take (fCons (fVar 0) (fCons (pureF (.int 2)) (pureF [])))) (pureF (.int 1))) (fCons (fOp addD (pureF (.int 3)) (fCall 2 fn__law_take (fCons (fVar 0) (fCons (fOp getD (fLst (fCons (pureF (.int 3)) (fCons (pureF (.int 38)) (pureF [])))) (fCall 2 fn__law_take (fCons (fVar 0) (fCons (pureF (.int 2)) (pureF []))))) (pureF []))))) (pureF [])))) (seqS (parS3 3 4 5 (fCons (fMake makeF 3 "Disk" fn_Disk___init__ (fCons (fVar 2) (fCons (fOp addD (pureF (.int 20)) (fVar 2)) (pureF [])))) (fCons (fCall 2 fn__law_new (fCons (fVar 2) (fCons (fOp addD (pureF (.int 20)) (fVar 2)) (pureF [])))) (fCons (fLst (pureF [])) (pureF []))))) (seqS (forS (fRng1 (fCons (fOp addD (pureF (.int 2)) (fCall 2 fn__law_take (fCons (fVar 0) (fCons (pureF (.int 3)) (pureF []))))) (pureF []))) (gSet 6) (seqS (ifS (fNot (fTru (fCall 3 fn__law_grown (fCons (fVar 0) (fCons (fVar 3) (fCons (fVar 4) (pureF []))))))) (retS (pureF (.bl false))) fNx) (seqS (ifS (fAnd (fTest (fOp eqA (fOp modD (fVar 6) (pureF (.int 2))) (pureF (.int 0)))) (fNot (fTru (fCall 4 fn__law_refused_right (fCons (fVar 0) (fCons (fVar 3) (fCons (fVar 4) (fCons (fVar 1) (pureF []))))))))) (retS (pureF (.bl false))) fNx) (seqS (asgS (fLstO (pureF [])) (gSet 7)) (seqS (forA (fCall 2 fn__law_lists (fCons (fVar 0) (fCons (fCB lenD (fCons (fOp getD (fVar 4) (pureF (.int 3))) (pureF []))) (pureF [])))) (gSet 8) (seqS (asgS (fCall 5 fn__law_one_right (fCons (fVar 0) (fCons (fVar 3) (fCons (fVar 4) (fCons (fVar 8) (fCons (fVar 1) (pureF []))))))) (gSet 9)) (seqS (ifS (fTest (fOp eqA (fVar 9) (fLst (pureF [])))) (retS (pureF (.bl false))) fNx) (seqS (dropS (fMt appO (fVar 7) (fCons (fVar 9) (pureF [])))) (asgS (fNotV (fVar 1)) (gSet 1)))))) (seqS (ifS (fOr (fNot (fTru (fCall 3 fn__law_stopped (fCons (fVar 3) (fCons (fVar 4) (fCons (pureF (.int 1)) (pureF []))))))) (fTest (fOp eqA (fCall 5 fn__law_one_right (fCons (fVar 0) (fCons (fVar 3) (fCons (fVar 4) (fCons (fLst (pureF [])) (fCons (fVar 1) (pureF []))))))) (fLst (pureF []))))) (retS (pureF (.bl false))) fNx) (seqS (ifS (fOr (fNot (fTru (fCall 4 fn__law_wrote (fCons (fVar 3) (fCons (fVar 4) (fCons (pureF (.int 0)) (fCons (pureF (.str "last")) (pureF [])))))))) (fNot (fTru (fCall 4 fn__law_wrote (fCons (fVar 3) (fCons (fVar 4) (fCons (pureF (.int 1)) (fCons (pureF (.str "not done")) (pureF []))))))))) (retS (pureF (.bl false))) fNx) (seqS (ifS (fTest (fOp eqA (fCall 5 fn__law_one_right (fCons (fVar 0) (fCons (fVar 3) (fCons (fVar 4) (fCons (fLstRg (fCB lenD (fCons (fOp getD (fVar 4) (pureF (.int 3))) (pureF [])))) (fCons (fVar 1) (pureF []))))))) (fLst (pureF [])))) (retS (pureF (.bl false))) fNx) (seqS (asgS (fOp addD (fSlice (fVar 5) (fInt (fUn negD (pureF (.int 4)))) (pureF none)) (fLst (fCons (fLst (fCons (fVar 3) (fCons (fVar 4) (pureF [])))) (fCons (fOp getD (fVar 7) (pureF (.int 0))) (pureF []))))) (gSet 5)) (seqS (asgS (fOp getD (fVar 7) (fCall 2 fn__law_take (fCons (fVar 0) (fCons (fCB lenD (fCons (fVar 7) (pureF []))) (pureF []))))) (gSeqG 2 (gConss (gSet 3) (gConss (gSet 4) gNils)))) (ifS (fNot (fTru (fCB allD (fCons (lcA (fOp addD (fVar 7) (fVar 5)) [9] (gSet 9) (pureF true) (fCall 2 fn__law_state_right (fCons (fOp getD (fVar 9) (pureF (.int 0))) (fCons (fOp getD (fVar 9) (pureF (.int 1))) (pureF []))))) (pureF []))))) (retS (pureF (.bl false))) fNx))))))))))) (seqS (ifS (fOr (fNot (fTru (fCall 2 fn__law_settled (fCons (fVar 3) (fCons (fVar 4) (pureF [])))))) (fTest (fOp eqA (fCall 5 fn__law_one_right (fCons (fVar 0) (fCons (fVar 3) (fCons (fVar 4) (fCons (fLst (pureF [])) (fCons (fVar 1) (pureF []))))))) (fLst (pureF []))))) (retS (pureF (.bl false))) fNx) (retS (fCB allD (fCons (lcA (fVar 5) [9] (gSet 9) (pureF true) (fCall 2 fn__law_state_right (fCons (fOp getD (fVar 9) (pureF (.int 0))) (fCons (fOp getD (fVar 9) (pureF (.int 1))) (pureF []))))) (pureF [])))))))))
theorem fg__law_chain_right (c : Ct K mg base) (fd : FuncData) (F : FunD K "_law_chain_right" "_law_chain_right" (defArgs st__law_chain_right) (defBody st__law_chain_right) (defScope st__law_chain_right) [] [] (He.ga K "_law_chain_right") fd) : FnG P w K mg base 8 (He.ga K "_law_chain_right") fd ["box"] (spF K 1 fn__law_chain_right) :=
  fn_okG F sc__law_chain_right rfl rfl fun cdv A outer s H E B tk => (css_cons (cs_par 1 2 rfl sc__law_chain_right.nd (ca_cons (ce_cmp (opx_eqA B.rpr.u64) lk_eqA (cx_call (ok__law_take c) (B.mono (by decide)) tk (ff_glo c.X c.G (c.c.fact 15)) (ca_cons (ce_var 0) (ca_cons ce_int ca_nil))) ce_int (nomark _)) (ca_cons (ce_bin opx_add lk_add ce_int (cx_call (ok__law_take c) (B.mono (by decide)) tk (ff_glo c.X c.G (c.c.fact 15)) (ca_cons (ce_var 0) (ca_cons (ce_ix (ce_lst (ca_cons ce_int (ca_cons ce_int ca_nil))) (cx_call (ok__law_take c) (B.mono (by decide)) tk (ff_glo c.X c.G (c.c.fact 15)) (ca_cons (ce_var 0) (ca_cons ce_int ca_nil)))) ca_nil)))) ca_nil))) (css_cons (cs_par3 3 4 5 rfl sc__law_chain_right.nd (ca_cons (cx_make make_ok (ff_mkr (c.c.fact 23)) (ok_Disk___init__ c) (B.mono (by decide)) tk (ff_glo c.X c.G (c.c.fact 24)) rfl (ca_cons (ce_var 2) (ca_cons (ce_bin opx_add lk_add ce_int (ce_var 2)) ca_nil))) (ca_cons (cx_call (ok__law_new c) (B.mono (by decide)) tk (ff_glo c.X c.G (c.c.fact 22)) (ca_cons (ce_var 2) (ca_cons (ce_bin opx_add lk_add ce_int (ce_var 2)) ca_nil))) (ca_cons (ce_lst ca_nil) ca_nil)))) (css_cons (cs_for (passes_of rfl) rfl (ci_rng1 (ff_free c.X c.G (c.c.fact 6)) (ca_cons (ce_bin opx_add lk_add ce_int (cx_call (ok__law_take c) (B.mono (by decide)) tk (ff_glo c.X c.G (c.c.fact 15)) (ca_cons (ce_var 0) (ca_cons ce_int ca_nil)))) ca_nil)) (cg_name 6 sc__law_chain_right.nd) (css_cons (cs_if (ct_not (ct_tru (cx_call (ok__law_grown c) (B.mono (by decide)) tk (ff_glo c.X c.G (c.c.fact 21)) (ca_cons (ce_var 0) (ca_cons (ce_var 3) (ca_cons (ce_var 4) ca_nil)))))) (css_one (cs_ret ce_bl)) css_nil) (css_cons (cs_if (cw_t (cw_and (ct_cmp (opx_eqA B.rpr.u64) lk_eqA (ce_bin op_mod lk_mod (ce_var 6) ce_int) ce_int (nomark _)) (cw_and1 (ct_not (ct_tru (cx_call (ok__law_refused_right c) (B.mono (by decide)) tk (ff_glo c.X c.G (c.c.fact 20)) (ca_cons (ce_var 0) (ca_cons (ce_var 3) (ca_cons (ce_var 4) (ca_cons (ce_var 1) ca_nil)))))))))) (css_one (cs_ret ce_bl)) css_nil) (css_cons (cs_asg (ce_lstO ca_nil) (cg_name 7 sc__law_chain_right.nd)) (css_cons (cs_forA (passes_of rfl) rfl (cx_call (ok__law_lists c) (B.mono (by decide)) tk (ff_glo c.X c.G (c.c.fact 19)) (ca_cons (ce_var 0) (ca_cons (ce_cb cx_len lk_len (ff_free c.X c.G (c.c.fact 3)) bbi_len (ca_cons (ce_ix (ce_var 4) ce_int) ca_nil)) ca_nil))) (cg_name 8 sc__law_chain_right.nd) (css_cons (cs_asg (cx_call (ok__law_one_right c) (B.mono (by decide)) tk (ff_glo c.X c.G (c.c.fact 13)) (ca_cons (ce_var 0) (ca_cons (ce_var 3) (ca_cons (ce_var 4) (ca_cons (ce_var 8) (ca_cons (ce_var 1) ca_nil)))))) (cg_name 9 sc__law_chain_right.nd)) (css_cons (cs_if (ct_cmp (opx_eqA B.rpr.u64) lk_eqA (ce_var 9) (ce_lst ca_nil) (nomark _)) (css_one (cs_ret ce_bl)) css_nil) (css_cons (cs_expr (ce_mt PySem.F.slot_list_append PySem.F.type_list_append mt_append lk_app (ce_var 7) (ca_cons (ce_var 9) ca_nil))) (css_one (cs_asg (ce_not (ce_var 1)) (cg_name 1 sc__law_chain_right.nd))))))) (css_cons (cs_if (cw_t (cw_or (ct_not (ct_tru (cx_call (ok__law_stopped c) (B.mono (by decide)) tk (ff_glo c.X c.G (c.c.fact 18)) (ca_cons (ce_var 3) (ca_cons (ce_var 4) (ca_cons ce_int ca_nil)))))) (cw_or1 (ct_cmp (opx_eqA B.rpr.u64) lk_eqA (cx_call (ok__law_one_right c) (B.mono (by decide)) tk (ff_glo c.X c.G (c.c.fact 13)) (ca_cons (ce_var 0) (ca_cons (ce_var 3) (ca_cons (ce_var 4) (ca_cons (ce_lst ca_nil) (ca_cons (ce_var 1) ca_nil)))))) (ce_lst ca_nil) (nomark _))))) (css_one (cs_ret ce_bl)) css_nil) (css_cons (cs_if (cw_t (cw_or (ct_not (ct_tru (cx_call (ok__law_wrote c) (B.mono (by decide)) tk (ff_glo c.X c.G (c.c.fact 17)) (ca_cons (ce_var 3) (ca_cons (ce_var 4) (ca_cons ce_int (ca_cons ce_str ca_nil))))))) (cw_or1 (ct_not (ct_tru (cx_call (ok__law_wrote c) (B.mono (by decide)) tk (ff_glo c.X c.G (c.c.fact 17)) (ca_cons (ce_var 3) (ca_cons (ce_var 4) (ca_cons ce_int (ca_cons ce_str ca_nil)))))))))) (css_one (cs_ret ce_bl)) css_nil) (css_cons (cs_if (ct_cmp (opx_eqA B.rpr.u64) lk_eqA (cx_call (ok__law_one_right c) (B.mono (by decide)) tk (ff_glo c.X c.G (c.c.fact 13)) (ca_cons (ce_var 0) (ca_cons (ce_var 3) (ca_cons (ce_var 4) (ca_cons (ce_lstRg rfl (ff_free c.X c.G (c.c.fact 16)) (ff_free c.X c.G (c.c.fact 6)) (ce_cb cx_len lk_len (ff_free c.X c.G (c.c.fact 3)) bbi_len (ca_cons (ce_ix (ce_var 4) ce_int) ca_nil))) (ca_cons (ce_var 1) ca_nil)))))) (ce_lst ca_nil) (nomark _)) (css_one (cs_ret ce_bl)) css_nil) (css_cons (cs_asg (ce_bin opx_add lk_add (ce_slice (ce_var 5) (co_some (ce_neg ce_int)) co_none) (ce_lst (ca_cons (ce_lst (ca_cons (ce_var 3) (ca_cons (ce_var 4) ca_nil))) (ca_cons (ce_ix (ce_var 7) ce_int) ca_nil)))) (cg_name 5 sc__law_chain_right.nd)) (css_cons (cs_asg (ce_ix (ce_var 7) (cx_call (ok__law_take c) (B.mono (by decide)) tk (ff_glo c.X c.G (c.c.fact 15)) (ca_cons (ce_var 0) (ca_cons (ce_cb cx_len lk_len (ff_free c.X c.G (c.c.fact 3)) bbi_len (ca_cons (ce_var 7) ca_nil)) ca_nil)))) (cg_seq rfl (cgs_cons (cg_name 3 sc__law_chain_right.nd) (cgs_cons (cg_name 4 sc__law_chain_right.nd) cgs_nil)))) (css_one (cs_if (ct_not (ct_tru (ce_cb (cr_all rfl) lk_all (ff_free c.X c.G (c.c.fact 12)) bbi_all (ca_cons (ce_lcA [("one", 9)] rfl sc__law_chain_right.nd (blk_of (by rfl)) (ce_bin opx_add lk_add (ce_var 7) (ce_var 5)) (fun s H C cl fp => (cgv_name 9 sc__law_chain_right.nd)) (fun s H C cl fp => cts_nil) (fun s H C cl fp => (cx_call (ok__law_state_right c) (B.blk.mono (by decide)) tk0 (ff_glo c.X c.G (c.c.fact 11)) (ca_cons (ce_ix (ce_var 9) ce_int) (ca_cons (ce_ix (ce_var 9) ce_int) ca_nil))))) ca_nil)))) (css_one (cs_ret ce_bl)) css_nil)))))))))))) (css_cons (cs_if (cw_t (cw_or (ct_not (ct_tru (cx_call (ok__law_settled c) (B.mono (by decide)) tk (ff_glo c.X c.G (c.c.fact 14)) (ca_cons (ce_var 3) (ca_cons (ce_var 4) ca_nil))))) (cw_or1 (ct_cmp (opx_eqA B.rpr.u64) lk_eqA (cx_call (ok__law_one_right c) (B.mono (by decide)) tk (ff_glo c.X c.G (c.c.fact 13)) (ca_cons (ce_var 0) (ca_cons (ce_var 3) (ca_cons (ce_var 4) (ca_cons (ce_lst ca_nil) (ca_cons (ce_var 1) ca_nil)))))) (ce_lst ca_nil) (nomark _))))) (css_one (cs_ret ce_bl)) css_nil) (css_one (cs_ret (ce_cb (cr_all rfl) lk_all (ff_free c.X c.G (c.c.fact 12)) bbi_all (ca_cons (ce_lcA [("one", 9)] rfl sc__law_chain_right.nd (blk_of (by rfl)) (ce_var 5) (fun s H C cl fp => (cgv_name 9 sc__law_chain_right.nd)) (fun s H C cl fp => cts_nil) (fun s H C cl fp => (cx_call (ok__law_state_right c) (B.blk.mono (by decide)) tk0 (ff_glo c.X c.G (c.c.fact 11)) (ca_cons (ce_ix (ce_var 9) ce_int) (ca_cons (ce_ix (ce_var 9) ce_int) ca_nil))))) ca_nil))))))))
theorem ok__law_chain_right (c : Ct K mg base) : OkF P w K mg base 8 (He.ga K "_law_chain_right") ["box"] (spF K 1 fn__law_chain_right) := okF_of (c.c.def_ 37 (d := d__law_chain_right) rfl) (fg__law_chain_right c) (fun _ _ _ _ _ _ us hl => match us, hl with | [_], _ => rfl)
def fn__law_great_right : Fn := defF 7 ((seqS (parS 1 2 (fCons (fMake makeF 3 "Disk" fn_Disk___init__ (fCons (pureF (.int 40)) (fCons (pureF (.int 400)) (pureF [])))) (fCons (fCall 2 fn__law_new (fCons (pureF (.int 40)) (fCons (pureF (.int 400)) (pureF [])))) (pureF [])))) (seqS (forS (fRng1 (fCons (pureF (.int 450)) (pureF []))) (gSet 3) (seqS (asgS (fOp getD (fLst (fCons (pureF (.str "")) (fCons (fOp mulS (pureF (.str "~")) (pureF (.int 400))) (fCons (fCB strID (fCons (fVar 3) (pureF []))) (fCons (fOp addD (pureF (.str "a")) (fCB strID (fCons (fVar 3) (pureF [])))) (pureF [])))))) (fCall 2 fn__law_take (fCons (fVar 0) (fCons (pureF (.int 4)) (pureF []))))) (gSet 4)) (ifS (fOr (fNot (fTru (fCall 4 fn__law_wrote (fCons (fVar 1) (fCons (fVar 2) (fCons (fCall 2 fn__law_take (fCons (fVar 0) (fCons (pureF (.int 40)) (pureF [])))) (fCons (fVar 4) (pureF [])))))))) (fAnd (fTest (fOp eqA (fVar 3) (pureF (.int 49)))) (fNot (fTru (fCall 2 fn__law_settled (fCons (fVar 1) (fCons (fVar 2) (pureF [])))))))) (retS (pureF (.bl false))) fNx))) (seqS (asgS (fLc (fRng1 (fCons (pureF (.int 400)) (pureF []))) [7] (gSet 7) (fTest (fOp eqA (fCall 2 fn__law_take (fCons (fVar 0) (fCons (pureF (.int 2)) (pureF [])))) (pureF (.int 0)))) (fVar 7)) (gSet 5)) (seqS (forA (fLst (fCons (fVar 5) (fCons (fLstRg (pureF (.int 400))) (fCons (fLst (fCons (pureF (.int 399)) (pureF []))) (fCons (fLc (fRng1 (fCons (pureF (.int 400)) (pureF []))) [7] (gSet 7) (fTest (fOp (inD' true) (fVar 7) (fVar 5))) (fVar 7)) (pureF [])))))) (gSet 6) (ifS (fTest (fOp eqA (fCall 5 fn__law_one_right (fCons (fVar 0) (fCons (fVar 1) (fCons (fVar 2) (fCons (fVar 6) (fCons (fOp ltD (fCB lenD (fCons (fVar 6) (pureF []))) (pureF (.int 9))) (pureF []))))))) (fLst (pureF [])))) (retS (pureF (.bl false))) fNx)) (retS (fAndV (fOp eqA (fCall 3 fn__law_cut (fCons (fVar 1) (fCons (fOpO CatO (fSlice (fVar 5) (pureF none) (fInt (pureF (.int 399)))) (fLst (fCons (pureF (.int 400)) (pureF [])))) (fCons (pureF (.bl true)) (pureF []))))) (fLst (fCons (pureF (.str "done")) (fCons (pureF (.bl true)) (pureF []))))) (fCall 2 fn__law_state_right (fCons (fVar 1) (fCons (fVar 2) (pureF [])))))))))))
theorem fg__law_great_right (c : Ct K mg base) (fd : FuncData) (F : FunD K "_law_great_right" "_law_great_right" (defArgs st__law_great_right) (defBody st__law_great_right) (defScope st__law_great_right) [] [] (He.ga K "_law_great_right") fd) : FnG P w K mg base 8 (He.ga K "_law_great_right") fd ["box"] (spF K 1 fn__law_great_right) :=
  fn_okG F sc__law_great_right rfl rfl fun cdv A outer s H E B tk => (css_cons (cs_par 1 2 rfl sc__law_great_right.nd (ca_cons (cx_make make_ok (ff_mkr (c.c.fact 23)) (ok_Disk___init__ c) (B.mono (by decide)) tk (ff_glo c.X c.G (c.c.fact 24)) rfl (ca_cons ce_int (ca_cons ce_int ca_nil))) (ca_cons (cx_call (ok__law_new c) (B.mono (by decide)) tk (ff_glo c.X c.G (c.c.fact 22)) (ca_cons ce_int (ca_cons ce_int ca_nil))) ca_nil))) (css_cons (cs_for (passes_of rfl) rfl (ci_rng1 (ff_free c.X c.G (c.c.fact 6)) (ca_cons ce_int ca_nil)) (cg_name 3 sc__law_great_right.nd) (css_cons (cs_asg (ce_ix (ce_lst (ca_cons ce_str (ca_cons (ce_bin op_mulS lk_mulS ce_str ce_int) (ca_cons (ce_ct call_str_int lk_strI (ff_free c.X c.G (c.c.fact 56)) bty_str (ca_cons (ce_var 3) ca_nil)) (ca_cons (ce_bin opx_add lk_add ce_str (ce_ct call_str_int lk_strI (ff_free c.X c.G (c.c.fact 56)) bty_str (ca_cons (ce_var 3) ca_nil))) ca_nil))))) (cx_call (ok__law_take c) (B.mono (by decide)) tk (ff_glo c.X c.G (c.c.fact 15)) (ca_cons (ce_var 0) (ca_cons ce_int ca_nil)))) (cg_name 4 sc__law_great_right.nd)) (css_one (cs_if (cw_t (cw_or (ct_not (ct_tru (cx_call (ok__law_wrote c) (B.mono (by decide)) tk (ff_glo c.X c.G (c.c.fact 17)) (ca_cons (ce_var 1) (ca_cons (ce_var 2) (ca_cons (cx_call (ok__law_take c) (B.mono (by decide)) tk (ff_glo c.X c.G (c.c.fact 15)) (ca_cons (ce_var 0) (ca_cons ce_int ca_nil))) (ca_cons (ce_var 4) ca_nil))))))) (cw_or1 (cw_t (cw_and (ct_cmp (opx_eqA B.rpr.u64) lk_eqA (ce_var 3) ce_int (nomark _)) (cw_and1 (ct_not (ct_tru (cx_call (ok__law_settled c) (B.mono (by decide)) tk (ff_glo c.X c.G (c.c.fact 14)) (ca_cons (ce_var 1) (ca_cons (ce_var 2) ca_nil))))))))))) (css_one (cs_ret ce_bl)) css_nil)))) (css_cons (cs_asg (ce_lc [("at", 7)] rfl sc__law_great_right.nd (blk_of (by rfl)) (ci_rng1 (ff_free c.X c.G (c.c.fact 6)) (ca_cons ce_int ca_nil)) (fun s H C cl fp => (cgv_name 7 sc__law_great_right.nd)) (fun s H C cl fp => (cts_one (ct_cmp (opx_eqA B.blk.rpr.u64) lk_eqA (cx_call (ok__law_take c) (B.blk.mono (by decide)) tk0 (ff_glo c.X c.G (c.c.fact 15)) (ca_cons (ce_var 0) (ca_cons ce_int ca_nil))) ce_int (nomark _)))) (fun s H C cl fp => (ce_var 7))) (cg_name 5 sc__law_great_right.nd)) (css_cons (cs_forA (passes_of rfl) rfl (ce_lst (ca_cons (ce_var 5) (ca_cons (ce_lstRg rfl (ff_free c.X c.G (c.c.fact 16)) (ff_free c.X c.G (c.c.fact 6)) ce_int) (ca_cons (ce_lst (ca_cons ce_int ca_nil)) (ca_cons (ce_lc [("at", 7)] rfl sc__law_great_right.nd (blk_of (by rfl)) (ci_rng1 (ff_free c.X c.G (c.c.fact 6)) (ca_cons ce_int ca_nil)) (fun s H C cl fp => (cgv_name 7 sc__law_great_right.nd)) (fun s H C cl fp => (cts_one (ct_cmp op_notIn_seq (lk_in true) (ce_var 7) (ce_var 5) rfl))) (fun s H C cl fp => (ce_var 7))) ca_nil))))) (cg_name 6 sc__law_great_right.nd) (css_one (cs_if (ct_cmp (opx_eqA B.rpr.u64) lk_eqA (cx_call (ok__law_one_right c) (B.mono (by decide)) tk (ff_glo c.X c.G (c.c.fact 13)) (ca_cons (ce_var 0) (ca_cons (ce_var 1) (ca_cons (ce_var 2) (ca_cons (ce_var 6) (ca_cons (ce_cmp opx_lt lk_lt (ce_cb cx_len lk_len (ff_free c.X c.G (c.c.fact 3)) bbi_len (ca_cons (ce_var 6) ca_nil)) ce_int (nomark _)) ca_nil)))))) (ce_lst ca_nil) (nomark _)) (css_one (cs_ret ce_bl)) css_nil))) (css_one (cs_ret (ce_and (ce_cmp (opx_eqA B.rpr.u64) lk_eqA (cx_call (ok__law_cut c) (B.mono (by decide)) tk (ff_glo c.X c.G (c.c.fact 59)) (ca_cons (ce_var 1) (ca_cons (ce_catO (ce_slice (ce_var 5) co_none (co_some ce_int)) (ce_lst (ca_cons ce_int ca_nil))) (ca_cons ce_bl ca_nil)))) (ce_lst (ca_cons ce_str (ca_cons ce_bl ca_nil))) (nomark _)) (ce_one (cx_call (ok__law_state_right c) (B.mono (by decide)) tk (ff_glo c.X c.G (c.c.fact 11)) (ca_cons (ce_var 1) (ca_cons (ce_var 2) ca_nil)))))))))))
theorem ok__law_great_right (c : Ct K mg base) : OkF P w K mg base 8 (He.ga K "_law_great_right") ["box"] (spF K 1 fn__law_great_right) := okF_of (c.c.def_ 38 (d := d__law_great_right) rfl) (fg__law_great_right c) (fun _ _ _ _ _ _ us hl => match us, hl with | [_], _ => rfl)
def fn_law : Fn := defF 1 ((seqS (ifS (fAnd (fTest (fOp eqA (fOp modD (fCB int1D (fCons (fCB sumD (fCons (fSlice (fVar 0) (pureF none) (fInt (pureF (.int 2)))) (pureF []))) (pureF []))) (pureF (.int 8))) (pureF (.int 1)))) (fNot (fTru (fCall 1 fn__law_great_right (fCons (fCall 1 fn__law_box (fCons (fCall 2 fn__law_cell (fCons (fVar 0) (fCons (pureF (.int 2)) (pureF [])))) (pureF []))) (pureF [])))))) (retS (pureF (.bl false))) fNx) (seqS (forS (fRng1 (fCons (fCB max2D (fCons (pureF (.int 3)) (fCons (fCB min2D (fCons (pureF (.int 6)) (fCons (fCB lenD (fCons (fVar 0) (pureF []))) (pureF [])))) (pureF [])))) (pureF []))) (gSet 1) (ifS (fNot (fTru (fCall 1 fn__law_chain_right (fCons (fCall 1 fn__law_box (fCons (fCall 2 fn__law_cell (fCons (fVar 0) (fCons (fVar 1) (pureF [])))) (pureF []))) (pureF []))))) (retS (pureF (.bl false))) fNx)) (retS (pureF (.bl true))))))
theorem fg_law (c : Ct K mg base) (fd : FuncData) (F : FunD K "law" "law" (defArgs st_law) (defBody st_law) (defScope st_law) [] [] (He.ga K "law") fd) : FnG P w K mg base 9 (He.ga K "law") fd ["script"] (spF K 1 fn_law) :=
  fn_okG F sc_law rfl rfl fun cdv A outer s H E B tk => (css_cons (cs_if (cw_t (cw_and (ct_cmp (opx_eqA B.rpr.u64) lk_eqA (ce_bin op_mod lk_mod (ce_ct call_int1 lk_int1 (ff_free c.X c.G (c.c.fact 9)) bty_int (ca_cons (ce_cb (cr_sum rfl) lk_sum (ff_free c.X c.G (c.c.fact 8)) bbi_sum (ca_cons (ce_slice (ce_var 0) co_none (co_some ce_int)) ca_nil)) ca_nil)) ce_int) ce_int (nomark _)) (cw_and1 (ct_not (ct_tru (cx_call (ok__law_great_right c) (B.mono (by decide)) tk (ff_glo c.X c.G (c.c.fact 7)) (ca_cons (cx_call (ok__law_box c) (B.mono (by decide)) tk (ff_glo c.X c.G (c.c.fact 1)) (ca_cons (cx_call (ok__law_cell c) (B.mono (by decide)) tk (ff_glo c.X c.G (c.c.fact 0)) (ca_cons (ce_var 0) (ca_cons ce_int ca_nil))) ca_nil)) ca_nil))))))) (css_one (cs_ret ce_bl)) css_nil) (css_cons (cs_for (passes_of rfl) rfl (ci_rng1 (ff_free c.X c.G (c.c.fact 6)) (ca_cons (ce_cb (call_max2 rfl) lk_max2 (ff_free c.X c.G (c.c.fact 5)) bbi_max (ca_cons ce_int (ca_cons (ce_cb (call_min2 rfl) lk_min2 (ff_free c.X c.G (c.c.fact 4)) bbi_min (ca_cons ce_int (ca_cons (ce_cb cx_len lk_len (ff_free c.X c.G (c.c.fact 3)) bbi_len (ca_cons (ce_var 0) ca_nil)) ca_nil))) ca_nil))) ca_nil)) (cg_name 1 sc_law.nd) (css_one (cs_if (ct_not (ct_tru (cx_call (ok__law_chain_right c) (B.mono (by decide)) tk (ff_glo c.X c.G (c.c.fact 2)) (ca_cons (cx_call (ok__law_box c) (B.mono (by decide)) tk (ff_glo c.X c.G (c.c.fact 1)) (ca_cons (cx_call (ok__law_cell c) (B.mono (by decide)) tk (ff_glo c.X c.G (c.c.fact 0)) (ca_cons (ce_var 0) (ca_cons (ce_var 1) ca_nil))) ca_nil)) ca_nil)))) (css_one (cs_ret ce_bl)) css_nil))) (css_one (cs_ret ce_bl))))
theorem ok_law (c : Ct K mg base) : OkF P w K mg base 9 (He.ga K "law") ["script"] (spF K 1 fn_law) := okF_of (c.c.def_ 39 (d := d_law) rfl) (fg_law c) (fun _ _ _ _ _ _ us hl => match us, hl with | [_], _ => rfl)
end
def lawLevel : Nat := 9
def lawIx : Nat := 45
def lawFact : Nat := 82
-- loose: ["is_whole", "is_from_to", "is_index", "is_listed", "are_unlike", "ascend", "are_indices", "are_kept", "is_page_text", "_law_cell", "_law_box", "_law_take", "_law_text", "_law_new", "_law_behind", "_law_cut_of", "_law_state_right", "_law_wrote", "_law_settled", "_law_stopped", "_law_cut", "_law_bad_done", "_law_lists", "_law_refused_right", "_law_one_right", "_law_grown", "_law_chain_right", "_law_great_right", "EarlierError", "InvalidText", "InvalidWidth", "InvalidPages", "InvalidPage", "InvalidCount", "InvalidDone", "PowerCut", "Disk", "LEAST_PAGES", "MOST_PAGES", "LEAST_WIDTH", "MOST_WIDTH"]
end LW

set_option maxHeartbeats 4000000
namespace FL
open PySem L2

abbrev Ev {α : Type} (f : Fx α) (env : Dv) (S : List MO) (a : α) (S' : List MO) : Prop := f env S = some (.ok a, S')
abbrev Evx {α : Type} (f : Fx α) (env : Dv) (S : List MO) (c : Str) (p : Option (Str × D)) (S' : List MO) : Prop := f env S = some (.ex c p, S')
abbrev EvS (f : Sx) (env : Dv) (S : List MO) (fl : Fl) (env' : Dv) (S' : List MO) : Prop := f env S = some (fl, env', S')
def isExc : D → Bool
  | .exc => true
  | _ => false
section
variable {env env1 env2 env' : Dv} {S S1 S2 S3 S' : List MO} {α β : Type}
theorem ev_pure {a : α} : Ev (pureF a) env S a S := rfl
theorem ev_bind {f : Fx α} {k : α → Fx β} {a : α} {b : β} (h : Ev f env S a S1) (h2 : Ev (k a) env S1 b S2) : Ev (bindF f k) env S b S2 := by
  unfold Ev bindF at *
  rw [h]
  exact h2
theorem ev_lift {o : List MO → Option α} {a : α} (h : o S = some a) : Ev (liftF o) env S a S := by
  unfold Ev liftF
  rw [h]
theorem ev_var {i : Nat} {d : D} (h : env[i]? = some (some d)) (hd : isExc d = false) : Ev (fVar i) env S d S := by
  unfold Ev fVar
  rw [h]
  cases d <;> first | rfl | (cases hd; done)
theorem ev_nil : Ev (pureF ([] : List D)) env S [] S := rfl
theorem ev_cons {f : Fx D} {t : Fx (List D)} {d : D} {ds : List D} (h : Ev f env S d S1) (h2 : Ev t env S1 ds S2) : Ev (fCons f t) env S (d :: ds) S2 := ev_bind h (ev_bind h2 ev_pure)
theorem ev_op {op : List MO → D → D → Option D} {fa fb : Fx D} {x y d : D} (h : Ev fa env S x S1) (h2 : Ev fb env S1 y S2) (e : op S2 x y = some d) : Ev (fOp op fa fb) env S d S2 := ev_bind h (ev_bind h2 (ev_lift e))
theorem ev_un {op : List MO → D → Option D} {fa : Fx D} {x d : D} (h : Ev fa env S x S1) (e : op S1 x = some d) : Ev (fUn op fa) env S d S1 := ev_bind h (ev_lift e)
theorem ev_cb {op : List MO → List D → Option D} {fs : Fx (List D)} {ds : List D} {d : D} (h : Ev fs env S ds S1) (e : op S1 ds = some d) : Ev (fCB op fs) env S d S1 := ev_bind h (ev_lift e)
theorem ev_fld {cs : List Str} {f : Str} {fo : Fx D} {o d : D} (h : Ev fo env S o S1) (e : fldD cs f S1 o = some d) : Ev (fFld cs f fo) env S d S1 := ev_bind h (ev_lift e)
theorem ev_tup {t : Fx (List D)} {ds : List D} (h : Ev t env S ds S1) (hz : ds.length ≤ 100000) : Ev (fTup t) env S (.tup ds) S1 := ev_bind h (ev_lift (if_pos hz))
theorem ev_lst {t : Fx (List D)} {ds : List D} (h : Ev t env S ds S1) (hz : ds.length ≤ 100000) : Ev (fLst t) env S (.lst ds) S1 := ev_bind h (ev_lift (if_pos hz))
theorem ev_lstO {t : Fx (List D)} {ds : List D} (h : Ev t env S ds S1) (hz : ds.length ≤ 100000) : Ev (fLstO t) env S (.obj S1.length) (S1 ++ [.lst ds]) := ev_bind h (if_pos hz)
theorem ev_new {t : Fx (List D)} {ds : List D} (h : Ev t env S ds S1) : Ev (fNew t) env S (.obj S1.length) (S1 ++ [.lst ds]) := ev_bind h rfl
theorem ev_opO {op : List MO → D → D → Option (List D)} {fa fb : Fx D} {x y : D} {ds : List D} (h : Ev fa env S x S1) (h2 : Ev fb env S1 y S2) (e : op S2 x y = some ds) : Ev (fOpO op fa fb) env S (.obj S2.length) (S2 ++ [.lst ds]) := ev_new (ev_bind h (ev_bind h2 (ev_lift e)))
theorem ev_listO {fa : Fx D} {x : D} {ds : List D} (h : Ev fa env S x S1) (e : ListO S1 x = some ds) : Ev (fListO fa) env S (.obj S1.length) (S1 ++ [.lst ds]) := ev_new (ev_bind h (ev_lift e))
theorem ev_call {n : Nat} {fn : Fn} {fs : Fx (List D)} {ds : List D} {d : D} (h : Ev fs env S ds S1) (hn : ds.length = n) (e : callF fn ds S1 = some (.ok d, S2)) : Ev (fCall n fn fs) env S d S2 := by
  refine ev_bind h ?_
  unfold Ev
  dsimp only
  rw [if_pos hn]
  exact e
theorem ev_callx {n : Nat} {fn : Fn} {fs : Fx (List D)} {ds : List D} {c : Str} {p : Option (Str × D)} (h : Ev fs env S ds S1) (hn : ds.length = n) (e : callF fn ds S1 = some (.ex c p, S2)) : Evx (fCall n fn fs) env S c p S2 := by
  unfold Evx fCall bindF
  rw [h]
  dsimp only
  rw [if_pos hn]
  exact e
theorem isInst_obj {c m : Str} {n : Nat} {ns : List Str} {vs : List D} (h : S[n]? = some (.ins c ns vs)) (hm : m ∉ ns) : isInst c m S (.obj n) = some (.obj n) := by
  unfold isInst insView
  dsimp only
  rw [h]
  dsimp only
  rw [if_pos ⟨rfl, hm⟩]
theorem ev_meth {n : Nat} {c m : Str} {fn : Fn} {fo : Fx D} {fs : Fx (List D)} {o : D} {ds : List D} {d : D} (h : Ev fo env S o S1) (hi : isInst c m S1 o = some o) (h2 : Ev fs env S1 ds S2) (hn : ds.length + 1 = n) (e : callF fn (o :: ds) S2 = some (.ok d, S3)) : Ev (fMeth n c m fn fo fs) env S d S3 := by
  refine ev_bind (ev_bind h (ev_lift hi)) (ev_bind h2 ?_)
  unfold Ev
  dsimp only
  rw [if_pos hn]
  exact e
theorem ev_methx {n : Nat} {c m : Str} {fn : Fn} {fo : Fx D} {fs : Fx (List D)} {o : D} {ds : List D} {x : Str} {p : Option (Str × D)} (h : Ev fo env S o S1) (hi : isInst c m S1 o = some o) (h2 : Ev fs env S1 ds S2) (hn : ds.length + 1 = n) (e : callF fn (o :: ds) S2 = some (.ex x p, S3)) : Evx (fMeth n c m fn fo fs) env S x p S3 := by
  unfold Evx fMeth
  have h1 : Ev (bindF fo fun o => liftF fun S => isInst c m S o) env S o S1 := ev_bind h (ev_lift hi)
  unfold Ev at h1
  rw [bindF, h1]
  dsimp only
  unfold bindF
  rw [h2]
  dsimp only
  rw [if_pos hn]
  exact e
theorem ev_make {mk : Str → Fn → List D → List MO → Option (R D × List MO)} {n : Nat} {c : Str} {fn : Fn} {fs : Fx (List D)} {ds : List D} {d : D} (h : Ev fs env S ds S1) (hn : ds.length + 1 = n) (e : mk c fn ds S1 = some (.ok d, S2)) : Ev (fMake mk n c fn fs) env S d S2 := by
  refine ev_bind h ?_
  unfold Ev
  dsimp only
  rw [if_pos hn]
  exact e
theorem makeF_ok {c : Str} {fn : Fn} {ds : List D} (e : fn (.obj S.length :: ds) (S ++ [.ins c [] []]) = some (.ok .non, S')) : makeF c fn ds S = some (.ok (.obj S.length), S') := by
  unfold makeF
  rw [e]
theorem ev_kw {ks : List Str} {perm : List Nat} {fs : Fx (List D)} {ds : List D} (h : Ev fs env S ds S1) (hn : ds.length = ks.length) : Ev (fKw ks perm fs) env S (permL perm ds) S1 := ev_bind h (ev_lift (if_pos hn))
theorem ev_test {f : Fx D} {b : Bool} (h : Ev f env S (.bl b) S1) : Ev (fTest f) env S b S1 := ev_bind h (ev_lift rfl)
theorem ev_tru {f : Fx D} {d : D} {b : Bool} (h : Ev f env S d S1) (e : truD S1 d = some b) : Ev (fTru f) env S b S1 := ev_bind h (ev_lift e)
theorem ev_not {f : Fx Bool} {b : Bool} (h : Ev f env S b S1) : Ev (fNot f) env S (!b) S1 := ev_bind h ev_pure
theorem ev_and_t {f g : Fx Bool} {b : Bool} (h : Ev f env S true S1) (h2 : Ev g env S1 b S2) : Ev (fAnd f g) env S b S2 := ev_bind h h2
theorem ev_and_f {f g : Fx Bool} (h : Ev f env S false S1) : Ev (fAnd f g) env S false S1 := ev_bind h rfl
theorem ev_or_f {f g : Fx Bool} {b : Bool} (h : Ev f env S false S1) (h2 : Ev g env S1 b S2) : Ev (fOr f g) env S b S2 := ev_bind h h2
theorem ev_or_t {f g : Fx Bool} (h : Ev f env S true S1) : Ev (fOr f g) env S true S1 := ev_bind h rfl
theorem ev_andV_t {f g : Fx D} {d : D} (h : Ev f env S (.bl true) S1) (h2 : Ev g env S1 d S2) : Ev (fAndV f g) env S d S2 := ev_bind h h2
theorem ev_andV_f {f g : Fx D} (h : Ev f env S (.bl false) S1) : Ev (fAndV f g) env S (.bl false) S1 := ev_bind h rfl
theorem ev_notV {f : Fx D} {b : Bool} (h : Ev f env S (.bl b) S1) : Ev (fNotV f) env S (.bl (!b)) S1 := ev_bind h (ev_lift rfl)
theorem ev_if_t {t : Fx Bool} {f g : Fx D} {d : D} (h : Ev t env S true S1) (h2 : Ev f env S1 d S2) : Ev (fIf t f g) env S d S2 := ev_bind h h2
theorem ev_if_f {t : Fx Bool} {f g : Fx D} {d : D} (h : Ev t env S false S1) (h2 : Ev g env S1 d S2) : Ev (fIf t f g) env S d S2 := ev_bind h h2
theorem ev_chain_t {op op' : List MO → D → D → Option D} {fa fb fc : Fx D} {x y z d : D} (h : Ev fa env S x S1) (h2 : Ev fb env S1 y S2) (e : op S2 x y = some (.bl true)) (h3 : Ev fc env S2 z S3) (e2 : op' S3 y z = some d) : Ev (fChain op op' fa fb fc) env S d S3 :=
  ev_bind h (ev_bind h2 (ev_bind (ev_lift e) (ev_bind h3 (ev_lift e2))))
theorem ev_chain_f {op op' : List MO → D → D → Option D} {fa fb fc : Fx D} {x y : D} (h : Ev fa env S x S1) (h2 : Ev fb env S1 y S2) (e : op S2 x y = some (.bl false)) : Ev (fChain op op' fa fb fc) env S (.bl false) S2 :=
  ev_bind h (ev_bind h2 (ev_bind (ev_lift e) rfl))
theorem ev_int {f : Fx D} {i : Int} (h : Ev f env S (.int i) S1) : Ev (fInt f) env S (some i) S1 := ev_bind h (ev_lift rfl)
theorem ev_slice {f : Fx D} {lo hi : Fx (Option Int)} {x d : D} {l u : Option Int} (h : Ev f env S x S1) (h2 : Ev lo env S1 l S2) (h3 : Ev hi env S2 u S3) (e : sliceD S3 x l u = some d) : Ev (fSlice f lo hi) env S d S3 := ev_bind h (ev_bind h2 (ev_bind h3 (ev_lift e)))
theorem ev_join {fo fa : Fx D} {a : Str} {x d : D} (h : Ev fo env S (.str a) S1) (h2 : Ev fa env S1 x S2) (e : joinD S2 (.str a) x = some d) : Ev (fJoin fo fa) env S d S2 := ev_bind h (ev_bind h2 (ev_lift e))
theorem ev_rng1 {fs : Fx (List D)} {j : Int} (h : Ev fs env S [.int j] S1) (hj : -100000 ≤ j ∧ j ≤ 100000) : Ev (fRng1 fs) env S (rngD 0 j.toNat) S1 := ev_bind h (ev_lift (if_pos hj))
theorem ev_rng2 {fs : Fx (List D)} {i j : Int} (h : Ev fs env S [.int i, .int j] S1) (hj : -100000 ≤ i ∧ i ≤ 100000 ∧ -100000 ≤ j ∧ j ≤ 100000) : Ev (fRng2 fs) env S (rngD i (j - i).toNat) S1 := ev_bind h (ev_lift (if_pos hj))
theorem ev_lstRg {fa : Fx D} {n : Int} (h : Ev fa env S (.int n) S1) (hz : -1000000 < n ∧ n ≤ 50000) : Ev (fLstRg fa) env S (.lst (rgD 0 n)) S1 := ev_un h (if_pos hz)
theorem ev_lc {src : Fx (List D)} {vs : List Nat} {gx : Gx} {tt : Fx Bool} {te : Fx D} {xs ys : List D} (h : Ev src env S xs S1) (hl : xs.length ≤ 50000) (e : lcRun gx tt te (wipeD env vs) xs S1 = some (ys, S2)) : Ev (fLc src vs gx tt te) env S (.lst ys) S2 := by
  refine ev_bind h ?_
  unfold Ev
  dsimp only
  rw [if_pos hl, e]
theorem ev_mt {op : List D → List D → Option (List D × D)} {fo : Fx D} {fs : Fx (List D)} {n : Nat} {xs xs' ds : List D} {d : D} (h : Ev fo env S (.obj n) S1) (h0 : viewL S1 (.obj n) = some xs) (h2 : Ev fs env S1 ds S2) (hx : S2[n]? = some (.lst xs)) (e : op xs ds = some (xs', d)) : Ev (fMt op fo fs) env S d (S2.set n (.lst xs')) := by
  refine ev_bind h (ev_bind (ev_lift h0) (ev_bind h2 ?_))
  unfold Ev mtD
  dsimp only
  rw [hx]
  dsimp only
  rw [e]
theorem ev_mt0 {op : List D → List D → Option (List D × D)} {fo : Fx D} {n : Nat} {xs xs' : List D} {d : D} (h : Ev fo env S (.obj n) S1) (hx : S1[n]? = some (.lst xs)) (e : op xs [] = some (xs', d)) : Ev (fMt0 op fo) env S d (S1.set n (.lst xs')) := by
  refine ev_bind h ?_
  unfold Ev mtD
  dsimp only
  rw [hx]
  dsimp only
  rw [e]
theorem ev_isi {owns : List Str} {cs : List Cl} {f : Fx D} {x d : D} (h : Ev f env S x S1) (e : isiD owns cs S1 x = some d) : Ev (fIsi owns cs f) env S d S1 := ev_bind h (ev_lift e)
theorem es_nx : EvS fNx env S .nx env S := rfl
theorem es_seq {f h : Sx} {fl : Fl} (h1 : EvS f env S .nx env1 S1) (h2 : EvS h env1 S1 fl env2 S2) : EvS (seqS f h) env S fl env2 S2 := by
  unfold EvS seqS at *
  rw [h1]
  exact h2
theorem es_seq_rt {f h : Sx} {d : D} (h1 : EvS f env S (.rt d) env1 S1) : EvS (seqS f h) env S (.rt d) env1 S1 := by
  unfold EvS seqS at *
  rw [h1]
theorem es_seq_ex {f h : Sx} {c : Str} {p : Option (Str × D)} (h1 : EvS f env S (.ex c p) env1 S1) : EvS (seqS f h) env S (.ex c p) env1 S1 := by
  unfold EvS seqS at *
  rw [h1]
theorem es_bind {f : Fx α} {k : α → Sx} {a : α} {fl : Fl} (h : Ev f env S a S1) (h2 : EvS (k a) env S1 fl env2 S2) : EvS (bindS f k) env S fl env2 S2 := by
  unfold EvS bindS at *
  rw [h]
  exact h2
theorem es_bindx {f : Fx α} {k : α → Sx} {c : Str} {p : Option (Str × D)} (h : Evx f env S c p S1) : EvS (bindS f k) env S (.ex c p) env S1 := by
  unfold EvS bindS
  rw [h]
theorem es_if_t {t : Fx Bool} {f h : Sx} {fl : Fl} (h1 : Ev t env S true S1) (h2 : EvS f env S1 fl env2 S2) : EvS (ifS t f h) env S fl env2 S2 := es_bind h1 h2
theorem es_if_f {t : Fx Bool} {f h : Sx} {fl : Fl} (h1 : Ev t env S false S1) (h2 : EvS h env S1 fl env2 S2) : EvS (ifS t f h) env S fl env2 S2 := es_bind h1 h2
theorem es_ret {f : Fx D} {d : D} (h : Ev f env S d S1) : EvS (retS f) env S (.rt d) env S1 := es_bind h rfl
theorem es_retx {f : Fx D} {c : Str} {p : Option (Str × D)} (h : Evx f env S c p S1) : EvS (retS f) env S (.ex c p) env S1 := es_bindx h
theorem es_drop {f : Fx D} {d : D} (h : Ev f env S d S1) : EvS (dropS f) env S .nx env S1 := es_bind h rfl
theorem es_dropx {f : Fx D} {c : Str} {p : Option (Str × D)} (h : Evx f env S c p S1) : EvS (dropS f) env S (.ex c p) env S1 := es_bindx h
theorem es_asg {f : Fx D} {gx : Gx} {d : D} (h : Ev f env S d S1) (e : gx d env S1 = some (env', S2)) : EvS (asgS f gx) env S .nx env' S2 := es_bind h (by unfold EvS; dsimp only; rw [e])
theorem es_set {f : Fx D} {i : Nat} {d : D} (h : Ev f env S d S1) : EvS (asgS f (gSet i)) env S .nx (env.set i (some d)) S1 := es_asg h rfl
theorem es_fld {cs : List Str} {f : Str} {fv fo : Fx D} {d o : D} (h : Ev fv env S d S1) (h2 : Ev fo env S1 o S2) (e : storeF cs f o d S2 = some S3) : EvS (fldS cs f fv fo) env S .nx env S3 := es_bind h (es_bind h2 (by unfold EvS; dsimp only; rw [e]))
theorem es_par {i j : Nat} {fs : Fx (List D)} {d e : D} (h : Ev fs env S [d, e] S1) : EvS (parS i j fs) env S .nx ((env.set i (some d)).set j (some e)) S1 := es_bind h rfl
theorem es_par3 {i j l : Nat} {fs : Fx (List D)} {d e u : D} (h : Ev fs env S [d, e, u] S1) : EvS (parS3 i j l fs) env S .nx (((env.set i (some d)).set j (some e)).set l (some u)) S1 := es_bind h rfl
theorem es_raise {c f : Str} {fe : Fx D} {d : D} (h : Ev fe env S d S1) : EvS (raiseS c f fe) env S (.ex c (some (f, d))) env S1 := es_bind h rfl
theorem es_raise0 {c : Str} : EvS (raiseS0 c) env S (.ex c none) env S := rfl
theorem es_forA_t {f : Fx D} {gx : Gx} {body : Sx} {xs : List D} {fl : Fl} (h : Ev f env S (.tup xs) S1) (h2 : EvS (loopS gx body xs) env S1 fl env2 S2) : EvS (forA f gx body) env S fl env2 S2 := es_bind h h2
theorem es_forA_l {f : Fx D} {gx : Gx} {body : Sx} {xs : List D} {fl : Fl} (h : Ev f env S (.lst xs) S1) (h2 : EvS (loopS gx body xs) env S1 fl env2 S2) : EvS (forA f gx body) env S fl env2 S2 := es_bind h h2
theorem es_forA_o {f : Fx D} {gx : Gx} {body : Sx} {n : Nat} {xs : List D} {fl : Fl} (h : Ev f env S (.obj n) S1) (hv : viewL S1 (.obj n) = some xs) (h2 : EvS (liveS (.obj n) gx body (xs.length + 1) 0) env S1 fl env2 S2) : EvS (forA f gx body) env S fl env2 S2 := es_bind h (by
  unfold EvS
  dsimp only
  rw [hv]
  exact h2)
theorem es_for {f : Fx (List D)} {gx : Gx} {body : Sx} {xs : List D} {fl : Fl} (h : Ev f env S xs S1) (h2 : EvS (loopS gx body xs) env S1 fl env2 S2) : EvS (forS f gx body) env S fl env2 S2 := es_bind h h2
theorem es_try_ok {f : Sx} {hs : List Hd} {d : D} (h : EvS f env S (.rt d) env1 S1) : EvS (tryS f hs) env S (.rt d) env1 S1 := by
  unfold EvS tryS at *
  rw [h]
theorem es_try_ex {f : Sx} {hs : List Hd} {c : Str} {p : Option (Str × D)} {fl : Fl} (h : EvS f env S (.ex c p) env1 S1) (h2 : handle hs c p env1 S1 = some (fl, env2, S2)) : EvS (tryS f hs) env S fl env2 S2 := by
  unfold EvS tryS at *
  rw [h]
  exact h2
theorem handle_rt {x : Hd} {r : List Hd} {c : Str} {p : Option (Str × D)} {d : D} (hs : x.subs.lookup c = some true) (h : EvS (x.h c p) (inD env x.slot) S (.rt d) env1 S1) : handle (x :: r) c p env S = some (.rt d, outD env1 x.slot, S1) := by
  unfold handle
  rw [hs]
  dsimp only
  rw [h]
theorem handle_no {x : Hd} {r : List Hd} {c : Str} {p : Option (Str × D)} (hs : x.subs.lookup c = some false) : handle (x :: r) c p env S = handle r c p env S := by
  rw [handle]
  rw [hs]
/-- a def -/
theorem fn_rt {pad : Nat} {body : Sx} {ds : List D} {d : D} (h : EvS body (ds.map some ++ List.replicate pad none) S (.rt d) env1 S1) : defF pad body ds S = some (.ok d, S1) := by
  unfold defF
  rw [h]
theorem fn_nx {pad : Nat} {body : Sx} {ds : List D} (h : EvS body (ds.map some ++ List.replicate pad none) S .nx env1 S1) : defF pad body ds S = some (.ok .non, S1) := by
  unfold defF
  rw [h]
theorem fn_ex {pad : Nat} {body : Sx} {ds : List D} {c : Str} {p : Option (Str × D)} (h : EvS body (ds.map some ++ List.replicate pad none) S (.ex c p) env1 S1) : defF pad body ds S = some (.ex c p, S1) := by
  unfold defF
  rw [h]
theorem callF_pure {fn : Fn} {ds : List D} {d : D} (h : ∀ S, fn ds S = some (.ok d, S)) : callF fn ds S = some (.ok d, S) := by
  unfold callF
  split
  · rw [h []]
    dsimp only
    split
    · rfl
    · exact h S
  · exact h S
theorem callF_open {fn : Fn} {ds : List D} (h : closedL ds = false) : callF fn ds S = fn ds S := by
  unfold callF
  rw [h]
  rfl
theorem callF_obj {fn : Fn} {ds : List D} {d : D} {S0 : List MO} (h : fn ds [] = some (.ok d, S0)) (hd : d.closed = false) : callF fn ds S = fn ds S := by
  unfold callF
  split
  · rw [h]
    dsimp only
    rw [hd]
    rfl
  · rfl
theorem loop_inv {gx : Gx} {body : Sx} {xs : List D} (I : Nat → Dv → List MO → Prop) (step : ∀ (i : Nat) (d : D) (env : Dv) (S : List MO), xs[i]? = some d → I i env S → ∃ env1 S1 env2 S2, gx d env S = some (env1, S1) ∧ EvS body env1 S1 .nx env2 S2 ∧ I (i + 1) env2 S2) :
    ∀ (n i : Nat) (env : Dv) (S : List MO), xs.length = i + n → I i env S → ∃ env' S', EvS (loopS gx body (xs.drop i)) env S .nx env' S' ∧ I xs.length env' S'
  | 0, i, env, S, hn, h => by
    rw [List.drop_eq_nil_of_le (by omega)]
    exact ⟨env, S, rfl, by rw [hn]; exact h⟩
  | n + 1, i, env, S, hn, h => by
    have hi : i < xs.length := by omega
    obtain ⟨env1, S1, env2, S2, e1, e2, h2⟩ := step i xs[i] env S (List.getElem?_eq_getElem hi) h
    obtain ⟨env', S', e3, h3⟩ := loop_inv I step n (i + 1) env2 S2 (by omega) h2
    refine ⟨env', S', ?_, h3⟩
    rw [List.drop_eq_getElem_cons hi]
    unfold EvS loopS
    rw [e1]
    dsimp only
    rw [e2]
    exact e3
theorem loop_all {gx : Gx} {body : Sx} {xs : List D} (I : Nat → Dv → List MO → Prop) (h0 : I 0 env S) (step : ∀ (i : Nat) (d : D) (env : Dv) (S : List MO), xs[i]? = some d → I i env S → ∃ env1 S1 env2 S2, gx d env S = some (env1, S1) ∧ EvS body env1 S1 .nx env2 S2 ∧ I (i + 1) env2 S2) :
    ∃ env' S', EvS (loopS gx body xs) env S .nx env' S' ∧ I xs.length env' S' := by
  have h := loop_inv (gx := gx) (body := body) (xs := xs) I step xs.length 0 env S (by omega) h0
  rw [List.drop_zero] at h
  exact h
/-- a loop over a list as it stands, which stays -/
theorem live_inv {gx : Gx} {body : Sx} {d0 : D} {xs : List D} (I : Nat → Dv → List MO → Prop) (hv : ∀ i env S, I i env S → viewL S d0 = some xs) (step : ∀ (i : Nat) (d : D) (env : Dv) (S : List MO), xs[i]? = some d → I i env S → ∃ env1 S1 env2 S2, gx d env S = some (env1, S1) ∧ EvS body env1 S1 .nx env2 S2 ∧ I (i + 1) env2 S2) :
    ∀ (n i m : Nat) (env : Dv) (S : List MO), xs.length = i + n → n < m → I i env S → ∃ env' S', EvS (liveS d0 gx body m i) env S .nx env' S' ∧ I xs.length env' S'
  | 0, i, m, env, S, hn, hm, h => by
    obtain ⟨m, rfl⟩ : ∃ k, m = k + 1 := ⟨m - 1, by omega⟩
    refine ⟨env, S, ?_, by rw [hn]; exact h⟩
    unfold EvS liveS
    rw [hv i env S h]
    dsimp only
    rw [List.getElem?_eq_none (by omega)]
  | n + 1, i, m, env, S, hn, hm, h => by
    obtain ⟨m, rfl⟩ : ∃ k, m = k + 1 := ⟨m - 1, by omega⟩
    have hi : i < xs.length := by omega
    obtain ⟨env1, S1, env2, S2, e1, e2, h2⟩ := step i xs[i] env S (List.getElem?_eq_getElem hi) h
    obtain ⟨env', S', e3, h3⟩ := live_inv I hv step n (i + 1) m env2 S2 (by omega) (by omega) h2
    refine ⟨env', S', ?_, h3⟩
    unfold EvS liveS
    rw [hv i env S h]
    dsimp only
    rw [List.getElem?_eq_getElem hi]
    dsimp only
    rw [e1]
    dsimp only
    rw [e2]
    exact e3
theorem live_all {gx : Gx} {body : Sx} {d0 : D} {xs : List D} (I : Nat → Dv → List MO → Prop) (h0 : I 0 env S) (hv : ∀ i env S, I i env S → viewL S d0 = some xs) (step : ∀ (i : Nat) (d : D) (env : Dv) (S : List MO), xs[i]? = some d → I i env S → ∃ env1 S1 env2 S2, gx d env S = some (env1, S1) ∧ EvS body env1 S1 .nx env2 S2 ∧ I (i + 1) env2 S2) :
    ∃ env' S', EvS (liveS d0 gx body (xs.length + 1) 0) env S .nx env' S' ∧ I xs.length env' S' := live_inv I hv step xs.length 0 _ env S (by omega) (by omega) h0
/-- a comprehension with an invariant: the items so far -/
theorem lc_inv {gx : Gx} {tt : Fx Bool} {te : Fx D} {env0 : Dv} {xs : List D} (I : Nat → List D → List MO → Prop) (step : ∀ (i : Nat) (d : D) (acc : List D) (S : List MO), xs[i]? = some d → I i acc S → ∃ env1 S1, gx d env0 S = some (env1, S1) ∧
    ((∃ S2 y S3, Ev tt env1 S1 true S2 ∧ Ev te env1 S2 y S3 ∧ I (i + 1) (acc ++ [y]) S3) ∨ (∃ S2, Ev tt env1 S1 false S2 ∧ I (i + 1) acc S2))) :
    ∀ (n i : Nat) (acc : List D) (S : List MO), xs.length = i + n → I i acc S → ∃ ys S', lcRun gx tt te env0 (xs.drop i) S = some (ys, S') ∧ I xs.length (acc ++ ys) S'
  | 0, i, acc, S, hn, h => by
    rw [List.drop_eq_nil_of_le (by omega)]
    exact ⟨[], S, rfl, by rw [hn, List.append_nil]; exact h⟩
  | n + 1, i, acc, S, hn, h => by
    have hi : i < xs.length := by omega
    rw [List.drop_eq_getElem_cons hi]
    obtain ⟨env1, S1, e1, h2⟩ := step i xs[i] acc S (List.getElem?_eq_getElem hi) h
    rcases h2 with ⟨S2, y, S3, e2, e3, h3⟩ | ⟨S2, e2, h3⟩
    · obtain ⟨ys, S', e4, h4⟩ := lc_inv I step n (i + 1) (acc ++ [y]) S3 (by omega) h3
      refine ⟨y :: ys, S', ?_, by rw [List.append_assoc] at h4; exact h4⟩
      unfold lcRun
      rw [e1]
      dsimp only
      rw [e2]
      dsimp only
      rw [e3]
      dsimp only
      rw [e4]
    · obtain ⟨ys, S', e4, h4⟩ := lc_inv I step n (i + 1) acc S2 (by omega) h3
      refine ⟨ys, S', ?_, h4⟩
      unfold lcRun
      rw [e1]
      dsimp only
      rw [e2]
      exact e4
theorem lc_all {gx : Gx} {tt : Fx Bool} {te : Fx D} {env0 : Dv} {xs : List D} (I : Nat → List D → List MO → Prop) (h0 : I 0 [] S) (step : ∀ (i : Nat) (d : D) (acc : List D) (S : List MO), xs[i]? = some d → I i acc S → ∃ env1 S1, gx d env0 S = some (env1, S1) ∧
    ((∃ S2 y S3, Ev tt env1 S1 true S2 ∧ Ev te env1 S2 y S3 ∧ I (i + 1) (acc ++ [y]) S3) ∨ (∃ S2, Ev tt env1 S1 false S2 ∧ I (i + 1) acc S2))) : ∃ ys S', lcRun gx tt te env0 xs S = some (ys, S') ∧ I xs.length ys S' := by
  have h := lc_inv (gx := gx) (tt := tt) (te := te) (env0 := env0) (xs := xs) I step xs.length 0 [] S (by omega) h0
  rw [List.drop_zero] at h
  exact h
/-- over plain data, without a test -/
theorem lcRun_map {gx : Gx} {te : Fx D} {env0 : Dv} {f : D → D} : ∀ {xs : List D}, (∀ d ∈ xs, ∃ env1, gx d env0 S = some (env1, S) ∧ te env1 S = some (.ok (f d), S)) → lcRun gx (pureF true) te env0 xs S = some (xs.map f, S)
  | [], _ => rfl
  | d :: xs, h => by
    obtain ⟨env1, e1, e2⟩ := h d List.mem_cons_self
    unfold lcRun
    rw [e1]
    simp only [pureF, e2]
    rw [lcRun_map fun x hx => h x (List.mem_cons_of_mem _ hx)]
    rfl
theorem liveC_map {gx : Gx} {te : Fx D} {env0 : Dv} {f : D → D} {d : D} {xs : List D} (hv : viewL S d = some xs) (h : ∀ x ∈ xs, ∃ env1, gx x env0 S = some (env1, S) ∧ te env1 S = some (.ok (f x), S)) : ∀ (m i : Nat), xs.length < m + i → i ≤ xs.length → liveC d gx (pureF true) te env0 m i S = some ((xs.drop i).map f, S)
  | 0, i, h1, h2 => by omega
  | m + 1, i, h1, h2 => by
    unfold liveC
    rw [hv]
    dsimp only
    by_cases hi : i < xs.length
    · rw [List.getElem?_eq_getElem hi]
      dsimp only
      obtain ⟨env1, e1, e2⟩ := h xs[i] (List.getElem_mem hi)
      rw [e1]
      simp only [pureF, e2]
      rw [liveC_map hv h m (i + 1) (by omega) hi, List.drop_eq_getElem_cons hi]
      rfl
    · rw [List.getElem?_eq_none (by omega)]
      rw [List.drop_eq_nil_of_le (by omega)]
      rfl
theorem viewL_of_S {d : D} {xs : List D} (h : viewS S d = some xs) : viewL S d = some xs ∨ d = .tup xs := by
  unfold viewS at h
  cases q : viewL S d with
  | some ys => rw [q] at h; exact .inl h
  | none =>
    rw [q] at h
    cases d <;> first | (cases h; exact .inr rfl) | (cases h; done)
/-- over a list or a tuple, however it stands -/
theorem ev_lcA {src : Fx D} {vs : List Nat} {gx : Gx} {te : Fx D} {f : D → D} {d : D} {xs : List D} (hs : Ev src env S d S1) (hv : viewS S1 d = some xs) (hl : xs.length ≤ 50000) (h : ∀ x ∈ xs, ∃ env1, gx x (wipeD env vs) S1 = some (env1, S1) ∧ te env1 S1 = some (.ok (f x), S1)) :
    Ev (lcA src vs gx (pureF true) te) env S (.lst (xs.map f)) S1 := by
  refine ev_bind hs ?_
  unfold Ev
  rcases viewL_of_S hv with hv | hv
  · cases d with
    | lst ys =>
      cases hv
      simp only [hl, if_true]
      rw [lcRun_map h]
    | scr ys =>
      cases hv
      simp only [hl, if_true]
      rw [lcRun_map h]
    | obj n =>
      simp only [hv, hl, if_true]
      rw [liveC_map hv h (xs.length + 1) 0 (by omega) (Nat.zero_le _)]
      rfl
    | _ => cases hv
  · subst hv
    simp only [hl, if_true]
    rw [lcRun_map h]
theorem blsOf_map {γ : Type} (f : γ → Bool) : ∀ xs : List γ, blsOf (xs.map fun x => D.bl (f x)) = some (xs.map f)
  | [] => rfl
  | x :: xs => by
    rw [List.map_cons, List.map_cons]
    unfold blsOf
    rw [blsOf_map f xs]
end
end FL

namespace LW
open PySem FL

def plainD : D → Bool
  | .non => true
  | .bl _ => true
  | .int _ => true
  | .str _ => true
  | .lst _ => true
  | .tup _ => true
  | .dK _ _ => true
  | _ => false
theorem plain_exc {d : D} (h : plainD d = true) : isExc d = false := by
  cases d <;> first | rfl | (cases h; done)
def whl : D → Bool
  | .int _ => true
  | _ => false
theorem is_whole_eq {d : D} (h : plainD d = true) (S : List MO) : fn_is_whole [d] S = some (.ok (.bl (whl d)), S) := by
  cases d <;> first | rfl | (cases h; done)
def idx (d : D) (n : Int) : Bool := match d with
  | .int i => decide (0 ≤ i) && decide (i < n)
  | _ => false
theorem is_index_eq {d : D} (h : plainD d = true) (n : Int) (S : List MO) : fn_is_index [d, .int n] S = some (.ok (.bl (idx d n)), S) := by
  have e : Ev (fCall 1 fn_is_whole (fCons (fVar 0) (pureF []))) ([d, .int n].map some ++ List.replicate 0 none) S (.bl (whl d)) S := ev_call (ev_cons (ev_var rfl (plain_exc h)) ev_nil) rfl (callF_pure (is_whole_eq h))
  refine fn_rt (es_ret ?_)
  cases d with
  | int i =>
    refine ev_andV_t e ?_
    show Ev _ _ _ (D.bl (decide (0 ≤ i) && decide (i < n))) _
    by_cases h0 : 0 ≤ i
    · rw [decide_eq_true h0, Bool.true_and]
      exact ev_chain_t ev_pure (ev_var rfl rfl) (by show some (D.bl (decide (0 ≤ i))) = _; rw [decide_eq_true h0]) (ev_var rfl rfl) rfl
    · rw [decide_eq_false h0, Bool.false_and]
      exact ev_chain_f ev_pure (ev_var rfl rfl) (by show some (D.bl (decide (0 ≤ i))) = _; rw [decide_eq_false h0])
  | _ => first | exact ev_andV_f e | (cases h; done)
theorem is_from_to_eq (i a b : Int) (S : List MO) : fn_is_from_to [.int i, .int a, .int b] S = some (.ok (.bl (decide (a ≤ i) && decide (i ≤ b))), S) := by
  refine fn_rt (es_ret (ev_andV_t (ev_call (ev_cons (ev_var rfl rfl) ev_nil) rfl (callF_pure (is_whole_eq (d := .int i) rfl))) ?_))
  by_cases h0 : a ≤ i
  · rw [decide_eq_true h0, Bool.true_and]
    exact ev_chain_t (ev_var rfl rfl) (ev_var rfl rfl) (by show some (D.bl (decide (a ≤ i))) = _; rw [decide_eq_true h0]) (ev_var rfl rfl) rfl
  · rw [decide_eq_false h0, Bool.false_and]
    exact ev_chain_f (ev_var rfl rfl) (ev_var rfl rfl) (by show some (D.bl (decide (a ≤ i))) = _; rw [decide_eq_false h0])
def allPlain (xs : List D) : Bool := xs.all plainD
def allIdx (xs : List D) (n : Int) : Bool := xs.all fun d => idx d n
def zOf (xs : List D) : List Int := xs.map fun d => match d with
  | .int i => i
  | _ => 0
theorem intsOf_of {n : Int} : ∀ {xs : List D}, allIdx xs n = true → intsOf xs = some (zOf xs)
  | [], _ => rfl
  | d :: xs, h => by
    unfold allIdx at h
    rw [List.all_cons, Bool.and_eq_true] at h
    have ih := intsOf_of (xs := xs) h.2
    cases d <;> first | (cases h.1; done) | (unfold intsOf zOf; rw [List.map_cons, ih]; rfl)
theorem lenD_of {d : D} {xs : List D} {S : List MO} (hv : viewS S d = some xs) (hs : isS d = false) : lenD S [d] = some (.int xs.length) := by
  unfold lenD
  cases d <;> first | (cases hs; done) | (dsimp only; rw [hv])
/-- a value that may be passed as a list of indices: a list (plain or of the store), a tuple -/
theorem are_unlike_eq {d : D} {xs : List D} {ns : List Int} {S : List MO} (hd : isExc d = false) (hv : viewS S d = some xs) (hi : intsOf xs = some ns) (hl : ns.length ≤ 4000) (hx : ns.length = xs.length) (hs : isS d = false) : fn_are_unlike [d] S = some (.ok (.bl (decide (((nub ns).length : Int) = ns.length))), S) := by
  refine fn_rt (es_ret (ev_op (x := .int (nub ns).length) (y := .int ns.length) (ev_un (ev_var rfl hd) ?_) (ev_cb (ev_cons (ev_var rfl hd) ev_nil) ?_) rfl))
  · unfold lenSetD
    rw [hv]
    dsimp only
    rw [hi]
    dsimp only
    rw [if_pos hl]
  · rw [lenD_of hv hs, hx]
theorem is_listed_eq {d : D} {S : List MO} {b : Bool} (hd : isExc d = false) (h : isiD ["Disk"] [.b .list, .b .tuple] S d = some (.bl b)) : fn_is_listed [d] S = some (.ok (.bl b), S) := fn_rt (es_ret (ev_isi (ev_var rfl hd) h))
theorem getD_of {d : D} {xs : List D} {S : List MO} (hv : viewS S d = some xs) (hs : isS d = false) (i : Int) : getD S d (.int i) = L2.atI xs i := by
  unfold getD
  cases d <;> first | (cases hs; done) | (dsimp only; rw [hv])
theorem atI_nat {α : Type} {xs : List α} {i : Nat} : L2.atI xs (i : Int) = xs[i]? := by
  unfold L2.atI L2.ixN
  rw [if_pos (by omega)]
  by_cases h : i < xs.length
  · rw [if_pos (by omega)]
    simp
  · rw [List.getElem?_eq_none (by omega), if_neg (by omega)]
    rfl
def asc : List Int → Bool
  | a :: b :: r => decide (a < b) && asc (b :: r)
  | _ => true
theorem asc_range : ∀ l : List Int, ((List.range (l.length - 1)).all fun k => decide (l.getD k 0 < l.getD (k + 1) 0)) = asc l
  | [] => rfl
  | [a] => rfl
  | a :: b :: r => by
    have ih := asc_range (b :: r)
    show ((List.range (r.length + 1)).all _) = _
    rw [List.range_succ_eq_map, List.all_cons, List.all_map]
    show (decide (a < b) && _) = (decide (a < b) && asc (b :: r))
    rw [← ih]
    rfl
def kept (xs : List D) (n : Int) : Bool := allIdx xs n && decide (((nub (zOf xs)).length : Int) = (zOf xs).length) && asc (zOf xs)
theorem zOf_len (xs : List D) : (zOf xs).length = xs.length := by unfold zOf; rw [List.length_map]
/-- range(1, n) -/
theorem rngD_map (m : Nat) (f : D → D) : (rngD 1 m).map f = (List.range m).map fun k : Nat => f (.int (1 + (k : Nat))) := by
  unfold rngD
  rw [List.map_map]
  rfl
theorem zOf_get {xs : List D} {n : Int} (h : allIdx xs n = true) {k : Nat} (hk : k < xs.length) : xs[k]? = some (.int ((zOf xs).getD k 0)) := by
  rw [List.getElem?_eq_getElem hk]
  have hx : idx xs[k] n = true := List.all_eq_true.mp h _ (List.getElem_mem hk)
  unfold zOf
  rw [List.getD_eq_getElem?_getD, List.getElem?_map, List.getElem?_eq_getElem hk]
  cases q : xs[k] <;> first | (rw [q] at hx; cases hx; done) | rfl
theorem ascend_eq {d : D} {xs : List D} {n : Int} {S : List MO} (hd : isExc d = false) (hv : viewS S d = some xs) (hs : isS d = false) (hi : allIdx xs n = true) (hl : xs.length ≤ 4000) : fn_ascend [d] S = some (.ok (.bl (asc (zOf xs))), S) := by
  refine fn_rt (es_ret (ev_cb (ds := [.lst ((rngD 1 (xs.length - 1)).map fun z => match z with
    | .int k => .bl (decide ((zOf xs).getD (k - 1).toNat 0 < (zOf xs).getD k.toNat 0))
    | _ => .non)]) (ev_cons ?_ ev_nil) ?_))
  · have er : Ev (fRng2 (fCons (pureF (.int 1)) (fCons (fCB lenD (fCons (fVar 0) (pureF []))) (pureF [])))) ([d].map some ++ List.replicate 1 none) S (rngD 1 (xs.length - 1)) S := by
      have e : Ev (fRng2 (fCons (pureF (.int 1)) (fCons (fCB lenD (fCons (fVar 0) (pureF []))) (pureF [])))) ([d].map some ++ List.replicate 1 none) S (rngD 1 ((xs.length : Int) - 1).toNat) S := ev_rng2 (ev_cons ev_pure (ev_cons (ev_cb (ev_cons (ev_var rfl hd) ev_nil) (lenD_of hv hs)) ev_nil)) (by omega)
      have e2 : ((xs.length : Int) - 1).toNat = xs.length - 1 := by omega
      rw [e2] at e
      exact e
    refine ev_lc er (by rw [rngD_len]; omega) (lcRun_map fun z hz => ?_)
    unfold rngD at hz
    rw [List.mem_map] at hz
    obtain ⟨k, hk, rfl⟩ := hz
    rw [List.mem_range] at hk
    refine ⟨_, rfl, ?_⟩
    have h1 : (1 + (k : Int) - 1) = ((k : Nat) : Int) := by omega
    have h2 : (1 + (k : Int)) = ((k + 1 : Nat) : Int) := by omega
    have g1 : getD S d (.int (1 + (k : Int) - 1)) = some (.int ((zOf xs).getD k 0)) := by rw [getD_of hv hs, h1, atI_nat, zOf_get hi (by omega)]
    have g2 : getD S d (.int (1 + (k : Int))) = some (.int ((zOf xs).getD (k + 1) 0)) := by rw [getD_of hv hs, h2, atI_nat, zOf_get hi (by omega)]
    have t1 : (1 + (k : Int) - 1).toNat = k := by omega
    have t2 : (1 + (k : Int)).toNat = k + 1 := by omega
    show Ev (fOp ltD (fOp getD (fVar 0) (fOp subD (fVar 1) (pureF (.int 1)))) (fOp getD (fVar 0) (fVar 1))) [some d, some (.int (1 + (k : Int)))] S _ S
    refine ev_op (ev_op (ev_var rfl hd) (ev_op (x := .int (1 + k)) (y := .int 1) (ev_var rfl rfl) ev_pure rfl) g1) (ev_op (ev_var rfl hd) (ev_var rfl rfl) g2) ?_
    show some (D.bl (decide _)) = some (D.bl (decide ((zOf xs).getD (1 + (k : Int) - 1).toNat 0 < (zOf xs).getD (1 + (k : Int)).toNat 0)))
    rw [t1, t2]
  · unfold allD
    show (match blsOf _ with
      | some ns => some (D.bl (ns.all id))
      | none => none) = _
    rw [rngD_map]
    have e : ((List.range (xs.length - 1)).map fun k : Nat => (match D.int (1 + (k : Nat)) with
        | .int k => D.bl (decide ((zOf xs).getD (k - 1).toNat 0 < (zOf xs).getD k.toNat 0))
        | _ => .non)) = (List.range (xs.length - 1)).map fun k : Nat => D.bl (decide ((zOf xs).getD k 0 < (zOf xs).getD (k + 1) 0)) := List.map_congr_left fun k _ => by
      have t1 : (1 + (k : Int) - 1).toNat = k := by omega
      have t2 : (1 + (k : Int)).toNat = k + 1 := by omega
      show D.bl (decide ((zOf xs).getD (1 + (k : Int) - 1).toNat 0 < (zOf xs).getD (1 + (k : Int)).toNat 0)) = _
      rw [t1, t2]
    rw [e, blsOf_map (fun k : Nat => decide ((zOf xs).getD k 0 < (zOf xs).getD (k + 1) 0))]
    dsimp only
    rw [List.all_map, ← asc_range, zOf_len]
    rfl
theorem blsOf_idx (xs : List D) (n : Int) : allD S [.lst (xs.map fun d => .bl (idx d n))] = some (.bl (allIdx xs n)) := by
  unfold allD
  show (match blsOf (xs.map fun d => D.bl (idx d n)) with
    | some ns => some (D.bl (ns.all id))
    | none => none) = _
  rw [blsOf_map (fun d => idx d n) xs]
  dsimp only
  rw [List.all_map]
  rfl
/-- what callF makes of a def that only reads -/
theorem callF_reads {fn : Fn} {ds : List D} {d : D} {S : List MO} (h : fn ds S = some (.ok d, S)) (h0 : closedL ds = true → fn ds [] = some (.ok d, [])) : callF fn ds S = some (.ok d, S) := by
  unfold callF
  split
  · rename_i hc
    rw [h0 hc]
    dsimp only
    split
    · rfl
    · exact h
  · exact h
/-- a value that is a list or a tuple of plain items -/
structure LT (S : List MO) (d : D) (xs : List D) : Prop where
  v : viewS S d = some xs
  i : isiD ["Disk"] [.b .list, .b .tuple] S d = some (.bl true)
  s : isS d = false
  e : isExc d = false
  o : closedL [d] = true → ∀ S', viewS S' d = some xs ∧ isiD ["Disk"] [.b .list, .b .tuple] S' d = some (.bl true)
theorem LT.re {S : List MO} {d : D} {xs : List D} (h : LT S d xs) (c : closedL [d] = true) (S' : List MO) : LT S' d xs := ⟨(h.o c S').1, (h.o c S').2, h.s, h.e, h.o⟩
theorem LT.tup {S : List MO} {xs : List D} : LT S (.tup xs) xs := ⟨rfl, rfl, rfl, rfl, fun _ _ => ⟨rfl, rfl⟩⟩
theorem LT.lst {S : List MO} {xs : List D} : LT S (.lst xs) xs := ⟨rfl, rfl, rfl, rfl, fun _ _ => ⟨rfl, rfl⟩⟩
theorem LT.obj {S : List MO} {n : Nat} {xs : List D} (h : S[n]? = some (.lst xs)) : LT S (.obj n) xs := by
  refine ⟨?_, ?_, rfl, rfl, fun c => by cases c⟩
  · unfold viewS viewL
    dsimp only
    rw [h]
  · unfold isiD tyD
    dsimp only
    rw [h]
    rfl
def unl (xs : List D) : Bool := decide (((nub (zOf xs)).length : Int) = (zOf xs).length)
theorem cf_listed {S : List MO} {d : D} {xs : List D} (h : LT S d xs) : callF fn_is_listed [d] S = some (.ok (.bl true), S) := callF_reads (is_listed_eq h.e h.i) fun c => is_listed_eq h.e (h.re c []).i
theorem unlike_lt {S : List MO} {d : D} {xs : List D} {n : Int} (h : LT S d xs) (hi : allIdx xs n = true) (hl : xs.length ≤ 4000) : fn_are_unlike [d] S = some (.ok (.bl (unl xs)), S) := are_unlike_eq h.e h.v (intsOf_of hi) (by rw [zOf_len]; exact hl) (zOf_len xs) h.s
theorem cf_unlike {S : List MO} {d : D} {xs : List D} {n : Int} (h : LT S d xs) (hi : allIdx xs n = true) (hl : xs.length ≤ 4000) : callF fn_are_unlike [d] S = some (.ok (.bl (unl xs)), S) := callF_reads (unlike_lt h hi hl) fun c => unlike_lt (h.re c []) hi hl
theorem are_indices_eq {S : List MO} {d : D} {xs : List D} (n : Int) (h : LT S d xs) (hp : allPlain xs = true) (hl : xs.length ≤ 4000) : fn_are_indices [d, .int n] S = some (.ok (.bl (allIdx xs n && unl xs)), S) := by
  have e2 : Ev (fCB allD (fCons (lcA (fVar 0) [2] (gSet 2) (pureF true) (fCall 2 fn_is_index (fCons (fVar 2) (fCons (fVar 1) (pureF []))))) (pureF []))) ([d, .int n].map some ++ List.replicate 1 none) S (.bl (allIdx xs n)) S :=
    ev_cb (ev_cons (ev_lcA (ev_var rfl h.e) h.v (by omega) fun x hx => ⟨_, rfl, ev_call (ev_cons (ev_var rfl (plain_exc (List.all_eq_true.mp hp x hx))) (ev_cons (ev_var rfl rfl) ev_nil)) rfl (callF_pure (is_index_eq (List.all_eq_true.mp hp x hx) n))⟩) ev_nil) (blsOf_idx xs n)
  refine fn_rt (es_ret (ev_andV_t (ev_call (ev_cons (ev_var rfl h.e) ev_nil) rfl (cf_listed h)) ?_))
  cases hi : allIdx xs n with
  | false =>
    rw [hi] at e2
    rw [Bool.false_and]
    exact ev_andV_f e2
  | true =>
    rw [hi] at e2
    rw [Bool.true_and]
    exact ev_andV_t e2 (ev_call (ev_cons (ev_var rfl h.e) ev_nil) rfl (cf_unlike h hi hl))
theorem cf_ascend {S : List MO} {d : D} {xs : List D} {n : Int} (h : LT S d xs) (hi : allIdx xs n = true) (hl : xs.length ≤ 4000) : callF fn_ascend [d] S = some (.ok (.bl (asc (zOf xs))), S) :=
  callF_reads (ascend_eq h.e h.v h.s hi hl) fun c => ascend_eq h.e (h.re c []).v h.s hi hl
theorem cf_indices {S : List MO} {d : D} {xs : List D} (n : Int) (h : LT S d xs) (hp : allPlain xs = true) (hl : xs.length ≤ 4000) : callF fn_are_indices [d, .int n] S = some (.ok (.bl (allIdx xs n && unl xs)), S) :=
  callF_reads (are_indices_eq n h hp hl) fun c => are_indices_eq n (h.re (by
    have := (bAnd (show (d.closed && closedL [.int n]) = true from c)).1
    show (d.closed && true) = true
    rw [this]
    rfl) []) hp hl
theorem are_kept_eq {S : List MO} {d : D} {xs : List D} (n : Int) (h : LT S d xs) (hp : allPlain xs = true) (hl : xs.length ≤ 4000) : fn_are_kept [d, .int n] S = some (.ok (.bl (kept xs n)), S) := by
  have e1 : Ev (fCall 2 fn_are_indices (fCons (fVar 0) (fCons (fVar 1) (pureF [])))) ([d, .int n].map some ++ List.replicate 0 none) S (.bl (allIdx xs n && unl xs)) S := ev_call (ev_cons (ev_var rfl h.e) (ev_cons (ev_var rfl rfl) ev_nil)) rfl (cf_indices n h hp hl)
  refine fn_rt (es_ret ?_)
  unfold kept
  show Ev _ _ _ (D.bl ((allIdx xs n && unl xs) && asc (zOf xs))) _
  cases hi : (allIdx xs n && unl xs) with
  | false =>
    rw [hi] at e1
    exact ev_andV_f e1
  | true =>
    rw [hi] at e1
    exact ev_andV_t e1 (ev_call (ev_cons (ev_var rfl h.e) ev_nil) rfl (cf_ascend h (bAnd hi).1 hl))
/-- what is neither list nor tuple -/
theorem not_kept {S : List MO} {d : D} (n : Int) (he : isExc d = false) (h : ∀ S, isiD ["Disk"] [.b .list, .b .tuple] S d = some (.bl false)) : fn_are_kept [d, .int n] S = some (.ok (.bl false), S) := by
  have e1 : ∀ S, fn_is_listed [d] S = some (.ok (.bl false), S) := fun S => is_listed_eq he (h S)
  have e2 : ∀ S, fn_are_indices [d, .int n] S = some (.ok (.bl false), S) := fun S => fn_rt (es_ret (ev_andV_f (ev_call (ev_cons (ev_var rfl he) ev_nil) rfl (callF_pure e1))))
  exact fn_rt (es_ret (ev_andV_f (ev_call (ev_cons (ev_var rfl he) (ev_cons (ev_var rfl rfl) ev_nil)) rfl (callF_pure e2))))
/-- indices in order, below n -/
theorem asc_tail {a : Int} {l : List Int} (h : asc (a :: l) = true) : asc l = true := by
  cases l with
  | nil => rfl
  | cons b r => exact (bAnd h).2
theorem asc_lt : ∀ {l : List Int} {a : Int}, asc (a :: l) = true → ∀ b ∈ l, a < b
  | [], _, _, b, hb => by cases hb
  | c :: r, a, h, b, hb => by
    obtain ⟨h1, h2⟩ := bAnd h
    have h1' : a < c := of_decide_eq_true h1
    rcases List.mem_cons.mp hb with e | e
    · rw [e]; exact h1'
    · exact Int.lt_trans h1' (asc_lt h2 b e)
theorem nub_asc : ∀ {l : List Int}, asc l = true → nub l = l
  | [], _ => rfl
  | a :: l, h => by
    unfold nub
    rw [if_neg (fun hm => Int.lt_irrefl a (asc_lt h a hm)), nub_asc (asc_tail h)]
theorem nub_lt : ∀ {l : List Int}, ¬ l.Nodup → (nub l).length < l.length
  | [], h => absurd List.nodup_nil h
  | a :: l, h => by
    unfold nub
    have hle : (nub l).length ≤ l.length := sub_len (nub_nodup l) fun k hk => mem_nub.mp hk
    split
    · rw [List.length_cons]; omega
    · rename_i hm
      have hn : ¬ l.Nodup := fun z => h (List.nodup_cons.mpr ⟨hm, z⟩)
      have := nub_lt hn
      rw [List.length_cons, List.length_cons]
      omega
theorem not_unl {xs : List D} (h : ¬ (zOf xs).Nodup) : unl xs = false := by
  have := nub_lt h
  unfold unl
  exact decide_eq_false (by omega)
theorem kept_asc {xs : List D} {n : Int} (h1 : allIdx xs n = true) (h2 : asc (zOf xs) = true) : kept xs n = true := by
  unfold kept
  rw [h1, h2, nub_asc h2]
  simp
end LW

namespace LW
open PySem FL

structure Fr (M : Nat → Prop) (S S' : List MO) : Prop where
  len : S.length ≤ S'.length
  keep : ∀ i, i < S.length → ¬ M i → S'[i]? = S[i]?
theorem Fr.refl {M : Nat → Prop} {S : List MO} : Fr M S S := ⟨Nat.le_refl _, fun _ _ _ => rfl⟩
theorem Fr.trans {M : Nat → Prop} {S S1 S2 : List MO} (a : Fr M S S1) (b : Fr M S1 S2) : Fr M S S2 :=
  ⟨Nat.le_trans a.len b.len, fun i h n => (b.keep i (Nat.lt_of_lt_of_le h a.len) n).trans (a.keep i h n)⟩
theorem Fr.mono {M N : Nat → Prop} {S S1 : List MO} (a : Fr M S S1) (h : ∀ i, i < S.length → M i → N i) : Fr N S S1 := ⟨a.len, fun i hi n => a.keep i hi fun m => n (h i hi m)⟩
/-- a later step may also touch what is new -/
theorem Fr.step {M N : Nat → Prop} {S S1 S2 : List MO} (a : Fr M S S1) (b : Fr N S1 S2) (h : ∀ i, i < S.length → N i → M i) : Fr M S S2 :=
  ⟨Nat.le_trans a.len b.len, fun i hi n => (b.keep i (Nat.lt_of_lt_of_le hi a.len) fun z => n (h i hi z)).trans (a.keep i hi n)⟩
theorem Fr.set {S : List MO} {n : Nat} {m : MO} : Fr (· = n) S (S.set n m) := ⟨by rw [List.length_set]; exact Nat.le_refl _, fun i _ h => List.getElem?_set_ne (fun e => h e.symm)⟩
theorem Fr.app {M : Nat → Prop} {S T : List MO} : Fr M S (S ++ T) := ⟨by simp, fun i h _ => List.getElem?_append_left h⟩
theorem get_lt {S : List MO} {n : Nat} {m : MO} (h : S[n]? = some m) : n < S.length := (List.getElem?_eq_some_iff.mp h).1
theorem Fr.get {M : Nat → Prop} {S S' : List MO} {n : Nat} {m : MO} (a : Fr M S S') (h : S[n]? = some m) (hn : ¬ M n) : S'[n]? = some m := (a.keep n (get_lt h) hn).trans h
theorem set_get {S : List MO} {n : Nat} {m m0 : MO} (h : S[n]? = some m0) : (S.set n m)[n]? = some m := List.getElem?_set_self (get_lt h)
theorem app_get {S : List MO} {m : MO} : (S ++ [m])[S.length]? = some m := by simp
theorem getO {S : List MO} {n : Nat} {xs : List D} (h : S[n]? = some (.lst xs)) (i : Int) : getD S (.obj n) (.int i) = L2.atI xs i := getD_of (LT.obj h).v rfl i
theorem subO {fo fi : Fx D} {env : Dv} {S S1 S2 : List MO} {n j : Nat} {k : Int} {xs : List D} {d : D} (h1 : Ev fo env S (.obj n) S1) (h2 : Ev fi env S1 (.int k) S2) (h : S2[n]? = some (.lst xs)) (hj : L2.ixN xs.length k = some j) : gSubG fo fi d env S = some (env, S2.set n (.lst (xs.set j d))) := by
  unfold gSubG
  rw [h1]
  dsimp only
  rw [h2]
  dsimp only
  have e : setD (.obj n) (.int k) d S2 = some (S2.set n (.lst (xs.set j d))) := by
    unfold setD
    dsimp only
    rw [h]
    dsimp only
    rw [hj]
  rw [e]
theorem mul_l {S : List MO} (i j : Int) (h : -18446744073709551616 < i ∧ i < 18446744073709551616) : mulD S (.int i) (.int j) = some (.int (i * j)) := by
  unfold mulD
  dsimp only
  rw [if_pos (.inl (by omega))]
theorem mul_r {S : List MO} (i j : Int) (h : -18446744073709551616 < j ∧ j < 18446744073709551616) : mulD S (.int i) (.int j) = some (.int (i * j)) := by
  unfold mulD
  dsimp only
  rw [if_pos (.inr (by omega))]
theorem mod_i {S : List MO} (i j : Int) (h : 0 < j) : modD S (.int i) (.int j) = some (.int (i % j)) := by
  unfold modD
  dsimp only
  rw [if_pos h]
theorem div_i {S : List MO} (i j : Int) (h : 0 < j) (h2 : j < 1073741824) : fdivD S (.int i) (.int j) = some (.int (i / j)) := by
  unfold fdivD
  dsimp only
  rw [if_pos ⟨h, h2⟩]
theorem pow_i {S : List MO} (i : Int) (j : Nat) (h : j ≤ 1000) (h2 : i.natAbs < 18446744073709551616) : powD S (.int i) (.int (j : Int)) = some (.int (i ^ j)) := by
  unfold powD
  dsimp only
  rw [if_pos ⟨by omega, by omega, by omega⟩, Int.toNat_natCast]
def BoxAt (S : List MO) (b : Nat) (c : Nat) : Prop := ∃ (v0 v2 v3 : Int) (g : Bool), S[b]? = some (.lst [.int v0, .bl g, .int v2, .int v3]) ∧ 0 ≤ v2 ∧ v2 < 2147483629 ∧ 0 ≤ v3 ∧ v3 ≤ c
theorem BoxAt.mono {S : List MO} {b c c' : Nat} (h : BoxAt S b c) (hc : c ≤ c') : BoxAt S b c' := by
  obtain ⟨v0, v2, v3, g, h1, h2, h3, h4, h5⟩ := h
  exact ⟨v0, v2, v3, g, h1, h2, h3, h4, by omega⟩
theorem BoxAt.fr {M : Nat → Prop} {S S' : List MO} {b c : Nat} (h : BoxAt S b c) (a : Fr M S S') (hb : ¬ M b) : BoxAt S' b c := by
  obtain ⟨v0, v2, v3, g, h1, h2⟩ := h
  exact ⟨v0, v2, v3, g, a.get h1 hb, h2⟩
theorem BoxAt.lt {S : List MO} {b c : Nat} (h : BoxAt S b c) : b < S.length := by
  obtain ⟨v0, v2, v3, g, h1, h2⟩ := h
  exact get_lt h1
theorem take_ok {S : List MO} {b c : Nat} {m : Int} (h : BoxAt S b c) (hc : c < 2 ^ 39) (hm : 0 < m) (hm2 : m < 1073741824) :
    ∃ n S', callF fn__law_take [.obj b, .int m] S = some (.ok (.int n), S') ∧ 0 ≤ n ∧ n < m ∧ Fr (· = b) S S' ∧ BoxAt S' b (c + 1) := by
  obtain ⟨v0, v2, v3, g, h1, h2, h3, h4, h5⟩ := h
  have g0 := getO h1 0
  have g1 := getO h1 1
  have r0 : Ev (fOp getD (fVar 0) (pureF (.int 0))) ([.obj b, .int m].map some ++ List.replicate 2 none) S (.int v0) S := ev_op (ev_var rfl rfl) ev_pure (by rw [g0]; rfl)
  have t1 : Ev (fTru (fOp getD (fVar 0) (pureF (.int 1)))) ([.obj b, .int m].map some ++ List.replicate 2 none) S g S := ev_tru (ev_op (ev_var rfl rfl) ev_pure (by rw [g1]; rfl)) rfl
  by_cases hg : g = true ∧ v0 > 0
  · obtain ⟨rfl, hv⟩ := hg
    have tt : Ev (fAnd (fTru (fOp getD (fVar 0) (pureF (.int 1)))) (fTest (fOp gtD (fOp getD (fVar 0) (pureF (.int 0))) (pureF (.int 0))))) ([.obj b, .int m].map some ++ List.replicate 2 none) S true S :=
      ev_and_t t1 (ev_test (ev_op r0 ev_pure (by show some (D.bl (decide (0 < v0))) = _; rw [decide_eq_true hv])))
    refine ⟨v0 % m, S.set b (.lst [.int (v0 / m), .bl true, .int v2, .int v3]), ?_, Int.emod_nonneg _ (by omega), Int.emod_lt_of_pos _ hm, Fr.set, ⟨v0 / m, v2, v3, true, set_get h1, h2, h3, h4, by omega⟩⟩
    rw [callF_open rfl]
    refine fn_rt (es_seq_rt (es_if_t tt (es_seq (es_set (ev_op (ev_cb (ev_cons r0 ev_nil) rfl) (ev_var rfl rfl) (mod_i _ _ hm))) (es_seq (es_asg (ev_op (x := .int v0) (y := .int m) (ev_op (ev_var rfl rfl) ev_pure (by rw [g0]; rfl)) (ev_var rfl rfl) (div_i _ _ hm hm2)) (subO (ev_var rfl rfl) ev_pure h1 (j := 0) rfl)) (es_ret (ev_var rfl rfl))))))
  · have tf : Ev (fAnd (fTru (fOp getD (fVar 0) (pureF (.int 1)))) (fTest (fOp gtD (fOp getD (fVar 0) (pureF (.int 0))) (pureF (.int 0))))) ([.obj b, .int m].map some ++ List.replicate 2 none) S false S := by
      cases g with
      | false => exact ev_and_f t1
      | true => exact ev_and_t t1 (ev_test (ev_op r0 ev_pure (by show some (D.bl (decide (0 < v0))) = _; rw [decide_eq_false (fun z => hg ⟨rfl, z⟩)])))
    obtain ⟨S1, hS1⟩ : ∃ S1, S.set b (.lst [.int v0, .bl g, .int v2, .int (v3 + 1)]) = S1 := ⟨_, rfl⟩
    have h1' : S1[b]? = some (.lst [.int v0, .bl g, .int v2, .int (v3 + 1)]) := hS1 ▸ set_get h1
    have hF : Fr (· = b) S S1 := hS1 ▸ Fr.set
    have hx : ((v2 + 15485863 * (v3 + 1) + 179424673).natAbs < 2 ^ 64) := by omega
    have hmix : 0 ≤ (v2 + 15485863 * (v3 + 1) + 179424673) ^ 5 % 2147483647 ∧ (v2 + 15485863 * (v3 + 1) + 179424673) ^ 5 % 2147483647 < 2147483647 := ⟨Int.emod_nonneg _ (by omega), Int.emod_lt_of_pos _ (by omega)⟩
    have e3 : ∀ {env : Dv}, env[0]? = some (some (.obj b)) → Ev (fOp getD (fVar 0) (pureF (.int 3))) env S1 (.int (v3 + 1)) S1 := fun h0 => ev_op (x := .obj b) (y := .int 3) (ev_var h0 rfl) ev_pure (by rw [getO h1' 3]; rfl)
    have e2 : ∀ {env : Dv}, env[0]? = some (some (.obj b)) → Ev (fOp getD (fVar 0) (pureF (.int 2))) env S1 (.int v2) S1 := fun h0 => ev_op (x := .obj b) (y := .int 2) (ev_var h0 rfl) ev_pure (by rw [getO h1' 2]; rfl)
    have p1 : Ev (fOp modD (fCB int1D (fCons (fOp powD (fOp addD (fOp addD (fOp getD (fVar 0) (pureF (.int 2))) (fOp mulD (pureF (.int 15485863)) (fOp getD (fVar 0) (pureF (.int 3))))) (pureF (.int 179424673))) (pureF (.int 5))) (pureF []))) (pureF (.int 2147483647))) ([.obj b, .int m].map some ++ List.replicate 2 none) S1 (.int ((v2 + 15485863 * (v3 + 1) + 179424673) ^ 5 % 2147483647)) S1 :=
      ev_op (x := .int ((v2 + 15485863 * (v3 + 1) + 179424673) ^ 5)) (y := .int 2147483647) (ev_cb (ds := [.int ((v2 + 15485863 * (v3 + 1) + 179424673) ^ 5)]) (ev_cons (ev_op (x := .int (v2 + 15485863 * (v3 + 1) + 179424673)) (y := .int 5) (ev_op (x := .int (v2 + 15485863 * (v3 + 1))) (y := .int 179424673) (ev_op (x := .int v2) (y := .int (15485863 * (v3 + 1))) (e2 rfl) (ev_op (x := .int 15485863) (y := .int (v3 + 1)) ev_pure (e3 rfl) (mul_l _ _ (by omega))) rfl) ev_pure rfl) ev_pure (pow_i _ 5 (by omega) hx)) ev_nil) rfl) ev_pure (mod_i _ _ (by omega))
    generalize (v2 + 15485863 * (v3 + 1) + 179424673) ^ 5 % 2147483647 = M at hmix p1
    have hy : (M * 48271 + 104729 * (v3 + 1)).natAbs < 2 ^ 64 := by omega
    refine ⟨(M * 48271 + 104729 * (v3 + 1)) ^ 3 % 2147483587 / 64 % m, S1, ?_, Int.emod_nonneg _ (by omega), Int.emod_lt_of_pos _ hm, hF, ⟨v0, v2, v3 + 1, g, h1', h2, h3, by omega, by omega⟩⟩
    rw [callF_open rfl]
    have a1 : EvS (asgS (fOp addD (fOp getD (fVar 0) (pureF (.int 3))) (pureF (.int 1))) (gSubG (fVar 0) (pureF (.int 3)))) ([.obj b, .int m].map some ++ List.replicate 2 none) S .nx ([.obj b, .int m].map some ++ List.replicate 2 none) S1 :=
      es_asg (d := .int (v3 + 1)) (ev_op (x := .int v3) (y := .int 1) (ev_op (x := .obj b) (y := .int 3) (ev_var rfl rfl) ev_pure (by rw [getO h1 3]; rfl)) ev_pure rfl) (by rw [← hS1]; exact subO (ev_var rfl rfl) ev_pure h1 (j := 3) rfl)
    refine fn_rt (es_seq (es_if_f tf es_nx) (es_seq a1 (es_seq (es_set p1) (es_ret ?_))))
    exact ev_op (x := .int ((M * 48271 + 104729 * (v3 + 1)) ^ 3 % 2147483587 / 64)) (y := .int m) (ev_op (x := .int ((M * 48271 + 104729 * (v3 + 1)) ^ 3 % 2147483587)) (y := .int 64) (ev_op (x := .int ((M * 48271 + 104729 * (v3 + 1)) ^ 3)) (y := .int 2147483587) (ev_cb (ds := [.int ((M * 48271 + 104729 * (v3 + 1)) ^ 3)]) (ev_cons (ev_op (x := .int (M * 48271 + 104729 * (v3 + 1))) (y := .int 3)
      (ev_op (x := .int (M * 48271)) (y := .int (104729 * (v3 + 1))) (ev_op (x := .int M) (y := .int 48271) (ev_var rfl rfl) ev_pure (mul_r _ _ (by omega))) (ev_op (x := .int 104729) (y := .int (v3 + 1)) ev_pure (e3 rfl) (mul_l _ _ (by omega))) rfl) ev_pure (pow_i _ 3 (by omega) hy)) ev_nil) rfl) ev_pure (mod_i _ _ (by omega))) ev_pure (div_i _ _ (by omega) (by omega))) (ev_var rfl rfl) (mod_i _ _ hm)
end LW

namespace LW
open PySem FL

def SG : Str := " !#$&'()*+,-./0123456789:;<=>?@ABCDEFGHIJKLMNOPQRSTUVWXYZ[]^_abcdefghijklmnopqrstuvwxyz{|}~"
theorem SG_at : ∀ i : Nat, i < 91 → ∃ c, SG.cps.toList[i]? = some c ∧ 32 ≤ c ∧ c ≤ 126 := by
  have h : (List.range 91).all (fun i => match SG.cps.toList[i]? with
    | some c => decide (32 ≤ c) && decide (c ≤ 126)
    | none => false) = true := by decide +kernel
  intro i hi
  have := List.all_eq_true.mp h i (List.mem_range.mpr hi)
  cases q : SG.cps.toList[i]? with
  | none => rw [q] at this; cases this
  | some c =>
    rw [q] at this
    obtain ⟨h1, h2⟩ := bAnd this
    exact ⟨c, rfl, of_decide_eq_true h1, of_decide_eq_true h2⟩
theorem SG_len : SG.length ≤ 100000 := by decide +kernel
def one (c : Nat) : D := .str (SX.S [c])
theorem strs_one : ∀ cs : List Nat, strsOf (cs.map one) = some (cs.map fun c => SX.S [c])
  | [] => rfl
  | c :: cs => by
    rw [List.map_cons, List.map_cons]
    show (match strsOf (cs.map one) with
      | some ns => some (SX.S [c] :: ns)
      | none => none) = _
    rw [strs_one cs]
theorem joinL_one : ∀ cs : List Nat, TL.joinL [] (cs.map fun c => [c]) = cs
  | [] => rfl
  | [c] => rfl
  | c :: d :: r => by
    have ih := joinL_one (d :: r)
    show [c] ++ ([] ++ TL.joinL [] ((d :: r).map fun c => [c])) = _
    rw [ih]
    rfl
theorem sum_one : ∀ cs : List Nat, ((cs.map fun c => SX.S [c]).map (·.length)).sum = cs.length
  | [] => rfl
  | c :: cs => by
    rw [List.map_cons, List.map_cons, List.sum_cons, sum_one cs, SX.S_len]
    simp
    omega
theorem join_one {S : List MO} (cs : List Nat) (h : cs.length ≤ 1000) : joinD S (.str (SX.S [])) (.lst (cs.map one)) = some (.str (SX.S cs)) := by
  unfold joinD viewS viewL
  dsimp only
  rw [strs_one]
  dsimp only
  rw [if_pos]
  · have e : (cs.map fun c => SX.S [c]) = (cs.map fun c => [c]).map SX.S := by rw [List.map_map]; rfl
    rw [e, SX.join_S, joinL_one]
  · rw [sum_one, List.length_map, SX.S_len]
    simp
    omega
theorem text_ok {S : List MO} {b c : Nat} (h : BoxAt S b c) (hc : c + 10 < 2 ^ 39) :
    ∃ cs S', callF fn__law_text [.obj b] S = some (.ok (.str (SX.S cs)), S') ∧ cs.length ≤ 6 ∧ (∀ x ∈ cs, 32 ≤ x ∧ x ≤ 126) ∧ Fr (· = b) S S' ∧ BoxAt S' b (c + 7) := by
  obtain ⟨n, S1, e1, n0, n7, f1, b1⟩ := take_ok (m := 7) h (by omega) (by omega) (by omega)
  have er : Ev (fRng1 (fCons (fCall 2 fn__law_take (fCons (fVar 0) (fCons (pureF (.int 7)) (pureF [])))) (pureF []))) [some (.obj b), some (.str SG), none] S (rngD 0 n.toNat) S1 :=
    ev_rng1 (ev_cons (ev_call (ev_cons (ev_var rfl rfl) (ev_cons ev_pure ev_nil)) rfl e1) ev_nil) (by omega)
  obtain ⟨ys, S', e2, cs, rfl, hl, hcs, f2, b2⟩ := lc_all (S := S1) (gx := gSet 2) (tt := pureF true) (te := fOp getD (fVar 1) (fCall 2 fn__law_take (fCons (fVar 0) (fCons (pureF (.int 91)) (pureF []))))) (env0 := [some (.obj b), some (.str SG), none]) (xs := rngD 0 n.toNat)
    (fun i acc S2 => ∃ cs : List Nat, acc = cs.map one ∧ cs.length = i ∧ (∀ x ∈ cs, 32 ≤ x ∧ x ≤ 126) ∧ Fr (· = b) S S2 ∧ BoxAt S2 b (c + 1 + i)) ⟨[], rfl, rfl, (fun x hx => by cases hx), f1, b1⟩ (fun i d acc S2 hi ⟨cs, ha, hl, hcs, f2, b2⟩ => by
      have hin : i < n.toNat := by
        have := (List.getElem?_eq_some_iff.mp hi).1
        rwa [rngD_len] at this
      obtain ⟨k, S3, e3, k0, k91, f3, b3⟩ := take_ok (m := 91) b2 (by omega) (by omega) (by omega)
      obtain ⟨x, hx, x1, x2⟩ := SG_at k.toNat (by omega)
      refine ⟨_, S2, rfl, .inl ⟨S2, one x, S3, ev_pure, ?_, cs ++ [x], by rw [ha]; simp, by simp [hl], fun z hz => ?_, f2.trans f3, b3.mono (by omega)⟩⟩
      · show Ev _ [some (.obj b), some (.str SG), some d] S2 (one x) S3
        refine ev_op (x := .str SG) (y := .int k) (ev_var rfl rfl) (ev_call (ev_cons (ev_var rfl rfl) (ev_cons ev_pure ev_nil)) rfl e3) ?_
        unfold getD
        dsimp only
        rw [if_pos SG_len]
        have ek : k = ((k.toNat : Nat) : Int) := by omega
        rw [ek, atI_nat, hx]
        rfl
      · rcases List.mem_append.mp hz with q | q
        · exact hcs z q
        · have : z = x := by simpa using q
          rw [this]
          exact ⟨x1, x2⟩)
  rw [rngD_len] at hl b2
  refine ⟨cs, S', ?_, by omega, hcs, f2, b2.mono (by omega)⟩
  rw [callF_open rfl]
  exact fn_rt (es_seq (es_set (d := .str SG) ev_pure) (es_ret (ev_join (a := SX.S []) (x := .lst (cs.map one)) ev_pure (ev_lc er (by rw [rngD_len]; omega) e2) (join_one cs (by omega)))))
theorem box_ok (S : List MO) (g : Int) : ∃ v0 v2 gg, callF fn__law_box [.int g] S = some (.ok (.obj S.length), S ++ [.lst [.int v0, .bl gg, .int v2, .int 0]]) ∧ 0 ≤ v2 ∧ v2 < 2147483629 := by
  have key : ∀ S : List MO, fn__law_box [.int g] S = some (.ok (.obj S.length), S ++ [.lst [.int (if g < 0 then -g else g), .bl (decide ((10 : Int) ^ 18 ≤ (if g < 0 then -g else g))), .int ((if g < 0 then -g else g) % 2147483629), .int 0]]) := fun S => by
    have ea : Ev (fCB absD (fCons (fVar 0) (pureF []))) ([.int g].map some ++ List.replicate 0 none) S (.int (if g < 0 then -g else g)) S := ev_cb (ev_cons (ev_var rfl rfl) ev_nil) rfl
    exact fn_rt (es_ret (ev_lstO (ev_cons ea (ev_cons (ev_op (x := .int (if g < 0 then -g else g)) (y := .int (10 ^ 18)) ea (ev_op (x := .int 10) (y := .int 18) ev_pure ev_pure (pow_i 10 18 (by omega) (by omega))) rfl) (ev_cons (ev_op (x := .int (if g < 0 then -g else g)) (y := .int 2147483629) (ev_cb (ev_cons ea ev_nil) rfl) ev_pure (mod_i _ _ (by omega))) (ev_cons ev_pure ev_nil)))) (by simp)))
  refine ⟨if g < 0 then -g else g, (if g < 0 then -g else g) % 2147483629, decide ((10 : Int) ^ 18 ≤ (if g < 0 then -g else g)), ?_, Int.emod_nonneg _ (by omega), Int.emod_lt_of_pos _ (by omega)⟩
  rw [callF_obj (key []) rfl]
  exact key S
theorem box_at {S : List MO} {v0 v2 : Int} {g : Bool} (h : 0 ≤ v2 ∧ v2 < 2147483629) : BoxAt (S ++ [.lst [.int v0, .bl g, .int v2, .int 0]]) S.length 0 := ⟨v0, v2, 0, g, app_get, h.1, h.2, by omega, by omega⟩
theorem intsOf_ints : ∀ ns : List Int, intsOf (ns.map D.int) = some ns
  | [] => rfl
  | n :: ns => by
    rw [List.map_cons]
    unfold intsOf
    rw [intsOf_ints ns]
theorem cell_ok (S : List MO) (ns : List Int) (k : Nat) (hk : k < 10) : ∃ v, callF fn__law_cell [.scr (ns.map D.int), .int k] S = some (.ok (.int v), S) := by
  have hv : ∀ S : List MO, viewS S (.scr (ns.map D.int)) = some (ns.map D.int) := fun _ => rfl
  have hlt : ∀ S : List MO, Ev (fTest (fOp ltD (fVar 1) (fCB lenD (fCons (fVar 0) (pureF []))))) ([.scr (ns.map D.int), .int k].map some ++ List.replicate 0 none) S (decide ((k : Int) < ns.length)) S := fun S =>
    ev_test (ev_op (x := .int k) (y := .int ns.length) (ev_var rfl rfl) (ev_cb (ev_cons (ev_var rfl rfl) ev_nil) (by rw [lenD_of (hv S) rfl, List.length_map])) rfl)
  by_cases h : k < ns.length
  · refine ⟨ns[k], callF_pure fun S => fn_rt (es_ret (ev_if_t (by have := hlt S; rw [decide_eq_true (by omega)] at this; exact this) (ev_op (x := .scr (ns.map D.int)) (y := .int k) (ev_var rfl rfl) (ev_var rfl rfl) ?_)))⟩
    rw [getD_of (hv S) rfl, atI_nat, List.getElem?_map, List.getElem?_eq_getElem h]
    rfl
  · have hs : ∀ S : List MO, Ev (fSlice (fVar 0) (pureF none) (fInt (pureF (.int 1)))) ([.scr (ns.map D.int), .int k].map some ++ List.replicate 0 none) S (.lst (cutA (ns.map D.int) none (some 1))) S := fun S => ev_slice (x := .scr (ns.map D.int)) (ev_var rfl rfl) ev_pure (ev_int ev_pure) rfl
    have hc : cutA (ns.map D.int) none (some 1) = (cutA ns none (some 1)).map D.int := by
      unfold cutA
      rw [List.length_map, List.map_take, List.map_drop]
    refine ⟨6089 * (k : Int) + (cutA ns none (some 1)).sum % 1000033, callF_pure fun S => fn_rt (es_ret (ev_if_f (by have := hlt S; rw [decide_eq_false (by omega)] at this; exact this) ?_))⟩
    refine ev_op (x := .int (6089 * (k : Int))) (y := .int ((cutA ns none (some 1)).sum % 1000033)) (ev_op (x := .int 6089) (y := .int k) ev_pure (ev_var rfl rfl) (mul_l _ _ (by omega))) (ev_op (x := .int (cutA ns none (some 1)).sum) (y := .int 1000033) (ev_cb (ds := [.lst (cutA (ns.map D.int) none (some 1))]) (ev_cons (hs S) ev_nil) ?_) ev_pure (mod_i _ _ (by omega))) rfl
    rw [hc]
    show (match intsOf ((cutA ns none (some 1)).map D.int) with
      | some ns => some (D.int ns.sum)
      | none => none) = _
    rw [intsOf_ints]
end LW

namespace LW
open PySem FL

theorem textFrom_ub (B : Nat) : ∀ (ts : List Str) (k : Nat) (acc : Str), (∀ t ∈ ts, t.length ≤ B) → (textFrom k acc ts).length ≤ acc.length + ts.length * (B + 2)
  | [], k, acc, _ => by show acc.length ≤ _; omega
  | t :: r, k, acc, h => by
    have ih := textFrom_ub B r (k + 1) (acc ++ (if k > 0 then ", " else "" : String) ++ t) fun u hu => h u (List.mem_cons_of_mem _ hu)
    have e : (acc ++ (if k > 0 then ", " else "" : String) ++ t).length = acc.length + (if k > 0 then 2 else 0) + t.length := by
      rw [strLen_append, strLen_append]
      split <;> rfl
    have ht := h t List.mem_cons_self
    show (textFrom (k + 1) (acc ++ (if k > 0 then ", " else "" : String) ++ t) r).length ≤ acc.length + (r.length + 1) * (B + 2)
    rw [e] at ih
    have d : (if k > 0 then 2 else 0 : Nat) ≤ 2 := by split <;> omega
    have m : (r.length + 1) * (B + 2) = r.length * (B + 2) + (B + 2) := by rw [Nat.add_mul, Nat.one_mul]
    omega
theorem listText_ub (B : Nat) (ts : List Str) (h : ∀ t ∈ ts, t.length ≤ B) : (listText ts).length ≤ 2 + ts.length * (B + 2) := by
  have := textFrom_ub B ts 0 "[" h
  unfold listText
  rw [strLen_append]
  have e1 : ((("[" : String) : Str)).length = 1 := rfl
  have e2 : ((("]" : String) : Str)).length = 1 := rfl
  rw [e1] at this
  rw [e2]
  omega
/-- flat data whose text is short -/
def smallP : PyData → Bool
  | .none => true
  | .bool _ => true
  | .int i => decide (i.natAbs < 1000000000000)
  | .str x => decide (x.length ≤ 400) && x.cps.toList.all fun c => decide (c < 16 ^ 8)
  | _ => false
theorem small_log {n : Nat} (h : n < 1000000000000) : n.log2 < 1920 := by
  by_cases h0 : n = 0
  · subst h0; decide
  · have := (Nat.log2_lt h0 (k := 40)).mpr (Nat.lt_of_lt_of_le h (by decide))
    omega
theorem shown_ub {p : PyData} (h : smallP p = true) : p.shown.length ≤ 4010 := by
  cases p with
  | none => decide
  | bool b => cases b <;> decide
  | int i =>
    have h1 : i.natAbs < 1000000000000 := of_decide_eq_true h
    have h2 : i.natAbs.log2 < 1920 := small_log h1
    have := PyProof.Rows.int_text_len_1921 h2
    show (Str.ofString (toString i)).length ≤ 4010
    omega
  | str x =>
    obtain ⟨h1, h2⟩ := bAnd h
    have h1' : x.length ≤ 400 := of_decide_eq_true h1
    have := StrLaws.reprText_len x fun c hc => of_decide_eq_true (List.all_eq_true.mp h2 c hc)
    show (reprText x).length ≤ 4010
    omega
  | _ => cases h
theorem shownAll_ub : ∀ {ps : List PyData}, ps.all smallP = true → (∀ t ∈ PyData.shownAll ps, t.length ≤ 4010) ∧ (PyData.shownAll ps).length = ps.length
  | [], _ => ⟨(fun t ht => by cases ht), rfl⟩
  | p :: ps, h => by
    rw [List.all_cons, Bool.and_eq_true] at h
    obtain ⟨i1, i2⟩ := shownAll_ub h.2
    refine ⟨fun t ht => ?_, by show (PyData.shownAll ps).length + 1 = ps.length + 1; rw [i2]⟩
    rcases List.mem_cons.mp (show t ∈ p.shown :: PyData.shownAll ps from ht) with e | e
    · rw [e]; exact shown_ub h.1
    · exact i1 t e
theorem small_facts : ∀ {ps : List PyData}, ps.all smallP = true → PyData.showableAll ps = true ∧ PyData.hasDictAll ps = false ∧ PyData.depthAll ps = 0
  | [], _ => ⟨rfl, rfl, rfl⟩
  | p :: ps, h => by
    rw [List.all_cons, Bool.and_eq_true] at h
    obtain ⟨i1, i2, i3⟩ := small_facts h.2
    have key : p.showable = true ∧ p.hasDict = false ∧ p.depth = 0 := by
      cases p with
      | none => exact ⟨rfl, rfl, rfl⟩
      | bool b => exact ⟨rfl, rfl, rfl⟩
      | int i =>
        have h1 : i.natAbs < 1000000000000 := of_decide_eq_true h.1
        exact ⟨decide_eq_true (small_log h1), rfl, rfl⟩
      | str x => exact ⟨rfl, rfl, rfl⟩
      | _ => cases h.1
    refine ⟨?_, ?_, ?_⟩
    · show (p.showable && PyData.showableAll ps) = true
      rw [key.1, i1]; rfl
    · show (p.hasDict || PyData.hasDictAll ps) = false
      rw [key.2.1, i2]; rfl
    · show max p.depth (PyData.depthAll ps) = 0
      rw [key.2.2, i3]; rfl
/-- what repr answers for a flat list -/
theorem repr_flat {S : List MO} {d : D} {ps : List PyData} (h : toPy S d = some (.list ps)) (hs : ps.all smallP = true) (hl : ps.length ≤ 1000) (hd : ∀ ks vs, d ≠ .dK ks vs) : reprA S [d] = some (.str (PyData.list ps).shown) := by
  obtain ⟨f1, f2, f3⟩ := small_facts hs
  obtain ⟨u1, u2⟩ := shownAll_ub hs
  have hu : (PyData.list ps).shown.length ≤ 16000000 := by
    have := listText_ub 4010 (PyData.shownAll ps) u1
    rw [u2] at this
    show (listText (PyData.shownAll ps)).length ≤ _
    have : ps.length * (4010 + 2) ≤ 1000 * (4010 + 2) := Nat.mul_le_mul_right _ hl
    omega
  have e : reprD S [d] = some (.str (PyData.list ps).shown) := by
    unfold reprD
    dsimp only
    rw [h]
    dsimp only
    rw [if_pos ⟨f1, f2, by show PyData.depthAll ps + 1 ≤ 60; rw [f3]; omega, hu⟩]
  unfold reprA
  cases d <;> first | exact e | exact absurd rfl (hd _ _)
theorem ne_same {S : List MO} (x : Str) : neD S (.str x) (.str x) = some (.bl false) := by
  unfold neD eqS
  simp
theorem eq_same {S : List MO} (x : Str) : eqA S (.str x) (.str x) = some (.bl true) := by
  unfold eqA lenNe viewL eqD eqS
  simp
def stD (c : List Nat) : D := .str (SX.S c)
def wD (w : Nat × List Nat) : D := .tup [.int w.1, stD w.2]
def lfD : Option Nat → D
  | none => .non
  | some n => .int n
def okT (c : List Nat) : Prop := c.length ≤ 400 ∧ ∀ x ∈ c, 32 ≤ x ∧ x ≤ 126
theorem small_st {c : List Nat} (h : okT c) : smallP (.str (SX.S c)) = true := by
  unfold smallP
  rw [Bool.and_eq_true]
  refine ⟨decide_eq_true (by rw [SX.S_len]; exact h.1), List.all_eq_true.mpr fun x hx => decide_eq_true ?_⟩
  have := h.2 x (by simpa using hx)
  omega
theorem toPyL_st {S : List MO} : ∀ cs : List (List Nat), toPyL S (cs.map stD) = some (cs.map fun c => PyData.str (SX.S c))
  | [] => rfl
  | c :: cs => by
    rw [List.map_cons, List.map_cons]
    unfold toPyL
    rw [toPyL_st cs]
    rfl
theorem toPy0L_st : ∀ cs : List (List Nat), toPy0L (cs.map stD) = some (cs.map fun c => PyData.str (SX.S c))
  | [] => rfl
  | c :: cs => by
    rw [List.map_cons, List.map_cons]
    unfold toPy0L
    rw [toPy0L_st cs]
    rfl
theorem toPyL_int {S : List MO} : ∀ ns : List Nat, toPyL S (ns.map fun n => D.int (n : Nat)) = some (ns.map fun n => PyData.int (n : Nat))
  | [] => rfl
  | c :: cs => by
    rw [List.map_cons, List.map_cons]
    unfold toPyL
    rw [toPyL_int cs]
    rfl
theorem all_small_st {cs : List (List Nat)} (h : ∀ c ∈ cs, okT c) : (cs.map fun c => PyData.str (SX.S c)).all smallP = true := by
  rw [List.all_map]
  exact List.all_eq_true.mpr fun c hc => small_st (h c hc)
theorem all_small_int {ns : List Nat} (h : ∀ n ∈ ns, n < 1000000) : (ns.map fun n => PyData.int (n : Nat)).all smallP = true := by
  rw [List.all_map]
  refine List.all_eq_true.mpr fun c hc => ?_
  have := h c hc
  show decide ((c : Int).natAbs < 1000000000000) = true
  exact decide_eq_true (by omega)
structure PM where
  p : Nat
  w : Nat
  las : List (List Nat)
  wr : List (Nat × List Nat)
  lf : Option Nat
def beh (las : List (List Nat)) : List (Nat × List Nat) → List (List Nat)
  | [] => las
  | (k, c) :: r => beh (las.set k c) r
theorem beh_len : ∀ (wr : List (Nat × List Nat)) (las : List (List Nat)), (beh las wr).length = las.length
  | [], las => rfl
  | (k, c) :: r, las => by
    show (beh (las.set k c) r).length = _
    rw [beh_len r, List.length_set]
theorem beh_app : ∀ (wr : List (Nat × List Nat)) (las : List (List Nat)) (k : Nat) (c : List Nat), beh las (wr ++ [(k, c)]) = (beh las wr).set k c
  | [], las, k, c => rfl
  | (j, b) :: r, las, k, c => beh_app r (las.set j b) k c
theorem beh_ok {wr : List (Nat × List Nat)} : ∀ {las : List (List Nat)}, (∀ c ∈ las, okT c) → (∀ x ∈ wr, okT x.2) → ∀ c ∈ beh las wr, okT c := by
  induction wr with
  | nil => exact fun h _ => h
  | cons x r ih =>
    obtain ⟨k, b⟩ := x
    intro las h1 h2
    refine ih (fun c hc => ?_) fun y hy => h2 y (List.mem_cons_of_mem _ hy)
    rcases List.mem_or_eq_of_mem_set hc with e | e
    · exact h1 c e
    · rw [e]; exact h2 (k, b) List.mem_cons_self
structure PM.Ok (m : PM) : Prop where
  p1 : 3 ≤ m.p
  p2 : m.p ≤ 40
  w1 : 20 ≤ m.w
  w2 : m.w ≤ 400
  ll : m.las.length = m.p
  lt : ∀ c ∈ m.las, okT c
  wk : ∀ x ∈ m.wr, x.1 < m.p ∧ okT x.2
  wl : m.wr.length ≤ 1000
def diskNs : List Str := ["pages", "width", "lasting", "texts", "writes", "left"]
structure DiskAt (S : List MO) (d l t u : Nat) (m : PM) : Prop where
  o : S[d]? = some (.ins "Disk" diskNs [.int m.p, .int m.w, .obj l, .obj t, .obj u, lfD m.lf])
  l : S[l]? = some (.lst (m.las.map stD))
  t : S[t]? = some (.lst ((beh m.las m.wr).map stD))
  u : S[u]? = some (.lst (m.wr.map wD))
structure StAt (S : List MO) (s x y : Nat) (m : PM) : Prop where
  o : S[s]? = some (.lst [.int m.p, .int m.w, .obj x, .obj y, lfD m.lf])
  x : S[x]? = some (.lst (m.las.map stD))
  y : S[y]? = some (.lst (m.wr.map wD))
/-- a disk and its state; F: all that is theirs -/
structure Pair (S : List MO) (d s : Nat) (F : List Nat) (m : PM) : Prop where
  ok : m.Ok
  ex : ∃ l t u x y, F = [d, l, t, u, s, x, y] ∧ F.Nodup ∧ DiskAt S d l t u m ∧ StAt S s x y m
theorem Pair.lt {S : List MO} {d s : Nat} {F : List Nat} {m : PM} (h : Pair S d s F m) : ∀ i ∈ F, i < S.length := by
  obtain ⟨l, t, u, x, y, rfl, _, hd, hs⟩ := h.ex
  intro i hi
  simp only [List.mem_cons, List.not_mem_nil, or_false] at hi
  rcases hi with e | e | e | e | e | e | e <;> subst e
  · exact get_lt hd.o
  · exact get_lt hd.l
  · exact get_lt hd.t
  · exact get_lt hd.u
  · exact get_lt hs.o
  · exact get_lt hs.x
  · exact get_lt hs.y
theorem Pair.fr {M : Nat → Prop} {S S' : List MO} {d s : Nat} {F : List Nat} {m : PM} (h : Pair S d s F m) (a : Fr M S S') (hM : ∀ i ∈ F, ¬ M i) : Pair S' d s F m := by
  obtain ⟨l, t, u, x, y, rfl, nd, hd, hs⟩ := h.ex
  refine ⟨h.ok, l, t, u, x, y, rfl, nd, ⟨a.get hd.o (hM _ (by simp)), a.get hd.l (hM _ (by simp)), a.get hd.t (hM _ (by simp)), a.get hd.u (hM _ (by simp))⟩, ⟨a.get hs.o (hM _ (by simp)), a.get hs.x (hM _ (by simp)), a.get hs.y (hM _ (by simp))⟩⟩
end LW

namespace LW
open PySem FL

def NoM : Nat → Prop := fun _ => False
theorem fr_no {M : Nat → Prop} {S S' : List MO} (h : Fr NoM S S') : Fr M S S' := h.mono fun _ _ z => z.elim
theorem app_set {S : List MO} {a b : MO} : (S ++ [a]).set S.length b = S ++ [b] := by simp
theorem beh_take {las : List (List Nat)} {wr : List (Nat × List Nat)} {i : Nat} {k : Nat} {c : List Nat} (h : wr[i]? = some (k, c)) : beh las (wr.take (i + 1)) = (beh las (wr.take i)).set k c := by
  rw [List.take_add_one, h]
  exact beh_app _ _ _ _
theorem beh_step {S : List MO} {las : List (List Nat)} {wr : List (Nat × List Nat)} {dt dw : D} (hw : ∀ x ∈ wr, x.1 < las.length) (i : Nat) (d : D) (env : Dv) (S2 : List MO) (hi : (wr.map wD)[i]? = some d)
    (h : ∃ e3 e4, env = [some dt, some dw, some (.obj S.length), e3, e4] ∧ S2 = S ++ [.lst ((beh las (wr.take i)).map stD)]) :
    ∃ env1 S1 env2 S3, gSeqG 2 (gConss (gSet 3) (gConss (gSet 4) gNils)) d env S2 = some (env1, S1) ∧ EvS (asgS (fVar 4) (gSubG (fVar 2) (fVar 3))) env1 S1 .nx env2 S3 ∧ ∃ e3 e4, env2 = [some dt, some dw, some (.obj S.length), e3, e4] ∧ S3 = S ++ [.lst ((beh las (wr.take (i + 1))).map stD)] := by
  obtain ⟨e3, e4, rfl, rfl⟩ := h
  rw [List.getElem?_map] at hi
  cases q : wr[i]? with
  | none => rw [q] at hi; cases hi
  | some x =>
    obtain ⟨k, c⟩ := x
    rw [q] at hi
    cases hi
    have hk : k < las.length := hw (k, c) (List.mem_of_getElem? q)
    refine ⟨[some dt, some dw, some (.obj S.length), some (.int k), some (stD c)], _, [some dt, some dw, some (.obj S.length), some (.int k), some (stD c)], S ++ [.lst ((beh las (wr.take (i + 1))).map stD)], rfl, ?_, _, _, rfl, rfl⟩
    refine es_asg (d := stD c) (ev_var rfl rfl) ?_
    have hj : L2.ixN ((beh las (wr.take i)).map stD).length (k : Int) = some k := by
      unfold L2.ixN
      rw [List.length_map, beh_len, if_pos (by omega), if_pos (by omega), Int.toNat_natCast]
    have e := subO (fo := fVar 2) (fi := fVar 3) (env := [some dt, some dw, some (.obj S.length), some (.int k), some (stD c)]) (S := S ++ [.lst ((beh las (wr.take i)).map stD)]) (d := stD c) (ev_var rfl rfl) (ev_var rfl rfl) app_get hj
    rw [e, app_set, beh_take q, List.map_set]
theorem behO {S : List MO} {las : List (List Nat)} {wr : List (Nat × List Nat)} {x y : Nat} (hx : S[x]? = some (.lst (las.map stD))) (hy : S[y]? = some (.lst (wr.map wD))) (hw : ∀ x ∈ wr, x.1 < las.length) :
    callF fn__law_behind [.obj x, .obj y] S = some (.ok (.obj S.length), S ++ [.lst ((beh las wr).map stD)]) := by
  rw [callF_open rfl]
  have hv : ∀ {T : MO}, viewL (S ++ [T]) (.obj y) = some (wr.map wD) := fun {T} => by
    unfold viewL
    dsimp only
    rw [List.getElem?_append_left (get_lt hy), hy]
  obtain ⟨env', S', e2, e3, e4, rfl, rfl⟩ := live_all (env := [some (.obj x), some (.obj y), some (.obj S.length), none, none]) (S := S ++ [.lst (las.map stD)]) (d0 := .obj y) (xs := wr.map wD)
    (fun i env S2 => ∃ e3 e4, env = [some (.obj x), some (.obj y), some (.obj S.length), e3, e4] ∧ S2 = S ++ [.lst ((beh las (wr.take i)).map stD)]) ⟨none, none, rfl, rfl⟩ (fun i env S2 ⟨_, _, _, e⟩ => by rw [e]; exact hv) (beh_step hw)
  have et : beh las (wr.take (wr.map wD).length) = beh las wr := by rw [List.length_map, List.take_length]
  rw [et] at e2
  exact fn_rt (es_seq (es_set (ev_listO (x := .obj x) (ev_var rfl rfl) (LT.obj hx).v)) (es_seq (es_forA_o (n := y) (ev_var rfl rfl) hv e2) (es_ret (ev_var rfl rfl))))
theorem behL {S : List MO} {las : List (List Nat)} {wr : List (Nat × List Nat)} {x : Nat} (hx : S[x]? = some (.lst (las.map stD))) (hw : ∀ x ∈ wr, x.1 < las.length) :
    callF fn__law_behind [.obj x, .lst (wr.map wD)] S = some (.ok (.obj S.length), S ++ [.lst ((beh las wr).map stD)]) := by
  rw [callF_open rfl]
  obtain ⟨env', S', e2, e3, e4, rfl, rfl⟩ := loop_all (env := [some (.obj x), some (.lst (wr.map wD)), some (.obj S.length), none, none]) (S := S ++ [.lst (las.map stD)]) (xs := wr.map wD)
    (fun i env S2 => ∃ e3 e4, env = [some (.obj x), some (.lst (wr.map wD)), some (.obj S.length), e3, e4] ∧ S2 = S ++ [.lst ((beh las (wr.take i)).map stD)]) ⟨none, none, rfl, rfl⟩ (beh_step hw)
  have et : beh las (wr.take (wr.map wD).length) = beh las wr := by rw [List.length_map, List.take_length]
  rw [et] at e2
  exact fn_rt (es_seq (es_set (ev_listO (x := .obj x) (ev_var rfl rfl) (LT.obj hx).v)) (es_seq (es_forA_l (ev_var rfl rfl) e2) (es_ret (ev_var rfl rfl))))
theorem fldO {S : List MO} {d : Nat} {c : Str} {ns : List Str} {vs : List D} (cs : List Str) (f : Str) (h : S[d]? = some (.ins c ns vs)) (hc : c ∈ cs) : fldD cs f S (.obj d) = (ns.zip vs).lookup f := by
  unfold fldD insView
  dsimp only
  rw [h]
  dsimp only
  rw [if_pos hc]
theorem putO {S : List MO} {d : Nat} {c : Str} {ns : List Str} {vs : List D} (cs : List Str) (f : Str) (v : D) (h : S[d]? = some (.ins c ns vs)) (hc : c ∈ cs) (hl : ns.length < 900) : storeF cs f (.obj d) v S = some (S.set d (.ins c (putN f ns) (putD f v ns vs))) := by
  unfold storeF
  dsimp only
  rw [h]
  dsimp only
  rw [if_pos ⟨hc, hl⟩]
section
variable {S : List MO} {d l t u : Nat} {m : PM}
theorem DiskAt.fld (h : DiskAt S d l t u m) {f : Str} {v : D} (e : (diskNs.zip [.int m.p, .int m.w, .obj l, .obj t, .obj u, lfD m.lf]).lookup f = some v) {env : Dv} {i : Nat} (hi : env[i]? = some (some (.obj d))) : Ev (fFld ["Disk"] f (fVar i)) env S v S :=
  ev_fld (ev_var hi rfl) (by rw [fldO ["Disk"] f h.o (by simp)]; exact e)
theorem DiskAt.inst (h : DiskAt S d l t u m) {f : Str} (hf : f ∉ diskNs) : isInst "Disk" f S (.obj d) = some (.obj d) := isInst_obj h.o hf
theorem check_ok (h : DiskAt S d l t u m) {k : Nat} (hk : k < m.p) : callF fn_Disk_check_page [.obj d, .int k] S = some (.ok .non, S) := by
  rw [callF_open rfl]
  have e : callF fn_is_index [.int k, .int m.p] S = some (.ok (.bl true), S) := by
    have := callF_pure (S := S) (is_index_eq (d := .int k) rfl m.p)
    rw [this]
    show some (R.ok (D.bl (decide ((0 : Int) ≤ k) && decide ((k : Int) < m.p))), S) = _
    rw [decide_eq_true (by omega), decide_eq_true (by omega)]
    rfl
  exact fn_nx (es_if_f (ev_not (b := true) (ev_tru (ev_call (ev_cons (ev_var rfl rfl) (ev_cons (h.fld rfl rfl) ev_nil)) rfl e) rfl)) es_nx)
theorem read_ok (h : DiskAt S d l t u m) {k : Nat} {c : List Nat} (hk : (beh m.las m.wr)[k]? = some c) (hp : k < m.p) : callF fn_Disk_read [.obj d, .int k] S = some (.ok (stD c), S) := by
  rw [callF_open rfl]
  refine fn_rt (es_seq (es_drop (ev_meth (o := .obj d) (ev_var rfl rfl) (h.inst (by decide)) (ev_cons (ev_var rfl rfl) ev_nil) rfl (check_ok h hp))) (es_ret (ev_op (x := .obj t) (y := .int k) (h.fld rfl rfl) (ev_var rfl rfl) ?_)))
  rw [getO h.t, atI_nat, List.getElem?_map, hk]
  rfl
theorem wr_loop {dv : D} {env : Dv} {S1 : List MO} {src : Fx D} {wr : List (Nat × List Nat)} {env0 : Dv} (a b : Nat) (hs : Ev src env0 S dv S1) (hv : viewS S1 dv = some (wr.map wD)) (hl : wr.length ≤ 1000) (hw : ∀ k c, ∃ env1, gSeqG 2 (gConss (gSet a) (gConss (gSet b) gNils)) (wD (k, c)) (wipeD env0 [a, b]) S1 = some (env1, S1) ∧ Ev (fVar a) env1 S1 (.int (k : Nat)) S1) :
    Ev (lcA src [a, b] (gSeqG 2 (gConss (gSet a) (gConss (gSet b) gNils))) (pureF true) (fVar a)) env0 S (.lst (wr.map fun x => D.int (x.1 : Nat))) S1 := by
  have e := ev_lcA (vs := [a, b]) (gx := gSeqG 2 (gConss (gSet a) (gConss (gSet b) gNils))) (te := fVar a) (f := fun z => match z with
    | .tup [x, _] => x
    | _ => .non) hs hv (by rw [List.length_map]; omega) (fun z hz => by
      obtain ⟨⟨k, c⟩, _, rfl⟩ := List.mem_map.mp hz
      exact hw k c)
  rw [List.map_map] at e
  exact e
theorem loose_ok (h : DiskAt S d l t u m) (hl : m.wr.length ≤ 1000) : callF fn_Disk_loose [.obj d] S = some (.ok (.lst (m.wr.map fun x => D.int (x.1 : Nat))), S) := by
  rw [callF_open rfl]
  exact fn_rt (es_ret (wr_loop (env := []) 1 2 (h.fld rfl rfl) (LT.obj h.u).v hl fun k c => ⟨[some (.obj d), some (.int k), some (stD c)], rfl, ev_var rfl rfl⟩))
end
theorem toPy_ints (S : List MO) (ns : List Nat) : toPy S (.lst (ns.map fun n => D.int (n : Nat))) = some (.list (ns.map fun n => PyData.int (n : Nat))) := by
  unfold toPy
  rw [toPyL_int]
theorem map_fst (wr : List (Nat × List Nat)) : (wr.map fun x => D.int (x.1 : Nat)) = (wr.map (·.1)).map fun n : Nat => D.int (n : Nat) := by rw [List.map_map]; rfl
theorem state_right_ok {S : List MO} {d s : Nat} {F : List Nat} {m : PM} (h : Pair S d s F m) : callF fn__law_state_right [.obj d, .obj s] S = some (.ok (.bl true), S ++ [.lst ((beh m.las m.wr).map stD)]) := by
  obtain ⟨l, t, u, x, y, rfl, nd, hd, hs⟩ := h.ex
  have ok := h.ok
  rw [callF_open rfl]
  -- pages and width
  have r1 : reprA S [.lst [.int m.p, .int m.w]] = some (.str (PyData.list [.int m.p, .int m.w]).shown) := repr_flat (ps := [.int m.p, .int m.w]) rfl (all_small_int (ns := [m.p, m.w]) (fun n hn => by
    have h1 := ok.p2
    have h2 := ok.w2
    simp only [List.mem_cons, List.not_mem_nil, or_false] at hn
    omega)) (by simp) (fun _ _ z => by cases z)
  have isd : Ev (fTru (fIsi ["Disk"] [(.own "Disk")] (fVar 0))) ([.obj d, .obj s].map some ++ List.replicate 2 none) S true S := ev_tru (d := .bl true) (ev_isi (x := .obj d) (ev_var rfl rfl) (by
    unfold isiD tyD
    dsimp only
    rw [hd.o]
    rfl)) rfl
  have c1 : Ev (fOp neD (fCB reprA (fCons (fLst (fCons (fFld ["Disk"] "pages" (fVar 0)) (fCons (fFld ["Disk"] "width" (fVar 0)) (pureF [])))) (pureF []))) (fCB reprA (fCons (fSlice (fVar 1) (pureF none) (fInt (pureF (.int 2)))) (pureF [])))) ([.obj d, .obj s].map some ++ List.replicate 2 none) S (.bl false) S :=
    ev_op (x := .str (PyData.list [.int m.p, .int m.w]).shown) (y := .str (PyData.list [.int m.p, .int m.w]).shown) (ev_cb (ds := [.lst [.int m.p, .int m.w]]) (ev_cons (ev_lst (ev_cons (hd.fld rfl rfl) (ev_cons (hd.fld rfl rfl) ev_nil)) (by simp)) ev_nil) r1)
      (ev_cb (ds := [.lst [.int m.p, .int m.w]]) (ev_cons (ev_slice (x := .obj s) (ev_var rfl rfl) ev_pure (ev_int ev_pure) (by
        unfold sliceD viewL
        dsimp only
        rw [hs.o]
        rfl)) ev_nil) r1) (ne_same _)
  -- loose writes
  have r2 : reprA S [.lst (m.wr.map fun x => D.int (x.1 : Nat))] = some (.str (PyData.list ((m.wr.map (·.1)).map fun n => PyData.int (n : Nat))).shown) := by
    rw [map_fst]
    refine repr_flat (toPy_ints S _) (all_small_int fun n hn => ?_) (by rw [List.length_map, List.length_map]; exact ok.wl) (fun _ _ z => by cases z)
    obtain ⟨z, hz, rfl⟩ := List.mem_map.mp hn
    have h1 := (ok.wk z hz).1
    have h2 := ok.p2
    omega
  have c2 : Ev (fOp neD (fCB reprA (fCons (fMeth 1 "Disk" "loose" fn_Disk_loose (fVar 0) (pureF [])) (pureF []))) (fCB reprA (fCons (lcA (fOp getD (fVar 1) (pureF (.int 3))) [2, 3] (gSeqG 2 (gConss (gSet 2) (gConss (gSet 3) gNils))) (pureF true) (fVar 2)) (pureF [])))) ([.obj d, .obj s].map some ++ List.replicate 2 none) S (.bl false) S :=
    ev_op (ev_cb (ev_cons (ev_meth (o := .obj d) (ev_var rfl rfl) (hd.inst (by decide)) ev_nil rfl (loose_ok hd ok.wl)) ev_nil) r2)
      (ev_cb (ev_cons (wr_loop (env := []) 2 3 (dv := .obj y) (ev_op (x := .obj s) (y := .int 3) (ev_var rfl rfl) ev_pure (by rw [getO hs.o]; rfl)) (LT.obj hs.y).v ok.wl fun k c => ⟨[some (.obj d), some (.obj s), some (.int k), some (stD c)], rfl, ev_var rfl rfl⟩) ev_nil) r2) (ne_same _)
  -- the pages
  have hb : ∀ c ∈ beh m.las m.wr, okT c := beh_ok ok.lt fun z hz => (ok.wk z hz).2
  have hlen : (beh m.las m.wr).length = m.p := by rw [beh_len, ok.ll]
  have r3 : ∀ {T : List MO}, reprA T [.lst ((beh m.las m.wr).map stD)] = some (.str (PyData.list ((beh m.las m.wr).map fun c => PyData.str (SX.S c))).shown) := fun {T} =>
    repr_flat (by unfold toPy; rw [toPyL_st]) (all_small_st hb) (by rw [List.length_map, hlen]; have := ok.p2; omega) (fun _ _ z => by cases z)
  have r4 : reprA (S ++ [.lst ((beh m.las m.wr).map stD)]) [.obj S.length] = some (.str (PyData.list ((beh m.las m.wr).map fun c => PyData.str (SX.S c))).shown) :=
    repr_flat (by unfold toPy; rw [app_get]; dsimp only; rw [toPy0L_st]) (all_small_st hb) (by rw [List.length_map, hlen]; have := ok.p2; omega) (fun _ _ z => by cases z)
  have pg : Ev (fLc (fRng1 (fCons (fOp getD (fVar 1) (pureF (.int 0))) (pureF []))) [2] (gSet 2) (pureF true) (fMeth 2 "Disk" "read" fn_Disk_read (fVar 0) (fCons (fVar 2) (pureF [])))) ([.obj d, .obj s].map some ++ List.replicate 2 none) S (.lst ((beh m.las m.wr).map stD)) S := by
    have er : Ev (fRng1 (fCons (fOp getD (fVar 1) (pureF (.int 0))) (pureF []))) ([.obj d, .obj s].map some ++ List.replicate 2 none) S (rngD 0 m.p) S := by
      have e := ev_rng1 (env := [.obj d, .obj s].map some ++ List.replicate 2 none) (fs := fCons (fOp getD (fVar 1) (pureF (.int 0))) (pureF [])) (S := S) (S1 := S) (j := m.p) (ev_cons (ev_op (x := .obj s) (y := .int 0) (ev_var rfl rfl) ev_pure (by rw [getO hs.o]; rfl)) ev_nil) (by have := ok.p2; omega)
      rw [Int.toNat_natCast] at e
      exact e
    have e := lcRun_map (S := S) (gx := gSet 2) (te := fMeth 2 "Disk" "read" fn_Disk_read (fVar 0) (fCons (fVar 2) (pureF []))) (env0 := [some (.obj d), some (.obj s), none, none]) (f := fun z => match z with
      | .int k => stD ((beh m.las m.wr).getD k.toNat [])
      | _ => .non) (xs := rngD 0 m.p) (fun z hz => by
        unfold rngD at hz
        obtain ⟨k, hk, rfl⟩ := List.mem_map.mp hz
        rw [List.mem_range] at hk
        have e0 : (0 : Int) + (k : Nat) = (k : Nat) := by omega
        rw [e0]
        refine ⟨[some (.obj d), some (.obj s), some (.int k), none], rfl, ?_⟩
        have hk2 : (beh m.las m.wr)[k]? = some ((beh m.las m.wr).getD k []) := by
          rw [List.getD_eq_getElem?_getD, List.getElem?_eq_getElem (by omega)]
          rfl
        exact ev_meth (o := .obj d) (ev_var rfl rfl) (hd.inst (by decide)) (ev_cons (ev_var rfl rfl) ev_nil) rfl (read_ok hd hk2 hk))
    refine ev_lc er (by rw [rngD_len]; have := ok.p2; omega) ?_
    have e2 : (rngD 0 m.p).map (fun z => match z with
      | .int k => stD ((beh m.las m.wr).getD k.toNat [])
      | _ => .non) = (beh m.las m.wr).map stD := by
      unfold rngD
      rw [List.map_map]
      refine List.ext_getElem (by simp [hlen]) fun i h1 h2 => ?_
      rw [List.getElem_map, List.getElem_map, List.getElem_range]
      show stD ((beh m.las m.wr).getD ((0 : Int) + (i : Nat)).toNat []) = _
      have e0 : ((0 : Int) + (i : Nat)).toNat = i := by omega
      rw [List.length_map] at h2
      rw [e0, List.getD_eq_getElem?_getD, List.getElem?_eq_getElem h2]
      rfl
    rw [e2] at e
    exact e
  have bh := behO hs.x hs.y (fun z hz => by rw [ok.ll]; exact (ok.wk z hz).1)
  refine fn_rt (es_seq (es_if_f (ev_or_f (ev_not (b := true) isd) (ev_test c1)) es_nx) (es_seq (es_if_f (ev_test c2) es_nx) (es_ret (ev_op (ev_cb (ev_cons pg ev_nil) r3) (ev_cb (ds := [.obj S.length]) (ev_cons (ev_call (ds := [.obj x, .obj y]) (ev_cons (ev_op (x := .obj s) (y := .int 2) (ev_var rfl rfl) ev_pure (by rw [getO hs.o]; rfl)) (ev_cons (ev_op (x := .obj s) (y := .int 3) (ev_var rfl rfl) ev_pure (by rw [getO hs.o]; rfl)) ev_nil)) rfl bh) ev_nil) r4) (eq_same _)))))
end LW

namespace LW
open PySem FL

theorem ev_lcAs {env : Dv} {S S1 : List MO} {src : Fx D} {vs : List Nat} {gx : Gx} {te : Fx D} {f : D → D} {z : Str} (hs : Ev src env S (.str z) S1) (hl : (signsD z).length ≤ 50000) (h : ∀ x ∈ signsD z, ∃ env1, gx x (wipeD env vs) S1 = some (env1, S1) ∧ te env1 S1 = some (.ok (f x), S1)) :
    Ev (lcA src vs gx (pureF true) te) env S (.lst ((signsD z).map f)) S1 := by
  refine ev_bind hs ?_
  unfold Ev
  simp only [hl, if_true]
  rw [lcRun_map h]
theorem signs_st (c : List Nat) : signsD (SX.S c) = c.map one := by
  unfold signsD
  show (c.toArray.toList).map _ = _
  rw [List.toList_toArray]
  rfl
theorem le_sp {x : Nat} (h : 32 ≤ x) (S : List MO) : leD S (.str " ") (one x) = some (.bl true) := by
  show some (D.bl (!decide (([x] : List Nat) < [32]))) = _
  have : ¬ (([x] : List Nat) < [32]) := by
    rw [List.cons_lt_cons_iff]
    rintro (e | ⟨_, e⟩)
    · omega
    · exact absurd e (List.not_lt_nil _)
  rw [decide_eq_false this]
  rfl
theorem le_ti {x : Nat} (h : x ≤ 126) (S : List MO) : leD S (one x) (.str "~") = some (.bl true) := by
  show some (D.bl (!decide (([126] : List Nat) < [x]))) = _
  have : ¬ (([126] : List Nat) < [x]) := by
    rw [List.cons_lt_cons_iff]
    rintro (e | ⟨_, e⟩)
    · omega
    · exact absurd e (List.not_lt_nil _)
  rw [decide_eq_false this]
  rfl
theorem page_text_ok {c : List Nat} (h : okT c) {w : Nat} (hw : c.length ≤ w) (S : List MO) : callF fn_is_page_text [stD c, .int w] S = some (.ok (.bl true), S) := by
  refine callF_pure fun S => fn_rt (es_ret (ev_andV_t (ev_isi (x := stD c) (ev_var rfl rfl) rfl) (ev_andV_t (ev_op (x := .int c.length) (y := .int w) (ev_cb (ds := [stD c]) (ev_cons (ev_var rfl rfl) ev_nil) ?_) (ev_var rfl rfl) ?_) (ev_cb (ds := [.lst ((signsD (SX.S c)).map fun _ => .bl true)]) (ev_cons (ev_lcAs (z := SX.S c) (ev_var rfl rfl) ?_ ?_) ev_nil) ?_))))
  · show (if (SX.S c).length ≤ 100000 then some (D.int (SX.S c).length) else none) = _
    rw [SX.S_len, if_pos (by have := h.1; omega)]
  · show some (D.bl (decide ((c.length : Int) ≤ w))) = _
    rw [decide_eq_true (by omega)]
  · rw [signs_st, List.length_map]
    have := h.1
    omega
  · intro z hz
    rw [signs_st] at hz
    obtain ⟨x, hx, rfl⟩ := List.mem_map.mp hz
    refine ⟨[some (stD c), some (.int w), some (one x)], rfl, ?_⟩
    exact ev_chain_t (x := .str " ") (y := one x) (z := .str "~") ev_pure (ev_var rfl rfl) (le_sp (h.2 x hx).1 S) ev_pure (le_ti (h.2 x hx).2 S)
  · show (match blsOf ((signsD (SX.S c)).map fun _ => D.bl true) with
      | some ns => some (D.bl (ns.all id))
      | none => none) = _
    rw [blsOf_map (fun _ => true)]
    dsimp only
    rw [List.all_map]
    congr 2
    exact List.all_eq_true.mpr fun _ _ => rfl
def lfN : Option Nat → Option Nat
  | none => none
  | some n => some (n - 1)
def dO (m : PM) (l t u : Nat) (lf : Option Nat) : MO := .ins "Disk" diskNs [.int m.p, .int m.w, .obj l, .obj t, .obj u, lfD lf]
section
variable {S : List MO} {d l t u : Nat} {m : PM}
theorem set_self {S : List MO} {n : Nat} {m : MO} (h : S[n]? = some m) : S.set n m = S := by
  obtain ⟨h1, h2⟩ := List.getElem?_eq_some_iff.mp h
  rw [← h2]
  exact List.set_getElem_self h1
theorem lf_eq (lf : Option Nat) (S : List MO) : eqA S (lfD lf) (.int 0) = some (.bl (decide (lf = some 0))) := by
  cases lf with
  | none => rfl
  | some n =>
    show some (D.bl (decide ((n : Int) = 0))) = _
    congr 2
    exact decide_eq_decide.mpr ⟨fun h => by rw [show n = 0 by omega], fun h => by cases h; rfl⟩
theorem lf_ne (lf : Option Nat) (S : List MO) : neD S (lfD lf) (.int 0) = some (.bl (!decide (lf = some 0))) := by
  cases lf with
  | none => rfl
  | some n =>
    show some (D.bl (!decide ((n : Int) = 0))) = _
    congr 3
    exact decide_eq_decide.mpr ⟨fun h => by rw [show n = 0 by omega], fun h => by cases h; rfl⟩
theorem spend_ok (h : DiskAt S d l t u m) (hl : m.lf ≠ some 0) : callF fn_Disk_spend [.obj d] S = some (.ok .non, S.set d (dO m l t u (lfN m.lf))) := by
  rw [callF_open rfl]
  have e1 : Ev (fTest (fOp eqA (fFld ["Disk"] "left" (fVar 0)) (pureF (.int 0)))) ([.obj d].map some ++ List.replicate 0 none) S false S := ev_test (ev_op (h.fld rfl rfl) ev_pure (by rw [lf_eq, decide_eq_false hl]))
  cases q : m.lf with
  | none =>
    have e2 : Ev (fTest (fOp isnD (fFld ["Disk"] "left" (fVar 0)) (pureF .non))) ([.obj d].map some ++ List.replicate 0 none) S false S := ev_test (ev_op (x := lfD m.lf) (y := .non) (h.fld rfl rfl) ev_pure (by rw [q]; rfl))
    have es : S.set d (dO m l t u (lfN none)) = S := set_self (by rw [h.o, q]; rfl)
    rw [es]
    exact fn_nx (es_seq (es_if_f e1 es_nx) (es_if_f e2 es_nx))
  | some n =>
    have e2 : Ev (fTest (fOp isnD (fFld ["Disk"] "left" (fVar 0)) (pureF .non))) ([.obj d].map some ++ List.replicate 0 none) S true S := ev_test (ev_op (x := lfD m.lf) (y := .non) (h.fld rfl rfl) ev_pure (by rw [q]; rfl))
    have hn : n ≠ 0 := fun z => hl (by rw [q, z])
    refine fn_nx (env1 := [some (.obj d)]) (es_seq (es_if_f e1 es_nx) (es_if_t e2 (es_bind (ev_var (d := .obj d) rfl rfl) (es_bind (a := (("Disk" : Str), D.int n)) (ev_lift ?_) (es_bind (a := D.int 1) ev_pure ?_)))))
    · unfold fldC insView
      dsimp only
      rw [h.o]
      dsimp only
      rw [if_pos (by simp), q]
      rfl
    · show augK _ _ _ _ _ _ _ _ _ = _
      unfold augK
      dsimp only
      have hc : clsD S (.obj d) = some ("Disk" : Str) := by
        unfold clsD insView
        dsimp only
        rw [h.o]
      rw [if_pos hc, putO ["Disk"] "left" _ h.o (by simp) (by decide)]
      have e3 : ((n : Int) - 1) = ((n - 1 : Nat) : Int) := by omega
      rw [e3]
      rfl
theorem spend_cut (h : DiskAt S d l t u m) (hl : m.lf = some 0) : callF fn_Disk_spend [.obj d] S = some (.ex "PowerCut" none, S) := by
  rw [callF_open rfl]
  have e1 : Ev (fTest (fOp eqA (fFld ["Disk"] "left" (fVar 0)) (pureF (.int 0)))) ([.obj d].map some ++ List.replicate 0 none) S true S := ev_test (ev_op (h.fld rfl rfl) ev_pure (by rw [lf_eq, decide_eq_true hl]))
  exact fn_ex (es_seq_ex (es_if_t e1 es_raise0))
theorem ev_pt (h : DiskAt S d l t u m) {k : Nat} {c : List Nat} (hc : okT c) (hw : c.length ≤ m.w) : Ev (fNot (fTru (fCall 2 fn_is_page_text (fCons (fVar 2) (fCons (fFld ["Disk"] "width" (fVar 0)) (pureF [])))))) ([.obj d, .int k, stD c].map some ++ List.replicate 0 none) S false S :=
  ev_not (b := true) (ev_tru (ev_call (ev_cons (ev_var rfl rfl) (ev_cons (h.fld rfl rfl) ev_nil)) rfl (page_text_ok hc hw S)) rfl)
theorem write_cut (h : DiskAt S d l t u m) (hl : m.lf = some 0) {k : Nat} (hk : k < m.p) {c : List Nat} (hc : okT c) (hw : c.length ≤ m.w) : callF fn_Disk_write [.obj d, .int k, stD c] S = some (.ex "PowerCut" none, S) := by
  rw [callF_open rfl]
  exact fn_ex (es_seq (es_drop (ev_meth (o := .obj d) (ev_var rfl rfl) (h.inst (by decide)) (ev_cons (ev_var rfl rfl) ev_nil) rfl (check_ok h hk))) (es_seq (es_if_f (ev_pt h hc hw) es_nx) (es_seq_ex (es_dropx (ev_methx (o := .obj d) (ev_var rfl rfl) (h.inst (by decide)) ev_nil rfl (spend_cut h hl))))))
/-- the store behind a write -/
def wrS (S : List MO) (d l t u : Nat) (m : PM) (k : Nat) (c : List Nat) : List MO := ((S.set d (dO m l t u (lfN m.lf))).set t (.lst (((beh m.las m.wr).set k c).map stD))).set u (.lst ((m.wr ++ [(k, c)]).map wD))
theorem write_ok (h : DiskAt S d l t u m) (nd : d ≠ t ∧ d ≠ u ∧ t ≠ u) (hl : m.lf ≠ some 0) {k : Nat} (hk : k < m.p) (hp : m.las.length = m.p) (hz : m.wr.length ≤ 1000) {c : List Nat} (hc : okT c) (hw : c.length ≤ m.w) : callF fn_Disk_write [.obj d, .int k, stD c] S = some (.ok .non, wrS S d l t u m k c) := by
  rw [callF_open rfl]
  obtain ⟨S1, hS1⟩ : ∃ S1, S.set d (dO m l t u (lfN m.lf)) = S1 := ⟨_, rfl⟩
  have fr1 : Fr (· = d) S S1 := hS1 ▸ Fr.set
  have hd1 : S1[d]? = some (dO m l t u (lfN m.lf)) := hS1 ▸ set_get h.o
  have ht1 : S1[t]? = some (.lst ((beh m.las m.wr).map stD)) := fr1.get h.t (fun z => nd.1 z.symm)
  have hu1 : S1[u]? = some (.lst (m.wr.map wD)) := fr1.get h.u (fun z => nd.2.1 z.symm)
  have hj : L2.ixN ((beh m.las m.wr).map stD).length (k : Int) = some k := by
    unfold L2.ixN
    rw [List.length_map, beh_len, if_pos (by omega), if_pos (by omega), Int.toNat_natCast]
  have ft : Ev (fFld ["Disk"] "texts" (fVar 0)) ([.obj d, .int k, stD c].map some ++ List.replicate 0 none) S1 (.obj t) S1 := ev_fld (ev_var rfl rfl) (by rw [fldO ["Disk"] "texts" hd1 (by simp)]; rfl)
  have a1 := subO (fi := fVar 1) (d := stD c) ft (ev_var (i := 1) rfl rfl) ht1 hj
  obtain ⟨S2, hS2⟩ : ∃ S2, S1.set t (.lst (((beh m.las m.wr).map stD).set k (stD c))) = S2 := ⟨_, rfl⟩
  rw [hS2] at a1
  have fr2 : Fr (· = t) S1 S2 := hS2 ▸ Fr.set
  have hd2 := fr2.get hd1 nd.1
  have hu2 := fr2.get hu1 (fun z => nd.2.2 z.symm)
  have fu : Ev (fFld ["Disk"] "writes" (fVar 0)) ([.obj d, .int k, stD c].map some ++ List.replicate 0 none) S2 (.obj u) S2 := ev_fld (ev_var rfl rfl) (by rw [fldO ["Disk"] "writes" hd2 (by simp)]; rfl)
  have a2 : Ev (fMt appO (fFld ["Disk"] "writes" (fVar 0)) (fCons (fTup (fCons (fVar 1) (fCons (fVar 2) (pureF [])))) (pureF []))) ([.obj d, .int k, stD c].map some ++ List.replicate 0 none) S2 .non (S2.set u (.lst (m.wr.map wD ++ [wD (k, c)]))) :=
    ev_mt (ds := [wD (k, c)]) fu (by unfold viewL; dsimp only; rw [hu2]) (ev_cons (ev_tup (ev_cons (ev_var rfl rfl) (ev_cons (ev_var rfl rfl) ev_nil)) (by simp)) ev_nil) hu2 (if_pos (by rw [List.length_map]; omega))
  have e : wrS S d l t u m k c = S2.set u (.lst (m.wr.map wD ++ [wD (k, c)])) := by
    unfold wrS
    rw [hS1, ← hS2, List.map_set, List.map_append]
    rfl
  rw [e]
  exact fn_nx (es_seq (es_drop (ev_meth (o := .obj d) (ev_var rfl rfl) (h.inst (by decide)) (ev_cons (ev_var rfl rfl) ev_nil) rfl (check_ok h hk))) (es_seq (es_if_f (ev_pt h hc hw) es_nx) (es_seq (es_drop (ev_meth (o := .obj d) (ev_var rfl rfl) (h.inst (by decide)) ev_nil rfl (by rw [spend_ok h hl, hS1]))) (es_seq (es_asg (ev_var (d := stD c) rfl rfl) a1) (es_drop a2)))))
end
end LW

namespace LW
open PySem FL

section
variable {S : List MO} {d l t u s x y : Nat} {m : PM}
theorem settle_cut (h : DiskAt S d l t u m) (hl : m.lf = some 0) : callF fn_Disk_settle [.obj d] S = some (.ex "PowerCut" none, S) := by
  rw [callF_open rfl]
  exact fn_ex (es_seq_ex (es_dropx (ev_methx (o := .obj d) (ev_var rfl rfl) (h.inst (by decide)) ev_nil rfl (spend_cut h hl))))
/-- a disk behind a settling -/
theorem settle_ok (h : DiskAt S d l t u m) (hl : m.lf ≠ some 0) (nd : d ≠ t) : ∃ S' l' u', callF fn_Disk_settle [.obj d] S = some (.ok .non, S') ∧ Fr (· = d) S S' ∧ S.length ≤ l' ∧ S.length ≤ u' ∧ l' ≠ u' ∧ DiskAt S' d l' t u' { m with las := beh m.las m.wr, wr := [], lf := lfN m.lf } := by
  obtain ⟨S1, hS1⟩ : ∃ S1, S.set d (dO m l t u (lfN m.lf)) = S1 := ⟨_, rfl⟩
  have fr1 : Fr (· = d) S S1 := hS1 ▸ Fr.set
  have len1 : S1.length = S.length := by rw [← hS1, List.length_set]
  have hd1 : S1[d]? = some (dO m l t u (lfN m.lf)) := hS1 ▸ set_get h.o
  have ht1 : S1[t]? = some (.lst ((beh m.las m.wr).map stD)) := fr1.get h.t (fun z => nd z.symm)
  -- self.lasting
  obtain ⟨S2, hS2⟩ : ∃ S2, S1 ++ [.lst ((beh m.las m.wr).map stD)] = S2 := ⟨_, rfl⟩
  have fr2 : Fr NoM S1 S2 := hS2 ▸ Fr.app
  have a1 : Ev (fListO (fFld ["Disk"] "texts" (fVar 0))) ([.obj d].map some ++ List.replicate 0 none) S1 (.obj S1.length) S2 := by
    rw [← hS2]
    exact ev_listO (x := .obj t) (ev_fld (ev_var (d := .obj d) rfl rfl) (by rw [fldO ["Disk"] "texts" hd1 (by simp)]; rfl)) (LT.obj ht1).v
  have hd2 := fr2.get hd1 id
  have p1 : storeF ["Disk"] "lasting" (.obj d) (.obj S1.length) S2 = some (S2.set d (dO m S1.length t u (lfN m.lf))) := putO ["Disk"] "lasting" (.obj S1.length) hd2 (by simp) (by decide)
  obtain ⟨S3, hS3⟩ : ∃ S3, S2.set d (dO m S1.length t u (lfN m.lf)) = S3 := ⟨_, rfl⟩
  rw [hS3] at p1
  have fr3 : Fr (· = d) S2 S3 := hS3 ▸ Fr.set
  have hd3 : S3[d]? = some (dO m S1.length t u (lfN m.lf)) := hS3 ▸ set_get hd2
  -- self.writes
  obtain ⟨S4, hS4⟩ : ∃ S4, S3 ++ [.lst []] = S4 := ⟨_, rfl⟩
  have fr4 : Fr NoM S3 S4 := hS4 ▸ Fr.app
  have a2 : Ev (fLstO (pureF [])) ([.obj d].map some ++ List.replicate 0 none) S3 (.obj S3.length) S4 := by
    rw [← hS4]
    exact ev_lstO ev_nil (by simp)
  have hd4 := fr4.get hd3 id
  have p2 : storeF ["Disk"] "writes" (.obj d) (.obj S3.length) S4 = some (S4.set d (dO m S1.length t S3.length (lfN m.lf))) := putO ["Disk"] "writes" (.obj S3.length) hd4 (by simp) (by decide)
  obtain ⟨S5, hS5⟩ : ∃ S5, S4.set d (dO m S1.length t S3.length (lfN m.lf)) = S5 := ⟨_, rfl⟩
  rw [hS5] at p2
  have fr5 : Fr (· = d) S4 S5 := hS5 ▸ Fr.set
  have len2 : S2.length = S1.length + 1 := by rw [← hS2]; simp
  have len3 : S3.length = S2.length := by rw [← hS3, List.length_set]
  have dlt := get_lt h.o
  have frT : Fr (· = d) S1 S5 := (fr_no fr2).trans (fr3.trans ((fr_no fr4).trans fr5))
  refine ⟨S5, S1.length, S3.length, ?_, fr1.trans frT, by omega, by omega, by omega, ⟨?_, ?_, ?_, ?_⟩⟩
  · rw [callF_open rfl]
    exact fn_nx (es_seq (es_drop (ev_meth (o := .obj d) (ev_var rfl rfl) (h.inst (by decide)) ev_nil rfl (by rw [spend_ok h hl, hS1]))) (es_seq (es_fld a1 (ev_var (d := .obj d) rfl rfl) p1) (es_fld a2 (ev_var (d := .obj d) rfl rfl) p2)))
  · exact hS5 ▸ set_get hd4
  · have h2 : S2[S1.length]? = some (.lst ((beh m.las m.wr).map stD)) := hS2 ▸ app_get
    have ne : ¬ (S1.length = d) := by omega
    exact fr5.get (fr4.get (fr3.get h2 ne) id) ne
  · exact frT.get ht1 (fun z => nd z.symm)
  · have h4 : S4[S3.length]? = some (.lst []) := hS4 ▸ app_get
    exact fr5.get h4 (by omega)
theorem stop_ok (h : DiskAt S d l t u m) (n : Nat) : callF fn_Disk_stop [.obj d, .int n] S = some (.ok .non, S.set d (dO m l t u (some n))) := by
  rw [callF_open rfl]
  have e1 : Ev (fCall 1 fn_is_whole (fCons (fVar 1) (pureF []))) ([.obj d, .int n].map some ++ List.replicate 0 none) S (.bl true) S := ev_call (ev_cons (ev_var rfl rfl) ev_nil) rfl (callF_pure (is_whole_eq (d := .int n) rfl))
  have e2 : Ev (fTest (fOp geD (fVar 1) (pureF (.int 0)))) ([.obj d, .int n].map some ++ List.replicate 0 none) S true S := ev_test (ev_op (x := .int n) (y := .int 0) (ev_var rfl rfl) ev_pure (by show some (D.bl (decide ((0 : Int) ≤ n))) = _; rw [decide_eq_true (by omega)]))
  exact fn_nx (es_seq (es_if_f (ev_and_t (ev_test (ev_op (x := .int n) (y := .non) (ev_var rfl rfl) ev_pure rfl)) (ev_not (b := true) (ev_and_t (ev_tru e1 rfl) e2))) es_nx) (es_fld (ev_var (d := .int n) rfl rfl) (ev_var (d := .obj d) rfl rfl) (putO ["Disk"] "left" (.int n) h.o (by simp) (by decide))))
def sO (m : PM) (x y : Nat) (lf : Option Nat) : MO := .lst [.int m.p, .int m.w, .obj x, .obj y, lfD lf]
theorem ev_s {env : Dv} {i : Nat} {k : Int} {v : D} {xs : List D} (h : S[s]? = some (.lst xs)) (hi : env[i]? = some (some (.obj s))) (e : L2.atI xs k = some v) : Ev (fOp getD (fVar i) (pureF (.int k))) env S v S := ev_op (x := .obj s) (y := .int k) (ev_var hi rfl) ev_pure (by rw [getO h]; exact e)
theorem let_ev (h : StAt S s x y m) {env : Dv} (hi : env[1]? = some (some (.obj s))) : Ev (fOp neD (fOp getD (fVar 1) (pureF (.int 4))) (pureF (.int 0))) env S (.bl (!decide (m.lf = some 0))) S := ev_op (x := lfD m.lf) (y := .int 0) (ev_s h.o hi rfl) ev_pure (lf_ne _ _)
/-- state[4] = None if .. else .. - 1 -/
theorem left_es {xs : List D} {lf : Option Nat} {env : Dv} (h : S[s]? = some (.lst [xs.getD 0 .non, xs.getD 1 .non, xs.getD 2 .non, xs.getD 3 .non, lfD lf])) (hl : lf ≠ some 0) (hi : env[1]? = some (some (.obj s))) :
    EvS (asgS (fIf (fTest (fOp isD (fOp getD (fVar 1) (pureF (.int 4))) (pureF .non))) (pureF .non) (fOp subD (fOp getD (fVar 1) (pureF (.int 4))) (pureF (.int 1)))) (gSubG (fVar 1) (pureF (.int 4)))) env S .nx env (S.set s (.lst [xs.getD 0 .non, xs.getD 1 .non, xs.getD 2 .non, xs.getD 3 .non, lfD (lfN lf)])) := by
  have hs := subO (fo := fVar 1) (fi := pureF (.int 4)) (env := env) (d := lfD (lfN lf)) (k := 4) (j := 4) (ev_var hi rfl) ev_pure h rfl
  refine es_asg (d := lfD (lfN lf)) ?_ hs
  cases lf with
  | none => exact ev_if_t (ev_test (ev_op (x := .non) (y := .non) (ev_s h hi rfl) ev_pure rfl)) ev_pure
  | some n =>
    have hn : n ≠ 0 := fun z => hl (by rw [z])
    refine ev_if_f (ev_test (ev_op (x := .int n) (y := .non) (ev_s h hi rfl) ev_pure rfl)) (ev_op (x := .int n) (y := .int 1) (ev_s h hi rfl) ev_pure ?_)
    show some (D.int ((n : Int) - 1)) = some (D.int ((n - 1 : Nat) : Int))
    congr 2
    omega
end
theorem nd7 {d l t u s x y : Nat} (h : [d, l, t, u, s, x, y].Nodup) : d ≠ l ∧ d ≠ t ∧ d ≠ u ∧ d ≠ s ∧ d ≠ x ∧ d ≠ y ∧ l ≠ t ∧ l ≠ u ∧ l ≠ s ∧ l ≠ x ∧ l ≠ y ∧ t ≠ u ∧ t ≠ s ∧ t ≠ x ∧ t ≠ y ∧ u ≠ s ∧ u ≠ x ∧ u ≠ y ∧ s ≠ x ∧ s ≠ y ∧ x ≠ y := by
  simp only [List.nodup_cons, List.mem_cons, List.not_mem_nil, or_false, not_or, List.nodup_nil, and_true, not_false_eq_true] at h
  obtain ⟨⟨h1, h2, h3, h4, h5, h6⟩, ⟨h7, h8, h9, h10, h11⟩, ⟨h12, h13, h14, h15⟩, ⟨h16, h17, h18⟩, ⟨h19, h20⟩, h21⟩ := h
  exact ⟨h1, h2, h3, h4, h5, h6, h7, h8, h9, h10, h11, h12, h13, h14, h15, h16, h17, h18, h19, h20, h21⟩
theorem nd7_of {d l t u s x y : Nat} (h : d ≠ l ∧ d ≠ t ∧ d ≠ u ∧ d ≠ s ∧ d ≠ x ∧ d ≠ y ∧ l ≠ t ∧ l ≠ u ∧ l ≠ s ∧ l ≠ x ∧ l ≠ y ∧ t ≠ u ∧ t ≠ s ∧ t ≠ x ∧ t ≠ y ∧ u ≠ s ∧ u ≠ x ∧ u ≠ y ∧ s ≠ x ∧ s ≠ y ∧ x ≠ y) : [d, l, t, u, s, x, y].Nodup := by
  obtain ⟨h1, h2, h3, h4, h5, h6, h7, h8, h9, h10, h11, h12, h13, h14, h15, h16, h17, h18, h19, h20, h21⟩ := h
  simp only [List.nodup_cons, List.mem_cons, List.not_mem_nil, or_false, not_or, List.nodup_nil, and_true, not_false_eq_true]
  exact ⟨⟨h1, h2, h3, h4, h5, h6⟩, ⟨h7, h8, h9, h10, h11⟩, ⟨h12, h13, h14, h15⟩, ⟨h16, h17, h18⟩, ⟨h19, h20⟩, h21⟩
/-- a step of a pair: what is its own changes, or is new -/
structure PStep (S S' : List MO) (d s : Nat) (F : List Nat) (m' : PM) : Prop where
  fr : Fr (· ∈ F) S S'
  ex : ∃ F', Pair S' d s F' m' ∧ ∀ i ∈ F', i ∈ F ∨ S.length ≤ i
def wroteM (m : PM) (k : Nat) (c : List Nat) : PM := if m.lf = some 0 then m else { m with wr := m.wr ++ [(k, c)], lf := lfN m.lf }
theorem wrote_ok {S : List MO} {d s : Nat} {F : List Nat} {m : PM} (h : Pair S d s F m) {k : Nat} (hk : k < m.p) {c : List Nat} (hc : okT c) (hw : c.length ≤ m.w) (hz : m.wr.length < 1000) :
    ∃ S', callF fn__law_wrote [.obj d, .obj s, .int k, stD c] S = some (.ok (.bl true), S') ∧ Fr (· ∈ F) S S' ∧ Pair S' d s F (wroteM m k c) := by
  obtain ⟨l, t, u, x, y, rfl, nd, hd, hs⟩ := h.ex
  obtain ⟨n1, n2, n3, n4, n5, n6, n7, n8, n9, n10, n11, n12, n13, n14, n15, n16, n17, n18, n19, n20, n21⟩ := nd7 nd
  have ok := h.ok
  by_cases hl : m.lf = some 0
  · refine ⟨S, ?_, Fr.refl, ?_⟩
    · rw [callF_open rfl]
      have e1 : Ev (fOp neD (fOp getD (fVar 1) (pureF (.int 4))) (pureF (.int 0))) ([.obj d, .obj s, .int k, stD c].map some ++ List.replicate 2 none) S (.bl false) S := by
        have e := let_ev hs (env := [.obj d, .obj s, .int k, stD c].map some ++ List.replicate 2 none) rfl
        rw [decide_eq_true hl] at e
        exact e
      have e2 : Evx (fMeth 3 "Disk" "write" fn_Disk_write (fVar 0) (fCons (fVar 2) (fCons (fVar 3) (pureF [])))) [some (.obj d), some (.obj s), some (.int k), some (stD c), some (.bl false), none] S "PowerCut" none S := ev_methx (o := .obj d) (ev_var rfl rfl) (hd.inst (by decide)) (ev_cons (ev_var rfl rfl) (ev_cons (ev_var rfl rfl) ev_nil)) rfl (write_cut hd hl hk hc hw)
      have e3 : EvS (retS (fAndV (fOp isD (fMeth 3 "Disk" "write" fn_Disk_write (fVar 0) (fCons (fVar 2) (fCons (fVar 3) (pureF [])))) (pureF .non)) (fVar 4))) [some (.obj d), some (.obj s), some (.int k), some (stD c), some (.bl false), none] S (.ex "PowerCut" none) [some (.obj d), some (.obj s), some (.int k), some (stD c), some (.bl false), none] S := es_retx (by
        unfold Evx fAndV fOp bindF
        rw [show fMeth 3 "Disk" "write" fn_Disk_write (fVar 0) (fCons (fVar 2) (fCons (fVar 3) (pureF []))) [some (.obj d), some (.obj s), some (.int k), some (stD c), some (.bl false), none] S = some (.ex "PowerCut" none, S) from e2])
      exact fn_rt (es_seq (es_set e1) (es_seq (es_if_f (ev_tru (d := .bl false) (ev_var rfl rfl) rfl) es_nx) (es_try_ex e3 (handle_rt rfl (es_ret (ev_andV_t (show Ev (fIsE 5 [("PowerCut", true)] "PowerCut") [some (.obj d), some (.obj s), some (.int k), some (stD c), some (.bl false), some .exc] S (.bl true) S from rfl) (ev_notV (b := false) (ev_var rfl rfl))))))))
    · unfold wroteM
      rw [if_pos hl]
      exact h
  · -- the state first
    have y1 : Ev (fMt appO (fOp getD (fVar 1) (pureF (.int 3))) (fCons (fTup (fCons (fVar 2) (fCons (fVar 3) (pureF [])))) (pureF []))) [some (.obj d), some (.obj s), some (.int k), some (stD c), some (.bl true), none] S .non (S.set y (.lst (m.wr.map wD ++ [wD (k, c)]))) :=
      ev_mt (ds := [wD (k, c)]) (ev_s hs.o rfl rfl) (by unfold viewL; dsimp only; rw [hs.y]) (ev_cons (ev_tup (ev_cons (ev_var rfl rfl) (ev_cons (ev_var rfl rfl) ev_nil)) (by simp)) ev_nil) hs.y (if_pos (by rw [List.length_map]; omega))
    obtain ⟨S1, hS1⟩ : ∃ S1, S.set y (MO.lst (m.wr.map wD ++ [wD (k, c)])) = S1 := ⟨_, rfl⟩
    rw [hS1] at y1
    have fr1 : Fr (· = y) S S1 := hS1 ▸ Fr.set
    have hs1 := fr1.get hs.o n20
    have y2 := left_es (xs := [.int m.p, .int m.w, .obj x, .obj y]) (env := [some (.obj d), some (.obj s), some (.int k), some (stD c), some (.bl true), none]) hs1 hl rfl
    obtain ⟨S2, hS2⟩ : ∃ S2, S1.set s (MO.lst [.int m.p, .int m.w, .obj x, .obj y, lfD (lfN m.lf)]) = S2 := ⟨_, rfl⟩
    have fr2 : Fr (· = s) S1 S2 := hS2 ▸ Fr.set
    have hd2 : DiskAt S2 d l t u m := ⟨fr2.get (fr1.get hd.o n6) n4, fr2.get (fr1.get hd.l n11) n9, fr2.get (fr1.get hd.t n15) n13, fr2.get (fr1.get hd.u n18) n16⟩
    have w := write_ok hd2 ⟨n2, n3, n12⟩ hl hk ok.ll (by omega) hc hw
    have hS3 := wrS S2 d l t u m k c
    -- the disk's store
    have g1 : Fr (fun i => i = d ∨ i = t ∨ i = u) S2 (wrS S2 d l t u m k c) := ((Fr.set (n := d)).mono fun _ _ z => .inl z).trans (((Fr.set (n := t)).mono fun _ _ z => .inr (.inl z)).trans ((Fr.set (n := u)).mono fun _ _ z => .inr (.inr z)))
    have gd : (wrS S2 d l t u m k c)[d]? = some (dO m l t u (lfN m.lf)) := (Fr.set (n := u)).get ((Fr.set (n := t)).get (set_get hd2.o) n2) n3
    have gt : (wrS S2 d l t u m k c)[t]? = some (.lst (((beh m.las m.wr).set k c).map stD)) := (Fr.set (n := u)).get (set_get ((Fr.set (n := d)).get hd2.t fun z => n2 z.symm)) n12
    have gu : (wrS S2 d l t u m k c)[u]? = some (.lst ((m.wr ++ [(k, c)]).map wD)) := set_get ((Fr.set (n := t)).get ((Fr.set (n := d)).get hd2.u fun z => n3 z.symm) fun z => n12 z.symm)
    refine ⟨wrS S2 d l t u m k c, ?_, ?_, ?_⟩
    · rw [callF_open rfl]
      have e1 : Ev (fOp neD (fOp getD (fVar 1) (pureF (.int 4))) (pureF (.int 0))) ([.obj d, .obj s, .int k, stD c].map some ++ List.replicate 2 none) S (.bl true) S := by
        have e := let_ev hs (env := [.obj d, .obj s, .int k, stD c].map some ++ List.replicate 2 none) rfl
        rw [decide_eq_false hl] at e
        exact e
      rw [show S1.set s (.lst [[D.int m.p, .int m.w, .obj x, .obj y].getD 0 .non, [D.int m.p, .int m.w, .obj x, .obj y].getD 1 .non, [D.int m.p, .int m.w, .obj x, .obj y].getD 2 .non, [D.int m.p, .int m.w, .obj x, .obj y].getD 3 .non, lfD (lfN m.lf)]) = S2 from hS2] at y2
      exact fn_rt (es_seq (es_set e1) (es_seq (es_if_t (ev_tru (d := .bl true) (ev_var rfl rfl) rfl) (es_seq (es_drop y1) y2)) (es_try_ok (es_ret (ev_andV_t (ev_op (x := .non) (y := .non) (ev_meth (o := .obj d) (ev_var rfl rfl) (hd2.inst (by decide)) (ev_cons (ev_var rfl rfl) (ev_cons (ev_var rfl rfl) ev_nil)) rfl w) ev_pure rfl) (ev_var rfl rfl))))))
    · exact (fr1.mono fun i _ z => by rw [z]; simp).trans ((fr2.mono fun i _ z => by rw [z]; simp).trans (g1.mono fun i _ z => by rcases z with z | z | z <;> rw [z] <;> simp))
    · unfold wroteM
      rw [if_neg hl]
      refine ⟨⟨ok.p1, ok.p2, ok.w1, ok.w2, ok.ll, ok.lt, fun z hz => ?_, by show (m.wr ++ [(k, c)]).length ≤ 1000; simp; omega⟩, l, t, u, x, y, rfl, nd, ⟨gd, ?_, ?_, gu⟩, ⟨?_, ?_, ?_⟩⟩
      · rcases List.mem_append.mp hz with q | q
        · exact ok.wk z q
        · have e : z = (k, c) := by simpa using q
          rw [e]
          exact ⟨hk, hc⟩
      · exact g1.get hd2.l (by rintro (z | z | z); exact n1 z.symm; exact n7 z; exact n8 z)
      · show _ = some (MO.lst ((beh m.las (m.wr ++ [(k, c)])).map stD))
        rw [beh_app]
        exact gt
      · exact g1.get (hS2 ▸ set_get hs1) (by rintro (z | z | z); exact n4 z.symm; exact n13 z.symm; exact n16 z.symm)
      · exact g1.get (fr2.get (fr1.get hs.x n21) fun z => n19 z.symm) (by rintro (z | z | z); exact n5 z.symm; exact n14 z.symm; exact n17 z.symm)
      · have hy1 : S1[y]? = some (.lst (m.wr.map wD ++ [wD (k, c)])) := hS1 ▸ set_get hs.y
        have e : (m.wr ++ [(k, c)]).map wD = m.wr.map wD ++ [wD (k, c)] := by rw [List.map_append]; rfl
        show _ = some (MO.lst ((m.wr ++ [(k, c)]).map wD))
        rw [e]
        exact g1.get (fr2.get hy1 fun z => n20 z.symm) (by rintro (z | z | z); exact n6 z.symm; exact n15 z.symm; exact n18 z.symm)
end LW

namespace LW
open PySem FL

theorem conss2 {f g : Gx} {a b : D} {env env1 env2 : Dv} {S S1 S2 : List MO} (h1 : f a env S = some (env1, S1)) (h2 : g b env1 S1 = some (env2, S2)) : gSeqG 2 (gConss f (gConss g gNils)) (.tup [a, b]) env S = some (env2, S2) := by
  show gConss f (gConss g gNils) [a, b] env S = _
  unfold gConss
  dsimp only
  rw [h1]
  dsimp only
  rw [h2]
  rfl
section
variable {S : List MO} {d s : Nat} {F : List Nat} {m : PM}
def stlM (m : PM) : PM := if m.lf = some 0 then m else { m with las := beh m.las m.wr, wr := [], lf := lfN m.lf }
theorem settled_ok (h : Pair S d s F m) : ∃ S', callF fn__law_settled [.obj d, .obj s] S = some (.ok (.bl true), S') ∧ PStep S S' d s F (stlM m) := by
  obtain ⟨l, t, u, x, y, rfl, nd, hd, hs⟩ := h.ex
  obtain ⟨n1, n2, n3, n4, n5, n6, n7, n8, n9, n10, n11, n12, n13, n14, n15, n16, n17, n18, n19, n20, n21⟩ := nd7 nd
  have ok := h.ok
  by_cases hl : m.lf = some 0
  · refine ⟨S, ?_, Fr.refl, [d, l, t, u, s, x, y], ?_, fun i hi => .inl hi⟩
    · rw [callF_open rfl]
      have e1 : Ev (fOp neD (fOp getD (fVar 1) (pureF (.int 4))) (pureF (.int 0))) ([.obj d, .obj s].map some ++ List.replicate 2 none) S (.bl false) S := by
        have e := let_ev hs (env := [.obj d, .obj s].map some ++ List.replicate 2 none) rfl
        rw [decide_eq_true hl] at e
        exact e
      have e2 : Evx (fMeth 1 "Disk" "settle" fn_Disk_settle (fVar 0) (pureF [])) [some (.obj d), some (.obj s), some (.bl false), none] S "PowerCut" none S := ev_methx (o := .obj d) (ev_var rfl rfl) (hd.inst (by decide)) ev_nil rfl (settle_cut hd hl)
      have e3 : EvS (retS (fAndV (fOp isD (fMeth 1 "Disk" "settle" fn_Disk_settle (fVar 0) (pureF [])) (pureF .non)) (fVar 2))) [some (.obj d), some (.obj s), some (.bl false), none] S (.ex "PowerCut" none) [some (.obj d), some (.obj s), some (.bl false), none] S := es_retx (by
        unfold Evx fAndV fOp bindF
        rw [show fMeth 1 "Disk" "settle" fn_Disk_settle (fVar 0) (pureF []) [some (.obj d), some (.obj s), some (.bl false), none] S = some (.ex "PowerCut" none, S) from e2])
      exact fn_rt (es_seq (es_set e1) (es_seq (es_if_f (ev_tru (d := .bl false) (ev_var rfl rfl) rfl) es_nx) (es_try_ex e3 (handle_rt rfl (es_ret (ev_andV_t (show Ev (fIsE 3 [("PowerCut", true)] "PowerCut") [some (.obj d), some (.obj s), some (.bl false), some .exc] S (.bl true) S from rfl) (ev_notV (b := false) (ev_var rfl rfl))))))))
    · unfold stlM
      rw [if_pos hl]
      exact h
  · have hw : ∀ x ∈ m.wr, x.1 < m.las.length := fun z hz => by rw [ok.ll]; exact (ok.wk z hz).1
    obtain ⟨S1, hS1⟩ : ∃ S1, S ++ [MO.lst ((beh m.las m.wr).map stD)] = S1 := ⟨_, rfl⟩
    obtain ⟨S2, hS2⟩ : ∃ S2, S1 ++ [MO.lst []] = S2 := ⟨_, rfl⟩
    have bo := behO hs.x hs.y hw
    rw [hS1] at bo
    have len1 : S1.length = S.length + 1 := by rw [← hS1]; simp
    have len2 : S2.length = S.length + 2 := by rw [← hS2]; simp [len1]
    have fr1 : Fr NoM S S1 := hS1 ▸ Fr.app
    have fr2 : Fr NoM S1 S2 := hS2 ▸ Fr.app
    have hs2 := fr2.get (fr1.get hs.o id) id
    have y1 : Ev (fTup (fCons (fCall 2 fn__law_behind (fCons (fOp getD (fVar 1) (pureF (.int 2))) (fCons (fOp getD (fVar 1) (pureF (.int 3))) (pureF [])))) (fCons (fLstO (pureF [])) (pureF [])))) [some (.obj d), some (.obj s), some (.bl true), none] S (.tup [.obj S.length, .obj S1.length]) S2 :=
      ev_tup (ev_cons (ev_call (ds := [.obj x, .obj y]) (ev_cons (ev_s hs.o rfl rfl) (ev_cons (ev_s hs.o rfl rfl) ev_nil)) rfl bo) (ev_cons (by rw [← hS2]; exact ev_lstO ev_nil (by simp)) ev_nil)) (by simp)
    obtain ⟨S3, hS3⟩ : ∃ S3, S2.set s (MO.lst [.int m.p, .int m.w, .obj S.length, .obj y, lfD m.lf]) = S3 := ⟨_, rfl⟩
    have fr3 : Fr (· = s) S2 S3 := hS3 ▸ Fr.set
    have hs3 : S3[s]? = some (MO.lst [.int m.p, .int m.w, .obj S.length, .obj y, lfD m.lf]) := hS3 ▸ set_get hs2
    have g1 : gSubG (fVar 1) (pureF (.int 2)) (.obj S.length) [some (.obj d), some (.obj s), some (.bl true), none] S2 = some ([some (.obj d), some (.obj s), some (.bl true), none], S3) := by
      rw [← hS3]
      exact subO (ev_var rfl rfl) ev_pure hs2 (j := 2) rfl
    obtain ⟨S4, hS4⟩ : ∃ S4, S3.set s (MO.lst [.int m.p, .int m.w, .obj S.length, .obj S1.length, lfD m.lf]) = S4 := ⟨_, rfl⟩
    have fr4 : Fr (· = s) S3 S4 := hS4 ▸ Fr.set
    have hs4 : S4[s]? = some (MO.lst [.int m.p, .int m.w, .obj S.length, .obj S1.length, lfD m.lf]) := hS4 ▸ set_get hs3
    have g2 : gSubG (fVar 1) (pureF (.int 3)) (.obj S1.length) [some (.obj d), some (.obj s), some (.bl true), none] S3 = some ([some (.obj d), some (.obj s), some (.bl true), none], S4) := by
      rw [← hS4]
      exact subO (ev_var rfl rfl) ev_pure hs3 (j := 3) rfl
    have y2 := left_es (xs := [.int m.p, .int m.w, .obj S.length, .obj S1.length]) (env := [some (.obj d), some (.obj s), some (.bl true), none]) hs4 hl rfl
    obtain ⟨S5, hS5⟩ : ∃ S5, S4.set s (MO.lst [.int m.p, .int m.w, .obj S.length, .obj S1.length, lfD (lfN m.lf)]) = S5 := ⟨_, rfl⟩
    rw [show S4.set s (MO.lst [[D.int m.p, .int m.w, .obj S.length, .obj S1.length].getD 0 .non, [D.int m.p, .int m.w, .obj S.length, .obj S1.length].getD 1 .non, [D.int m.p, .int m.w, .obj S.length, .obj S1.length].getD 2 .non, [D.int m.p, .int m.w, .obj S.length, .obj S1.length].getD 3 .non, lfD (lfN m.lf)]) = S5 from hS5] at y2
    have fr5 : Fr (· = s) S4 S5 := hS5 ▸ Fr.set
    have fr25 : Fr (· = s) S2 S5 := fr3.trans (fr4.trans fr5)
    have frA : Fr (· = s) S S5 := (fr_no fr1).trans ((fr_no fr2).trans fr25)
    have hd5 : DiskAt S5 d l t u m := ⟨frA.get hd.o n4, frA.get hd.l n9, frA.get hd.t n13, frA.get hd.u n16⟩
    obtain ⟨S6, l', u', e6, fr6, hl', hu', nlu, hd6⟩ := settle_ok hd5 hl n2
    have len5 : S5.length = S.length + 2 := by rw [← hS5, List.length_set, ← hS4, List.length_set, ← hS3, List.length_set, len2]
    have ds := get_lt hd.o
    have ss := get_lt hs.o
    have ts := get_lt hd.t
    refine ⟨S6, ?_, (frA.mono fun i _ z => by rw [z]; simp).trans (fr6.mono fun i _ z => by rw [z]; simp), ?_⟩
    · rw [callF_open rfl]
      have e1 : Ev (fOp neD (fOp getD (fVar 1) (pureF (.int 4))) (pureF (.int 0))) ([.obj d, .obj s].map some ++ List.replicate 2 none) S (.bl true) S := by
        have e := let_ev hs (env := [.obj d, .obj s].map some ++ List.replicate 2 none) rfl
        rw [decide_eq_false hl] at e
        exact e
      exact fn_rt (es_seq (es_set e1) (es_seq (es_if_t (ev_tru (d := .bl true) (ev_var rfl rfl) rfl) (es_seq (es_asg y1 (conss2 g1 g2)) y2)) (es_try_ok (es_ret (ev_andV_t (ev_op (x := .non) (y := .non) (ev_meth (o := .obj d) (ev_var rfl rfl) (hd5.inst (by decide)) ev_nil rfl e6) ev_pure rfl) (ev_var rfl rfl))))))
    · unfold stlM
      rw [if_neg hl]
      refine ⟨[d, l', t, u', s, S.length, S1.length], ⟨⟨ok.p1, ok.p2, ok.w1, ok.w2, by show (beh _ _).length = _; rw [beh_len]; exact ok.ll, beh_ok ok.lt fun z hz => (ok.wk z hz).2, fun z hz => (by cases hz), Nat.zero_le _⟩, l', t, u', S.length, S1.length, rfl, nd7_of (by omega), hd6, ⟨?_, ?_, ?_⟩⟩, ?_⟩
      · exact fr6.get (hS5 ▸ set_get hs4) (fun z => n4 z.symm)
      · have h1 : S1[S.length]? = some (MO.lst ((beh m.las m.wr).map stD)) := hS1 ▸ app_get
        exact fr6.get (fr25.get (fr2.get h1 id) (by omega)) (by omega)
      · have h2 : S2[S1.length]? = some (MO.lst []) := hS2 ▸ app_get
        exact fr6.get (fr25.get h2 (by omega)) (by omega)
      · intro i hi
        simp only [List.mem_cons, List.not_mem_nil, or_false] at hi ⊢
        omega
theorem stopped_ok (h : Pair S d s F m) (n : Nat) : ∃ S', callF fn__law_stopped [.obj d, .obj s, .int n] S = some (.ok (.bl true), S') ∧ Fr (· ∈ F) S S' ∧ Pair S' d s F { m with lf := some n } := by
  obtain ⟨l, t, u, x, y, rfl, nd, hd, hs⟩ := h.ex
  obtain ⟨n1, n2, n3, n4, n5, n6, n7, n8, n9, n10, n11, n12, n13, n14, n15, n16, n17, n18, n19, n20, n21⟩ := nd7 nd
  have ok := h.ok
  obtain ⟨S1, hS1⟩ : ∃ S1, S.set s (MO.lst [.int m.p, .int m.w, .obj x, .obj y, .int n]) = S1 := ⟨_, rfl⟩
  have fr1 : Fr (· = s) S S1 := hS1 ▸ Fr.set
  have hd1 : DiskAt S1 d l t u m := ⟨fr1.get hd.o n4, fr1.get hd.l n9, fr1.get hd.t n13, fr1.get hd.u n16⟩
  have g1 : gSubG (fVar 1) (pureF (.int 4)) (.int n) [some (.obj d), some (.obj s), some (.int n)] S = some ([some (.obj d), some (.obj s), some (.int n)], S1) := by
    rw [← hS1]
    exact subO (ev_var rfl rfl) ev_pure hs.o (j := 4) rfl
  have fr2 : Fr (· = d) S1 (S1.set d (dO m l t u (some n))) := Fr.set
  refine ⟨_, ?_, (fr1.mono fun i _ z => by rw [z]; simp).trans (fr2.mono fun i _ z => by rw [z]; simp), ⟨ok.p1, ok.p2, ok.w1, ok.w2, ok.ll, ok.lt, ok.wk, ok.wl⟩, l, t, u, x, y, rfl, nd, ⟨set_get hd1.o, fr2.get hd1.l (fun z => n1 z.symm), fr2.get hd1.t (fun z => n2 z.symm), fr2.get hd1.u (fun z => n3 z.symm)⟩, ⟨fr2.get (hS1 ▸ set_get hs.o) (fun z => n4 z.symm), fr2.get (fr1.get hs.x fun z => n19 z.symm) (fun z => n5 z.symm), fr2.get (fr1.get hs.y fun z => n20 z.symm) (fun z => n6 z.symm)⟩⟩
  rw [callF_open rfl]
  exact fn_rt (es_seq (es_asg (ev_var (d := .int n) rfl rfl) g1) (es_ret (ev_op (x := .non) (y := .non) (ev_meth (o := .obj d) (ev_var rfl rfl) (hd1.inst (by decide)) (ev_cons (ev_var rfl rfl) ev_nil) rfl (stop_ok hd1 n)) ev_pure rfl)))
end
end LW

namespace LW
open PySem FL

theorem app_set2 {S T : List MO} {a b : MO} : (S ++ a :: T).set S.length b = S ++ b :: T := by simp
theorem rep_flat (p : Nat) : (List.replicate p [D.str ""]).flatten = (List.replicate p []).map stD := by
  induction p with
  | zero => rfl
  | succ n ih =>
    rw [List.replicate_succ, List.replicate_succ, List.flatten_cons, List.map_cons, ih]
    rfl
theorem repO_ok (S : List MO) (p : Nat) (h : p ≤ 40) : RepO S (.lst [.str ""]) (.int p) = some ((List.replicate p []).map stD) := by
  unfold RepO
  dsimp only
  rw [show viewM S (.lst [.str ""]) = some [.str ""] from rfl]
  dsimp only
  rw [if_pos (by refine ⟨by omega, by omega, ?_⟩; simp; omega), Int.toNat_natCast, rep_flat]
def nlas (p : Nat) : List (List Nat) := List.replicate p []
def newM (p w : Nat) : PM := ⟨p, w, nlas p, [], none⟩
/-- a new disk, over a store -/
def dskS (S : List MO) (p w : Nat) : List MO := S ++ [.ins "Disk" diskNs [.int p, .int w, .obj (S.length + 1), .obj (S.length + 2), .obj (S.length + 3), .non], .lst ((nlas p).map stD), .lst ((nlas p).map stD), .lst []]
theorem disk_new (S : List MO) {p w : Nat} (h1 : 3 ≤ p) (h2 : p ≤ 40) (h3 : 20 ≤ w) (h4 : w ≤ 400) : makeF "Disk" fn_Disk___init__ [.int p, .int w] S = some (.ok (.obj S.length), dskS S p w) := by
  refine makeF_ok ?_
  have c1 : ∀ {env : Dv} {T : List MO} {i : Nat} {v a b : Int}, env[i]? = some (some (.int v)) → a ≤ v → v ≤ b → Ev (fNot (fTru (fCall 3 fn_is_from_to (fCons (fVar i) (fCons (pureF (.int a)) (fCons (pureF (.int b)) (pureF []))))))) env T false T := fun hi ha hb =>
    ev_not (b := true) (ev_tru (ev_call (ev_cons (ev_var hi rfl) (ev_cons ev_pure (ev_cons ev_pure ev_nil))) rfl (callF_pure fun T => by rw [is_from_to_eq, decide_eq_true ha, decide_eq_true hb])) rfl)
  have st : ∀ (T : List MO) (ns : List Str) (vs : List D) (f : Str) (v : D), ns.length < 900 → storeF ["Disk"] f (.obj S.length) v (S ++ MO.ins "Disk" ns vs :: T) = some (S ++ MO.ins "Disk" (putN f ns) (putD f v ns vs) :: T) := fun T ns vs f v hl => by
    rw [putO (c := "Disk") (ns := ns) (vs := vs) ["Disk"] f v (by simp) (by simp) hl, app_set2]
  have rp : ∀ (T : List MO), Ev (fOpO RepO (fLst (fCons (pureF (.str "")) (pureF []))) (fVar 1)) ([.obj S.length, .int p, .int w].map some ++ List.replicate 0 none) T (.obj T.length) (T ++ [MO.lst ((nlas p).map stD)]) := fun T =>
    ev_opO (ev_lst (ev_cons ev_pure ev_nil) (by simp)) (ev_var (d := .int p) rfl rfl) (repO_ok T p h2)
  have v0 : ∀ (T : List MO), Ev (fVar 0) ([.obj S.length, .int p, .int w].map some ++ List.replicate 0 none) T (.obj S.length) T := fun T => ev_var rfl rfl
  refine fn_nx (es_seq (es_if_f (c1 rfl (by omega) (by omega)) es_nx) (es_seq (es_if_f (c1 rfl (by omega) (by omega)) es_nx) (es_seq (es_fld (ev_var (d := .int p) rfl rfl) (v0 _) (st [] _ _ _ _ (by decide))) (es_seq (es_fld (ev_var (d := .int w) rfl rfl) (v0 _) (st [] _ _ _ _ (by decide))) (es_seq (es_fld (rp _) (v0 _) (by rw [List.append_assoc]; exact st _ _ _ _ _ (by decide))) (es_seq (es_fld (rp _) (v0 _) (by rw [List.append_assoc]; exact st _ _ _ _ _ (by decide))) (es_seq (es_fld (ev_lstO ev_nil (by simp)) (v0 _) (by rw [List.append_assoc]; exact st _ _ _ _ _ (by decide))) (es_fld (ev_pure (a := D.non)) (v0 _) ?_))))))))
  refine (st _ _ _ _ _ (by decide)).trans ?_
  unfold dskS
  simp
  exact ⟨rfl, rfl⟩
theorem disk_at (S : List MO) (p w : Nat) : DiskAt (dskS S p w) S.length (S.length + 1) (S.length + 2) (S.length + 3) (newM p w) := by
  unfold dskS
  refine ⟨?_, ?_, ?_, ?_⟩
  · rw [List.getElem?_append_right (by omega), Nat.sub_self]
    rfl
  · rw [List.getElem?_append_right (by omega), show S.length + 1 - S.length = 1 by omega]
    rfl
  · rw [List.getElem?_append_right (by omega), show S.length + 2 - S.length = 2 by omega]
    rfl
  · rw [List.getElem?_append_right (by omega), show S.length + 3 - S.length = 3 by omega]
    rfl
/-- a new state -/
def staS (S : List MO) (p w : Nat) : List MO := S ++ [MO.lst ((nlas p).map stD), .lst [], .lst [.int p, .int w, .obj S.length, .obj (S.length + 1), .non]]
theorem state_run (S : List MO) {p w : Nat} (h2 : p ≤ 40) : fn__law_new [.int p, .int w] S = some (.ok (.obj (S.length + 2)), staS S p w) := by
  have e : EvS (retS (fLstO (fCons (fVar 0) (fCons (fVar 1) (fCons (fOpO RepO (fLst (fCons (pureF (.str "")) (pureF []))) (fVar 0)) (fCons (fLstO (pureF [])) (fCons (pureF .non) (pureF [])))))))) ([.int p, .int w].map some ++ List.replicate 0 none) S (.rt (.obj ((S ++ [MO.lst ((nlas p).map stD)]) ++ [MO.lst []]).length)) ([.int p, .int w].map some ++ List.replicate 0 none) (((S ++ [MO.lst ((nlas p).map stD)]) ++ [MO.lst []]) ++ [MO.lst [.int p, .int w, .obj S.length, .obj (S ++ [MO.lst ((nlas p).map stD)]).length, .non]]) :=
    es_ret (ev_lstO (ev_cons (ev_var rfl rfl) (ev_cons (ev_var rfl rfl) (ev_cons (ev_opO (ev_lst (ev_cons ev_pure ev_nil) (by simp)) (ev_var (d := .int p) rfl rfl) (repO_ok S p h2)) (ev_cons (ev_lstO ev_nil (by simp)) (ev_cons ev_pure ev_nil))))) (by simp))
  have e2 := fn_rt (pad := 0) e
  have q : (((S ++ [MO.lst ((nlas p).map stD)]) ++ [MO.lst []]) ++ [MO.lst [.int p, .int w, .obj S.length, .obj (S ++ [MO.lst ((nlas p).map stD)]).length, .non]]) = staS S p w := by simp [staS]
  have q2 : ((S ++ [MO.lst ((nlas p).map stD)]) ++ [MO.lst []]).length = S.length + 2 := by simp
  rw [q, q2] at e2
  exact e2
theorem state_new (S : List MO) {p w : Nat} (h2 : p ≤ 40) : callF fn__law_new [.int p, .int w] S = some (.ok (.obj (S.length + 2)), staS S p w) := by
  rw [callF_obj (state_run [] h2) rfl, state_run S h2]
theorem state_at (S : List MO) (p w : Nat) : StAt (staS S p w) (S.length + 2) S.length (S.length + 1) (newM p w) := by
  unfold staS
  refine ⟨?_, ?_, ?_⟩
  · rw [List.getElem?_append_right (by omega), show S.length + 2 - S.length = 2 by omega]
    rfl
  · rw [List.getElem?_append_right (by omega), Nat.sub_self]
    rfl
  · rw [List.getElem?_append_right (by omega), show S.length + 1 - S.length = 1 by omega]
    rfl
theorem newM_ok {p w : Nat} (h1 : 3 ≤ p) (h2 : p ≤ 40) (h3 : 20 ≤ w) (h4 : w ≤ 400) : (newM p w).Ok := ⟨h1, h2, h3, h4, List.length_replicate, fun c hc => by
  rw [(List.mem_replicate.mp hc).2]
  exact ⟨by simp, fun x hx => by cases hx⟩, fun z hz => (by cases hz), Nat.zero_le _⟩
theorem pair_new (S : List MO) {p w : Nat} (h1 : 3 ≤ p) (h2 : p ≤ 40) (h3 : 20 ≤ w) (h4 : w ≤ 400) : ∃ F, Pair (staS (dskS S p w) p w) S.length (S.length + 6) F (newM p w) ∧ ∀ i ∈ F, S.length ≤ i := by
  have hd := disk_at S p w
  have hs := state_at (dskS S p w) p w
  have hl : (dskS S p w).length = S.length + 4 := by simp [dskS]
  rw [hl] at hs
  have fr : Fr NoM (dskS S p w) (staS (dskS S p w) p w) := Fr.app
  refine ⟨[S.length, S.length + 1, S.length + 2, S.length + 3, S.length + 6, S.length + 4, S.length + 5], ⟨newM_ok h1 h2 h3 h4, _, _, _, _, _, rfl, nd7_of (by omega), ⟨fr.get hd.o id, fr.get hd.l id, fr.get hd.t id, fr.get hd.u id⟩, hs⟩, fun i hi => ?_⟩
  simp only [List.mem_cons, List.not_mem_nil, or_false] at hi
  omega
end LW

namespace LW
open PySem FL

def sel (wr : List (Nat × List Nat)) (ns : List Nat) : List (Nat × List Nat) := ns.map fun i => wr.getD i (0, [])
def nD (ns : List Nat) : List D := ns.map fun n => D.int (n : Nat)
structure Asc (ns : List Nat) (n : Nat) : Prop where
  lt : ∀ i ∈ ns, i < n
  pw : ns.Pairwise (· < ·)
theorem nD_plain (ns : List Nat) : allPlain (nD ns) = true := by
  unfold allPlain nD
  rw [List.all_map]
  exact List.all_eq_true.mpr fun _ _ => rfl
theorem nD_idx {ns : List Nat} {n : Nat} (h : ∀ i ∈ ns, i < n) : allIdx (nD ns) n = true := by
  unfold allIdx nD
  rw [List.all_map]
  refine List.all_eq_true.mpr fun i hi => ?_
  have := h i hi
  show (decide ((0 : Int) ≤ i) && decide ((i : Int) < n)) = true
  rw [decide_eq_true (by omega), decide_eq_true (by omega)]
  rfl
theorem nD_z (ns : List Nat) : zOf (nD ns) = ns.map fun n => ((n : Nat) : Int) := by
  unfold zOf nD
  rw [List.map_map]
  rfl
theorem asc_nat : ∀ {ns : List Nat}, ns.Pairwise (· < ·) → asc (ns.map fun n => ((n : Nat) : Int)) = true
  | [], _ => rfl
  | [_], _ => rfl
  | a :: b :: r, h => by
    have h1 := List.pairwise_cons.mp h
    have ih := asc_nat h1.2
    show (decide ((a : Int) < b) && asc ((b :: r).map fun n => ((n : Nat) : Int))) = true
    rw [ih, decide_eq_true (by have := h1.1 b List.mem_cons_self; omega)]
    rfl
theorem kept_nD {ns : List Nat} {n : Nat} (h : Asc ns n) : kept (nD ns) n = true := kept_asc (nD_idx h.lt) (by rw [nD_z]; exact asc_nat h.pw)
theorem asc_len {ns : List Nat} {n : Nat} (h : Asc ns n) : ns.length ≤ n := by
  have h1 : (ns.map fun n => ((n : Nat) : Int)).Nodup := List.pairwise_map.mpr (h.pw.imp fun z => by omega)
  have h2 : ∀ k ∈ (ns.map fun n => ((n : Nat) : Int)), k ∈ ((List.range n).map fun n => ((n : Nat) : Int)) := fun k hk => by
    obtain ⟨i, hi, rfl⟩ := List.mem_map.mp hk
    exact List.mem_map.mpr ⟨i, List.mem_range.mpr (h.lt i hi), rfl⟩
  have := sub_len h1 h2
  rw [List.length_map, List.length_map, List.length_range] at this
  exact this
theorem cf_kept {S : List MO} {d : D} {xs : List D} (n : Int) (h : LT S d xs) (hp : allPlain xs = true) (hl : xs.length ≤ 4000) : callF fn_are_kept [d, .int n] S = some (.ok (.bl (kept xs n)), S) :=
  callF_reads (are_kept_eq n h hp hl) fun c => are_kept_eq n (h.re (by
    have := (bAnd (show (d.closed && closedL [.int n]) = true from c)).1
    show (d.closed && true) = true
    rw [this]
    rfl) []) hp hl
theorem gfld {cs : List Str} {f : Str} {fo : Fx D} {o d : D} {env : Dv} {S S1 S2 : List MO} (h1 : Ev fo env S o S1) (h2 : storeF cs f o d S1 = some S2) : gFldG cs f fo d env S = some (env, S2) := by
  unfold gFldG
  rw [h1]
  dsimp only
  rw [h2]
section
variable {S : List MO} {d l t u : Nat} {m : PM}
def cutM (m : PM) (ns : List Nat) : PM := ⟨m.p, m.w, beh m.las (sel m.wr ns), [], none⟩
theorem sel_ok {wr : List (Nat × List Nat)} {P : Nat × List Nat → Prop} (h : ∀ x ∈ wr, P x) {ns : List Nat} (hl : ∀ i ∈ ns, i < wr.length) : ∀ x ∈ sel wr ns, P x := fun x hx => by
  unfold sel at hx
  rw [List.mem_map] at hx
  obtain ⟨i, hi, rfl⟩ := hx
  have := hl i hi
  rw [List.getD_eq_getElem?_getD, List.getElem?_eq_getElem this]
  exact h _ (List.getElem_mem this)
theorem cutM_ok (ok : m.Ok) {ns : List Nat} (hl : ∀ i ∈ ns, i < m.wr.length) : (cutM m ns).Ok :=
  ⟨ok.p1, ok.p2, ok.w1, ok.w2, by show (beh _ _).length = _; rw [beh_len]; exact ok.ll, beh_ok ok.lt fun z hz => (sel_ok ok.wk hl z hz).2, fun z hz => (by cases hz), Nat.zero_le _⟩
theorem cut_step (hd : DiskAt S d l t u m) (ok : m.Ok) {ns : List Nat} (hl : ∀ i ∈ ns, i < m.wr.length) {dn : D} (i : Nat) (d0 : D) (env : Dv) (S2 : List MO) (hi : (nD ns)[i]? = some d0)
    (h : ∃ e3 e4 e5, env = [some (.obj d), some dn, some (.obj S.length), e3, e4, e5, none] ∧ S2 = S ++ [MO.lst ((beh m.las (sel m.wr (ns.take i))).map stD)]) :
    ∃ env1 S1 env2 S3, gSet 3 d0 env S2 = some (env1, S1) ∧ EvS (seqS (asgS (fOp getD (fFld ["Disk"] "writes" (fVar 0)) (fVar 3)) (gSeqG 2 (gConss (gSet 4) (gConss (gSet 5) gNils)))) (asgS (fVar 5) (gSubG (fVar 2) (fVar 4)))) env1 S1 .nx env2 S3 ∧
      ∃ e3 e4 e5, env2 = [some (.obj d), some dn, some (.obj S.length), e3, e4, e5, none] ∧ S3 = S ++ [MO.lst ((beh m.las (sel m.wr (ns.take (i + 1)))).map stD)] := by
  obtain ⟨e3, e4, e5, rfl, rfl⟩ := h
  unfold nD at hi
  rw [List.getElem?_map] at hi
  cases q : ns[i]? with
  | none => rw [q] at hi; cases hi
  | some j =>
    rw [q] at hi
    cases hi
    have hj : j < m.wr.length := hl j (List.mem_of_getElem? q)
    obtain ⟨⟨k, c⟩, hz⟩ : ∃ z, m.wr[j]? = some z := ⟨_, List.getElem?_eq_getElem hj⟩
    have hk : k < m.las.length := by rw [ok.ll]; exact (ok.wk (k, c) (List.mem_of_getElem? hz)).1
    have es : sel m.wr (ns.take (i + 1)) = sel m.wr (ns.take i) ++ [(k, c)] := by
      unfold sel
      rw [List.take_add_one, q, List.map_append]
      show _ ++ [m.wr.getD j (0, [])] = _
      rw [List.getD_eq_getElem?_getD, hz]
      rfl
    have fr : Fr NoM S (S ++ [MO.lst ((beh m.las (sel m.wr (ns.take i))).map stD)]) := Fr.app
    have hd2 : DiskAt (S ++ [MO.lst ((beh m.las (sel m.wr (ns.take i))).map stD)]) d l t u m := ⟨fr.get hd.o id, fr.get hd.l id, fr.get hd.t id, fr.get hd.u id⟩
    have g1 : getD (S ++ [MO.lst ((beh m.las (sel m.wr (ns.take i))).map stD)]) (.obj u) (.int j) = some (wD (k, c)) := by
      rw [getO hd2.u, atI_nat, List.getElem?_map, hz]
      rfl
    refine ⟨[some (.obj d), some dn, some (.obj S.length), some (.int j), e4, e5, none], _, [some (.obj d), some dn, some (.obj S.length), some (.int j), some (.int k), some (stD c), none], S ++ [MO.lst ((beh m.las (sel m.wr (ns.take (i + 1)))).map stD)], rfl, ?_, _, _, _, rfl, rfl⟩
    refine es_seq (env1 := [some (.obj d), some dn, some (.obj S.length), some (.int j), some (.int k), some (stD c), none]) (es_asg (d := wD (k, c)) (ev_op (hd2.fld rfl rfl) (ev_var rfl rfl) g1) (conss2 rfl rfl)) (es_asg (d := stD c) (ev_var rfl rfl) ?_)
    have hx : L2.ixN ((beh m.las (sel m.wr (ns.take i))).map stD).length (k : Int) = some k := by
      unfold L2.ixN
      rw [List.length_map, beh_len, if_pos (by omega), if_pos (by omega), Int.toNat_natCast]
    have e := subO (fo := fVar 2) (fi := fVar 4) (env := [some (.obj d), some dn, some (.obj S.length), some (.int j), some (.int k), some (stD c), none]) (S := S ++ [MO.lst ((beh m.las (sel m.wr (ns.take i))).map stD)]) (d := stD c) (ev_var rfl rfl) (ev_var rfl rfl) app_get hx
    rw [e, app_set, es, beh_app, List.map_set]
/-- how the indices are passed -/
def Passed (S : List MO) (dn : D) (ns : List Nat) : Prop := dn = .tup (nD ns) ∨ ∃ n, dn = .obj n ∧ S[n]? = some (MO.lst (nD ns))
theorem Passed.lt {dn : D} {ns : List Nat} (h : Passed S dn ns) : LT S dn (nD ns) := by
  rcases h with rfl | ⟨n, rfl, h⟩
  · exact LT.tup
  · exact LT.obj h
theorem cut_loop (hd : DiskAt S d l t u m) (ok : m.Ok) {ns : List Nat} (hl : ∀ i ∈ ns, i < m.wr.length) {dn : D} (hp : Passed S dn ns) :
    ∃ e3 e4 e5, EvS (forA (fVar 1) (gSet 3) (seqS (asgS (fOp getD (fFld ["Disk"] "writes" (fVar 0)) (fVar 3)) (gSeqG 2 (gConss (gSet 4) (gConss (gSet 5) gNils)))) (asgS (fVar 5) (gSubG (fVar 2) (fVar 4))))) [some (.obj d), some dn, some (.obj S.length), none, none, none, none] (S ++ [MO.lst (m.las.map stD)]) .nx [some (.obj d), some dn, some (.obj S.length), e3, e4, e5, none] (S ++ [MO.lst ((beh m.las (sel m.wr ns)).map stD)]) := by
  have et : ns.take (nD ns).length = ns := by unfold nD; rw [List.length_map, List.take_length]
  rcases hp with rfl | ⟨n, rfl, h⟩
  · obtain ⟨env', S', e, e3, e4, e5, rfl, rfl⟩ := loop_all (env := [some (.obj d), some (.tup (nD ns)), some (.obj S.length), none, none, none, none]) (S := S ++ [MO.lst (m.las.map stD)]) (xs := nD ns)
      (fun i env S2 => ∃ e3 e4 e5, env = [some (.obj d), some (.tup (nD ns)), some (.obj S.length), e3, e4, e5, none] ∧ S2 = S ++ [MO.lst ((beh m.las (sel m.wr (ns.take i))).map stD)]) ⟨none, none, none, rfl, rfl⟩ (cut_step hd ok hl)
    rw [et] at e
    exact ⟨e3, e4, e5, es_forA_t (ev_var rfl rfl) e⟩
  · have hv : ∀ {T : MO}, viewL (S ++ [T]) (.obj n) = some (nD ns) := fun {T} => by
      unfold viewL
      dsimp only
      rw [List.getElem?_append_left (get_lt h), h]
    obtain ⟨env', S', e, e3, e4, e5, rfl, rfl⟩ := live_all (env := [some (.obj d), some (.obj n), some (.obj S.length), none, none, none, none]) (S := S ++ [MO.lst (m.las.map stD)]) (d0 := .obj n) (xs := nD ns)
      (fun i env S2 => ∃ e3 e4 e5, env = [some (.obj d), some (.obj n), some (.obj S.length), e3, e4, e5, none] ∧ S2 = S ++ [MO.lst ((beh m.las (sel m.wr (ns.take i))).map stD)]) ⟨none, none, none, rfl, rfl⟩ (fun i env S2 ⟨_, _, _, _, e⟩ => by rw [e]; exact hv) (cut_step hd ok hl)
    rw [et] at e
    exact ⟨e3, e4, e5, es_forA_o (n := n) (ev_var rfl rfl) hv e⟩
theorem cut_ok (hd : DiskAt S d l t u m) (ok : m.Ok) {ns : List Nat} (as : Asc ns m.wr.length) {dn : D} (hp : Passed S dn ns) :
    ∃ S', callF fn_Disk_cut [.obj d, dn] S = some (.ok (.obj (S.length + 1)), S') ∧ Fr NoM S S' ∧ S'.length = S.length + 6 ∧ DiskAt S' (S.length + 1) S.length (S.length + 5) (S.length + 4) (cutM m ns) := by
  have hk := cf_kept m.wr.length hp.lt (nD_plain ns) (by unfold nD; rw [List.length_map]; have := asc_len as; have := ok.wl; omega)
  rw [kept_nD as] at hk
  obtain ⟨e3, e4, e5, el⟩ := cut_loop hd ok as.lt hp
  obtain ⟨S1, hS1⟩ : ∃ S1, S ++ [MO.lst ((beh m.las (sel m.wr ns)).map stD)] = S1 := ⟨_, rfl⟩
  rw [hS1] at el
  have len1 : S1.length = S.length + 1 := by rw [← hS1]; simp
  have fr1 : Fr NoM S S1 := hS1 ▸ Fr.app
  have h1 : S1[S.length]? = some (MO.lst ((beh m.las (sel m.wr ns)).map stD)) := hS1 ▸ app_get
  have hd1 : DiskAt S1 d l t u m := ⟨fr1.get hd.o id, fr1.get hd.l id, fr1.get hd.t id, fr1.get hd.u id⟩
  obtain ⟨T, hT⟩ : ∃ T, dskS S1 m.p m.w = T := ⟨_, rfl⟩
  have mk := disk_new S1 ok.p1 ok.p2 ok.w1 ok.w2
  have at1 := disk_at S1 m.p m.w
  rw [hT] at mk at1
  have frT : Fr NoM S1 T := hT ▸ Fr.app
  have lenT : T.length = S.length + 5 := by rw [← hT]; simp [dskS, len1]
  obtain ⟨T1, hT1⟩ : ∃ T1, T ++ [MO.lst ((beh m.las (sel m.wr ns)).map stD)] = T1 := ⟨_, rfl⟩
  have frT1 : Fr NoM T T1 := hT1 ▸ Fr.app
  have hx := frT.get h1 id
  have y1 : Ev (fTup (fCons (fVar 2) (fCons (fListO (fVar 2)) (pureF [])))) [some (.obj d), some dn, some (.obj S.length), e3, e4, e5, some (.obj S1.length)] T (.tup [.obj S.length, .obj T.length]) T1 :=
    ev_tup (ev_cons (ev_var rfl rfl) (ev_cons (by rw [← hT1]; exact ev_listO (x := .obj S.length) (ev_var rfl rfl) (LT.obj hx).v) ev_nil)) (by simp)
  have o1 := frT1.get at1.o id
  have p1 : storeF ["Disk"] "lasting" (.obj S1.length) (.obj S.length) T1 = some (T1.set S1.length (.ins "Disk" diskNs [.int m.p, .int m.w, .obj S.length, .obj (S1.length + 2), .obj (S1.length + 3), .non])) := putO ["Disk"] "lasting" (.obj S.length) o1 (by simp) (by decide)
  obtain ⟨T2, hT2⟩ : ∃ T2, T1.set S1.length (MO.ins "Disk" diskNs [.int m.p, .int m.w, .obj S.length, .obj (S1.length + 2), .obj (S1.length + 3), .non]) = T2 := ⟨_, rfl⟩
  rw [hT2] at p1
  have fr2 : Fr (· = S1.length) T1 T2 := hT2 ▸ Fr.set
  have o2 : T2[S1.length]? = some (MO.ins "Disk" diskNs [.int m.p, .int m.w, .obj S.length, .obj (S1.length + 2), .obj (S1.length + 3), .non]) := hT2 ▸ set_get o1
  have p2 : storeF ["Disk"] "texts" (.obj S1.length) (.obj T.length) T2 = some (T2.set S1.length (.ins "Disk" diskNs [.int m.p, .int m.w, .obj S.length, .obj T.length, .obj (S1.length + 3), .non])) := putO ["Disk"] "texts" (.obj T.length) o2 (by simp) (by decide)
  obtain ⟨T3, hT3⟩ : ∃ T3, T2.set S1.length (MO.ins "Disk" diskNs [.int m.p, .int m.w, .obj S.length, .obj T.length, .obj (S1.length + 3), .non]) = T3 := ⟨_, rfl⟩
  rw [hT3] at p2
  have fr3 : Fr (· = S1.length) T2 T3 := hT3 ▸ Fr.set
  have o3 : T3[S1.length]? = some (MO.ins "Disk" diskNs [.int m.p, .int m.w, .obj S.length, .obj T.length, .obj (S1.length + 3), .non]) := hT3 ▸ set_get o2
  have fr13 : Fr (· = S1.length) T T3 := (fr_no frT1).trans (fr2.trans fr3)
  refine ⟨T3, ?_, ?_, ?_, ?_⟩
  · rw [callF_open (by show (false && _) = false; rfl), ← len1]
    have c0 : Ev (fNot (fTru (fCall 2 fn_are_kept (fCons (fVar 1) (fCons (fCB lenD (fCons (fFld ["Disk"] "writes" (fVar 0)) (pureF []))) (pureF [])))))) ([.obj d, dn].map some ++ List.replicate 5 none) S false S :=
      ev_not (b := true) (ev_tru (d := .bl true) (ev_call (ev_cons (ev_var rfl hp.lt.e) (ev_cons (ev_cb (ev_cons (hd.fld rfl rfl) ev_nil) (lenD_of (LT.obj hd.u).v rfl)) ev_nil)) rfl (by rw [List.length_map]; exact hk)) rfl)
    exact fn_rt (es_seq (es_if_f c0 es_nx) (es_seq (es_set (ev_listO (x := .obj l) (hd.fld rfl rfl) (LT.obj hd.l).v)) (es_seq el (es_seq (es_set (ev_make (ev_cons (hd1.fld rfl rfl) (ev_cons (hd1.fld rfl rfl) ev_nil)) rfl mk)) (es_seq (es_asg y1 (conss2 (gfld (ev_var rfl rfl) p1) (gfld (ev_var rfl rfl) p2))) (es_ret (ev_var rfl rfl)))))))
  · exact (fr1.trans (frT.trans frT1)).step (fr2.trans fr3) fun i hi z => absurd z (by omega)
  · rw [← hT3, List.length_set, ← hT2, List.length_set, ← hT1]
    simp [lenT]
  · rw [show S.length + 1 = S1.length from len1.symm, show S.length + 5 = T.length from lenT.symm, show S.length + 4 = S1.length + 3 by omega]
    exact ⟨o3, fr13.get hx (by omega), (fr2.trans fr3).get (hT1 ▸ app_get) (by omega), fr13.get at1.u (by omega)⟩
theorem cut_bad (hd : DiskAt S d l t u m) {dn : D} (he : isExc dn = false) (hk : callF fn_are_kept [dn, .int m.wr.length] S = some (.ok (.bl false), S)) : callF fn_Disk_cut [.obj d, dn] S = some (.ex "InvalidDone" (some ("given", dn)), S) := by
  rw [callF_open (by show (false && _) = false; rfl)]
  have c0 : Ev (fNot (fTru (fCall 2 fn_are_kept (fCons (fVar 1) (fCons (fCB lenD (fCons (fFld ["Disk"] "writes" (fVar 0)) (pureF []))) (pureF [])))))) ([.obj d, dn].map some ++ List.replicate 5 none) S true S :=
    ev_not (b := false) (ev_tru (d := .bl false) (ev_call (ev_cons (ev_var rfl he) (ev_cons (ev_cb (ev_cons (hd.fld rfl rfl) ev_nil) (lenD_of (LT.obj hd.u).v rfl)) ev_nil)) rfl (by rw [List.length_map]; exact hk)) rfl)
  exact fn_ex (es_seq_ex (es_if_t c0 (es_raise (ev_var rfl he))))
end
end LW

namespace LW
open PySem FL

theorem evx_1 {α β : Type} {f : Fx α} {k : α → Fx β} {env : Dv} {S S1 : List MO} {c : Str} {p : Option (Str × D)} (h : Evx f env S c p S1) : Evx (bindF f k) env S c p S1 := by
  unfold Evx bindF at *
  rw [h]
theorem evx_2 {α β : Type} {f : Fx α} {k : α → Fx β} {a : α} {env : Dv} {S S1 S2 : List MO} {c : Str} {p : Option (Str × D)} (h : Ev f env S a S1) (h2 : Evx (k a) env S1 c p S2) : Evx (bindF f k) env S c p S2 := by
  unfold Ev at h
  unfold Evx bindF at *
  rw [h]
  exact h2
abbrev cutX : Fx D := fIf (fTru (fVar 2)) (fMeth 2 "Disk" "cut" fn_Disk_cut (fVar 0) (fKw ["done"] [0] (fCons (fVar 1) (pureF [])))) (fMeth 2 "Disk" "cut" fn_Disk_cut (fVar 0) (fCons (fVar 1) (pureF [])))
section
variable {S S' : List MO} {d : Nat} {dn : D} {b : Bool}
theorem cutX_ok {r : D} (hi : isInst "Disk" "cut" S (.obj d) = some (.obj d)) (he : isExc dn = false) (h : callF fn_Disk_cut [.obj d, dn] S = some (.ok r, S')) : Ev cutX [some (.obj d), some dn, some (.bl b), none] S r S' := by
  cases b with
  | true => exact ev_if_t (ev_tru (d := .bl true) (ev_var rfl rfl) rfl) (ev_meth (o := .obj d) (ds := [dn]) (ev_var rfl rfl) hi (ev_kw (ds := [dn]) (ev_cons (ev_var rfl he) ev_nil) rfl) rfl h)
  | false => exact ev_if_f (ev_tru (d := .bl false) (ev_var rfl rfl) rfl) (ev_meth (o := .obj d) (ev_var rfl rfl) hi (ev_cons (ev_var rfl he) ev_nil) rfl h)
theorem cutX_ex {c : Str} {p : Option (Str × D)} (hi : isInst "Disk" "cut" S (.obj d) = some (.obj d)) (he : isExc dn = false) (h : callF fn_Disk_cut [.obj d, dn] S = some (.ex c p, S')) : Evx cutX [some (.obj d), some dn, some (.bl b), none] S c p S' := by
  cases b with
  | true => exact evx_2 (ev_tru (d := .bl true) (ev_var rfl rfl) rfl) (ev_methx (o := .obj d) (ds := [dn]) (ev_var rfl rfl) hi (ev_kw (ds := [dn]) (ev_cons (ev_var rfl he) ev_nil) rfl) rfl h)
  | false => exact evx_2 (ev_tru (d := .bl false) (ev_var rfl rfl) rfl) (ev_methx (o := .obj d) (ev_var rfl rfl) hi (ev_cons (ev_var rfl he) ev_nil) rfl h)
theorem law_cut_ok {r : D} (hi : isInst "Disk" "cut" S (.obj d) = some (.obj d)) (he : isExc dn = false) (h : callF fn_Disk_cut [.obj d, dn] S = some (.ok r, S')) : callF fn__law_cut [.obj d, dn, .bl b] S = some (.ok (.lst [.str "told", r]), S') := by
  rw [callF_open (by show (false && _) = false; rfl)]
  exact fn_rt (es_try_ok (es_ret (ev_lst (ev_cons ev_pure (ev_cons (cutX_ok hi he h) ev_nil)) (by simp))))
theorem xf_ev {env : Dv} (h : env[3]? = some (some .exc)) : Ev (fXf 3 ["InvalidDone"] "given" "InvalidDone" (some ("given", dn))) env S dn S := by
  unfold Ev fXf
  rw [h]
  dsimp only
  rw [if_pos ⟨rfl, List.mem_cons_self⟩]
theorem told_x {c : Str} {p : Option (Str × D)} {env : Dv} (h : Evx cutX env S c p S') : EvS (retS (fLst (fCons (pureF (.str "told")) (fCons cutX (pureF []))))) env S (.ex c p) env S' :=
  es_retx (evx_1 (evx_2 ev_pure (evx_1 (evx_1 h))))
theorem law_cut_bad (hi : isInst "Disk" "cut" S (.obj d) = some (.obj d)) (he : isExc dn = false) (h : callF fn_Disk_cut [.obj d, dn] S = some (.ex "InvalidDone" (some ("given", dn)), S)) (hl : isiD ["Disk"] [.b .list] S dn = some (.bl false)) {z : Str} (hr : reprA S [dn] = some (.str z)) :
    callF fn__law_cut [.obj d, dn, .bl b] S = some (.ok (.lst [.str "done", .bl true]), S) := by
  rw [callF_open (by show (false && _) = false; rfl)]
  have e3 : Ev (fOp eqA (fCB reprA (fCons (fXf 3 ["InvalidDone"] "given" "InvalidDone" (some ("given", dn))) (pureF []))) (fCB reprA (fCons (fVar 1) (pureF [])))) [some (.obj d), some dn, some (.bl b), some .exc] S (.bl true) S :=
    ev_op (ev_cb (ev_cons (xf_ev rfl) ev_nil) hr) (ev_cb (ev_cons (ev_var rfl he) ev_nil) hr) (eq_same z)
  have ec : inD ([.obj d, dn, .bl b].map some ++ List.replicate 1 none) (some 3) = [some (.obj d), some dn, some (.bl b), some .exc] := by cases dn <;> first | rfl | (cases he; done)
  refine fn_rt (es_try_ex (told_x (cutX_ex hi he h)) (handle_rt (env1 := [some (.obj d), some dn, some (.bl b), some .exc]) rfl ?_))
  show EvS _ (inD ([.obj d, dn, .bl b].map some ++ List.replicate 1 none) (some 3)) _ _ _ _
  rw [ec]
  exact es_seq (es_if_f (ev_tru (d := .bl false) (ev_isi (ev_var rfl he) hl) rfl) es_nx) (es_ret (ev_lst (ev_cons ev_pure (ev_cons (ev_andV_t (show Ev (fIsE 3 [("InvalidDone", true)] "InvalidDone") [some (.obj d), some dn, some (.bl b), some .exc] S (.bl true) S from rfl) e3) ev_nil)) (by simp)))
theorem law_cut_badO {n : Nat} {xs : List D} (hi : isInst "Disk" "cut" S (.obj d) = some (.obj d)) (h : callF fn_Disk_cut [.obj d, .obj n] S = some (.ex "InvalidDone" (some ("given", .obj n)), S)) (hx : S[n]? = some (MO.lst xs)) (hz : xs.length < 100000) {z : Str} (hr : reprA (S.set n (.lst (xs ++ [.int 0]))) [.obj n] = some (.str z)) :
    callF fn__law_cut [.obj d, .obj n, .bl b] S = some (.ok (.lst [.str "done", .bl true]), S.set n (.lst (xs ++ [.int 0]))) := by
  rw [callF_open (by show (false && _) = false; rfl)]
  have hl : isiD ["Disk"] [.b .list] S (.obj n) = some (.bl true) := by
    unfold isiD tyD
    dsimp only
    rw [hx]
    rfl
  have hv : viewL S (.obj n) = some xs := by
    unfold viewL
    dsimp only
    rw [hx]
  have e3 : Ev (fOp eqA (fCB reprA (fCons (fXf 3 ["InvalidDone"] "given" "InvalidDone" (some ("given", .obj n))) (pureF []))) (fCB reprA (fCons (fVar 1) (pureF [])))) [some (.obj d), some (.obj n), some (.bl b), some .exc] (S.set n (.lst (xs ++ [.int 0]))) (.bl true) (S.set n (.lst (xs ++ [.int 0]))) :=
    ev_op (ev_cb (ev_cons (xf_ev rfl) ev_nil) hr) (ev_cb (ev_cons (ev_var rfl rfl) ev_nil) hr) (eq_same z)
  exact fn_rt (es_try_ex (told_x (cutX_ex hi rfl h)) (handle_rt rfl (es_seq (es_if_t (ev_tru (d := .bl true) (ev_isi (ev_var rfl rfl) hl) rfl) (es_drop (ev_mt (ev_var rfl rfl) hv (ev_cons ev_pure ev_nil) hx (if_pos hz)))) (es_ret (ev_lst (ev_cons ev_pure (ev_cons (ev_andV_t (show Ev (fIsE 3 [("InvalidDone", true)] "InvalidDone") [some (.obj d), some (.obj n), some (.bl b), some .exc] (S.set n (.lst (xs ++ [.int 0]))) (.bl true) (S.set n (.lst (xs ++ [.int 0]))) from rfl) e3) ev_nil)) (by simp))))))
end
section
variable {S : List MO} {s x y : Nat} {m : PM}
theorem cut_of_ok (hs : StAt S s x y m) (ok : m.Ok) {ns : List Nat} (hl : ∀ i ∈ ns, i < m.wr.length) (hn : ns.length ≤ 4000) :
    ∃ S', callF fn__law_cut_of [.obj s, .lst (nD ns)] S = some (.ok (.obj (S.length + 2)), S') ∧ Fr NoM S S' ∧ S'.length = S.length + 3 ∧ StAt S' (S.length + 2) S.length (S.length + 1) (cutM m ns) := by
  have hw : ∀ z ∈ sel m.wr ns, z.1 < m.las.length := fun z hz => by rw [ok.ll]; exact (sel_ok ok.wk hl z hz).1
  have bo := behL hs.x hw
  obtain ⟨S1, hS1⟩ : ∃ S1, S ++ [MO.lst ((beh m.las (sel m.wr ns)).map stD)] = S1 := ⟨_, rfl⟩
  rw [hS1] at bo
  obtain ⟨S2, hS2⟩ : ∃ S2, S1 ++ [MO.lst []] = S2 := ⟨_, rfl⟩
  have len1 : S1.length = S.length + 1 := by rw [← hS1]; simp
  have len2 : S2.length = S.length + 2 := by rw [← hS2]; simp [len1]
  have fr1 : Fr NoM S S1 := hS1 ▸ Fr.app
  have fr2 : Fr NoM S1 S2 := hS2 ▸ Fr.app
  have h1 : S1[S.length]? = some (MO.lst ((beh m.las (sel m.wr ns)).map stD)) := hS1 ▸ app_get
  have h2 : S2[S1.length]? = some (MO.lst []) := hS2 ▸ app_get
  have fr3 : Fr NoM S2 (S2 ++ [MO.lst [.int m.p, .int m.w, .obj S.length, .obj S1.length, .non]]) := Fr.app
  have eL : Ev (lcA (fVar 1) [2] (gSet 2) (pureF true) (fOp getD (fOp getD (fVar 0) (pureF (.int 3))) (fVar 2))) ([.obj s, .lst (nD ns)].map some ++ List.replicate 1 none) S (.lst ((sel m.wr ns).map wD)) S := by
    have e := ev_lcA (env := [.obj s, .lst (nD ns)].map some ++ List.replicate 1 none) (S := S) (S1 := S) (src := fVar 1) (vs := [2]) (gx := gSet 2) (te := fOp getD (fOp getD (fVar 0) (pureF (.int 3))) (fVar 2)) (d := .lst (nD ns)) (xs := nD ns)
      (f := fun z => match z with
        | .int i => wD (m.wr.getD i.toNat (0, []))
        | _ => .non) (ev_var rfl rfl) rfl (by unfold nD; rw [List.length_map]; omega) (fun z hz => by
        unfold nD at hz
        rw [List.mem_map] at hz
        obtain ⟨i, hi, rfl⟩ := hz
        have hj := hl i hi
        refine ⟨_, rfl, ?_⟩
        refine ev_op (ev_op (x := .obj s) (y := .int 3) (ev_var rfl rfl) ev_pure (by rw [getO hs.o]; rfl)) (ev_var (d := .int i) rfl rfl) ?_
        rw [getO hs.y, atI_nat, List.getElem?_map, List.getElem?_eq_getElem hj]
        show some (wD m.wr[i]) = some (wD (m.wr.getD (i : Int).toNat (0, [])))
        rw [Int.toNat_natCast, List.getD_eq_getElem?_getD, List.getElem?_eq_getElem hj]
        rfl)
    have q : (nD ns).map (fun z => match z with
        | .int i => wD (m.wr.getD i.toNat (0, []))
        | _ => .non) = (sel m.wr ns).map wD := by
      unfold nD sel
      rw [List.map_map, List.map_map]
      exact List.map_congr_left fun i _ => rfl
    rw [q] at e
    exact e
  refine ⟨S2 ++ [MO.lst [.int m.p, .int m.w, .obj S.length, .obj S1.length, .non]], ?_, fr1.trans (fr2.trans fr3), by simp [len2], ?_⟩
  · rw [callF_open rfl, ← len2]
    exact fn_rt (es_ret (ev_lstO (ev_cons (ev_op (x := .obj s) (y := .int 0) (ev_var rfl rfl) ev_pure (by rw [getO hs.o]; rfl)) (ev_cons (ev_op (x := .obj s) (y := .int 1) (ev_var rfl rfl) ev_pure (by rw [getO hs.o]; rfl)) (ev_cons (ev_call (ev_cons (ev_op (x := .obj s) (y := .int 2) (ev_var rfl rfl) ev_pure (by rw [getO hs.o]; rfl)) (ev_cons eL ev_nil)) rfl bo) (ev_cons (by rw [← hS2]; exact ev_lstO ev_nil (by simp)) (ev_cons ev_pure ev_nil))))) (by simp)))
  · rw [← len2, ← len1]
    exact ⟨app_get, fr3.get (fr2.get h1 id) id, fr3.get h2 id⟩
end
end LW

namespace LW
open PySem FL

def badObjs (n : Nat) : List MO := [.lst [.int n], .lst [.int (-1)], .lst [.int n], .lst (rgD 0 n ++ [.int n]), .lst (rgD 0 n ++ cutA (rgD 0 n) (some (-1)) none ++ [.int (n - 1)]), .lst ([.int 0] ++ rgD 0 n), .lst ((rgD 0 n).reverse ++ [.int 0]), .lst [.non], .lst [.str "0"], .lst (rgD 0 n ++ [.bl true]), .lst ([.bl false] ++ cutA (rgD 0 n) (some 1) none), .lst [.lst (rgD 0 n)], .lst [.int (-1)], .lst ([.int (-1)] ++ rgD 0 n)]
def badL (s n : Nat) : List D := [.obj s, .obj (s + 1), .obj (s + 3), .obj (s + 4), .obj (s + 5), .obj (s + 6), .obj (s + 7), .obj (s + 8), .obj (s + 9), .obj (s + 10), .non, .int 0, .str "", .dK [] [], .dK [.inr "0"] [.int 0], .obj (s + 11), .tup [.lst (rgD 0 n)], .obj (s + 13)]
theorem rgD_len (n : Nat) : (rgD 0 (n : Int)).length = n := by
  unfold rgD
  rw [List.length_map, List.length_range]
  omega
theorem catLL {S : List MO} {a b : List D} (h : a.length + b.length ≤ 100000) : CatO S (.lst a) (.lst b) = some (a ++ b) := if_pos h
theorem viewM_o {S : List MO} {n : Nat} {b : List D} (hb : S[n]? = some (MO.lst b)) : viewM S (.obj n) = some b := by
  unfold viewM
  dsimp only
  rw [hb]
theorem catLO {S : List MO} {a b : List D} {n : Nat} (hb : S[n]? = some (MO.lst b)) (h : a.length + b.length ≤ 100000) : CatO S (.lst a) (.obj n) = some (a ++ b) := by
  unfold CatO
  rw [viewM_o hb]
  exact if_pos h
theorem catOL {S : List MO} {a b : List D} {n : Nat} (hb : S[n]? = some (MO.lst b)) (h : b.length + a.length ≤ 100000) : CatO S (.obj n) (.lst a) = some (b ++ a) := by
  unfold CatO
  rw [viewM_o hb]
  exact if_pos h
theorem addLL {S : List MO} {a b : List D} (h : a.length + b.length ≤ 100000) : addD S (.lst a) (.lst b) = some (.lst (a ++ b)) := if_pos h
theorem getW {S : List MO} {L : List D} {way : Nat} (h : way < L.length) : getD S (.lst L) (.int way) = some (L.getD way .non) := by
  rw [getD_of (LT.lst (S := S)).v rfl, atI_nat, List.getElem?_eq_getElem h, List.getD_eq_getElem?_getD, List.getElem?_eq_getElem h]
  rfl
theorem cutA_len {α : Type} (xs : List α) (lo hi : Option Int) : (cutA xs lo hi).length ≤ xs.length := by
  unfold cutA
  rw [List.length_take, List.length_drop]
  omega
theorem bad_run (S : List MO) {way n : Nat} (hw : way < 18) (hn : n ≤ 1000) : fn__law_bad_done [.int way, .int n] S = some (.ok ((badL S.length n).getD way .non), S ++ badObjs n) := by
  have lr := rgD_len n
  have l1 := cutA_len (rgD 0 (n : Int)) (some (-1)) none
  have l2 := cutA_len (rgD 0 (n : Int)) (some 1) none
  obtain ⟨d, T, e, h1, h2⟩ : ∃ d T, fn__law_bad_done [.int way, .int n] S = some (.ok d, T) ∧ d = (badL S.length n).getD way .non ∧ T = S ++ badObjs n := by
    refine ⟨_, _, fn_rt (es_seq (es_set (ev_lstRg (n := n) (ev_var rfl rfl) (by omega))) (es_seq (es_set (ev_lst (ev_cons (ev_lstO (ev_cons (ev_var (d := .int n) rfl rfl) ev_nil) (by simp)) (ev_cons (ev_lstO (ev_cons (ev_un (d := .int (-1)) ev_pure rfl) ev_nil) (by simp))
      (ev_cons (ev_opO (ev_var (d := .lst (rgD 0 n)) rfl rfl) (ev_lstO (ev_cons (ev_var (d := .int n) rfl rfl) ev_nil) (by simp)) (catLO app_get (by simp; omega)))
      (ev_cons (ev_opO (ev_op (x := .lst (rgD 0 n)) (y := .lst (cutA (rgD 0 n) (some (-1)) none)) (ev_var rfl rfl) (ev_slice (x := .lst (rgD 0 n)) (ev_var rfl rfl) (ev_int (ev_un (d := .int (-1)) ev_pure rfl)) ev_pure rfl) (addLL (by omega))) (ev_lst (ev_cons (ev_op (x := .int n) (y := .int 1) (d := .int (n - 1)) (ev_var rfl rfl) ev_pure rfl) ev_nil) (by simp)) (catLL (by simp; omega)))
      (ev_cons (ev_opO (ev_lst (ev_cons ev_pure ev_nil) (by simp)) (ev_var (d := .lst (rgD 0 n)) rfl rfl) (catLL (by simp; omega)))
      (ev_cons (ev_opO (x := .lst (rgD 0 n).reverse) (ev_un (x := .lst (rgD 0 n)) (ev_var rfl rfl) rfl) (ev_lst (ev_cons ev_pure ev_nil) (by simp)) (catLL (by simp; omega)))
      (ev_cons (ev_lstO (ev_cons ev_pure ev_nil) (by simp)) (ev_cons (ev_lstO (ev_cons ev_pure ev_nil) (by simp)) ev_nil)))))))) (by simp)))
      (es_ret (ev_op (y := .int way) (ev_op (ev_var rfl rfl) (ev_lst
        (ev_cons (ev_opO (ev_var (d := .lst (rgD 0 n)) rfl rfl) (ev_lst (ev_cons ev_pure ev_nil) (by simp)) (catLL (by simp; omega)))
        (ev_cons (ev_opO (x := .lst [.bl false]) (y := .lst (cutA (rgD 0 n) (some 1) none)) (ev_lst (ev_cons ev_pure ev_nil) (by simp)) (ev_slice (x := .lst (rgD 0 n)) (ev_var rfl rfl) (ev_int (i := 1) ev_pure) ev_pure rfl) (catLL (by simp; omega)))
        (ev_cons ev_pure (ev_cons ev_pure (ev_cons ev_pure (ev_cons ev_pure (ev_cons (d := .dK [.inr "0"] [.int 0]) rfl
        (ev_cons (ev_lstO (ev_cons (ev_var (d := .lst (rgD 0 n)) rfl rfl) ev_nil) (by simp))
        (ev_cons (ev_tup (ev_cons (ev_var (d := .lst (rgD 0 n)) rfl rfl) ev_nil) (by simp))
        (ev_cons (ev_opO (ev_lstO (ev_cons (ev_un (d := .int (-1)) ev_pure rfl) ev_nil) (by simp)) (ev_var (d := .lst (rgD 0 n)) rfl rfl) (catOL app_get (by simp; omega))) ev_nil)))))))))) (by simp)) (addLL (by simp))) (ev_var rfl rfl) (getW (by simp; omega)))))), ?_, ?_⟩
    · congr 1
      simp [badL]
    · simp [badObjs]
  rw [e, h1, h2]
end LW

namespace LW
open PySem FL

theorem not_idx {xs : List D} {n : Int} {d : D} (h : d ∈ xs) (hd : idx d n = false) : kept xs n = false := by
  unfold kept
  have : allIdx xs n = false := by
    unfold allIdx
    rw [List.all_eq_false]
    exact ⟨d, h, by rw [hd]; simp⟩
  rw [this]
  rfl
theorem not_dup {xs : List D} {n : Int} (h : ¬ (zOf xs).Nodup) : kept xs n = false := by
  have := not_unl h
  unfold unl at this
  unfold kept
  rw [this, Bool.and_false]
  rfl
def flatD : D → Bool
  | .non => true
  | .bl _ => true
  | .int i => decide (i.natAbs < 1000000000000)
  | .str x => decide (x.length ≤ 400) && x.cps.toList.all fun c => decide (c < 16 ^ 8)
  | _ => false
def pyD : D → PyData
  | .bl b => .bool b
  | .int i => .int i
  | .str x => .str x
  | _ => .none
theorem flat_py : ∀ {xs : List D}, xs.all flatD = true → toPy0L xs = some (xs.map pyD) ∧ (xs.map pyD).all smallP = true
  | [], _ => ⟨rfl, rfl⟩
  | d :: xs, h => by
    rw [List.all_cons, Bool.and_eq_true] at h
    obtain ⟨i1, i2⟩ := flat_py h.2
    have key : toPy0 d = some (pyD d) ∧ smallP (pyD d) = true := by
      cases d <;> first | exact ⟨rfl, rfl⟩ | exact ⟨rfl, h.1⟩ | (cases h.1; done)
    refine ⟨?_, ?_⟩
    · unfold toPy0L
      rw [key.1]
      dsimp only
      rw [i1]
      rfl
    · rw [List.map_cons, List.all_cons, key.2, i2]
      rfl
theorem repr_obj {T : List MO} {n : Nat} {xs : List D} (h : T[n]? = some (MO.lst xs)) (hf : xs.all flatD = true) (hl : xs.length ≤ 1000) : ∃ z, reprA T [.obj n] = some (.str z) := by
  obtain ⟨h1, h2⟩ := flat_py hf
  exact ⟨_, repr_flat (ps := xs.map pyD) (by unfold toPy; rw [h]; dsimp only; rw [h1]) h2 (by rw [List.length_map]; exact hl) (fun _ _ z => by cases z)⟩
theorem rg_flat {n : Nat} (h : n ≤ 1000) : (rgD 0 (n : Int)).all flatD = true := by
  unfold rgD
  rw [List.all_map]
  refine List.all_eq_true.mpr fun i hi => ?_
  rw [List.mem_range] at hi
  exact decide_eq_true (by show (0 + (i : Int)).natAbs < _; omega)
theorem ls_small : ∀ {ps : List PyData}, ps.all smallP = true → PyData.leavesShortAll 4010 ps = true ∧ PyData.bulkAll ps ≤ ps.length * 401
  | [], _ => ⟨rfl, Nat.zero_le _⟩
  | p :: ps, h => by
    rw [List.all_cons, Bool.and_eq_true] at h
    obtain ⟨i1, i2⟩ := ls_small h.2
    have key : p.leavesShort 4010 = true ∧ p.bulk ≤ 400 := by
      cases p with
      | none => exact ⟨rfl, Nat.zero_le _⟩
      | bool b => exact ⟨rfl, Nat.zero_le _⟩
      | int i => exact ⟨decide_eq_true (shown_ub h.1), Nat.zero_le _⟩
      | str x => exact ⟨(bAnd h.1).2, of_decide_eq_true (bAnd h.1).1⟩
      | _ => cases h.1
    refine ⟨?_, ?_⟩
    · show (p.leavesShort 4010 && PyData.leavesShortAll 4010 ps) = true
      rw [key.1, i1]; rfl
    · show p.bulk + 1 + PyData.bulkAll ps ≤ (ps.length + 1) * 401
      have := key.2
      omega
theorem rg_bulk {n : Nat} : PyData.bulkAll ((rgD 0 (n : Int)).map pyD) = n := by
  have key : ∀ l : List Nat, PyData.bulkAll ((l.map fun i => D.int (0 + (i : Nat))).map pyD) = l.length := fun l => by
    induction l with
    | nil => rfl
    | cons i l ih =>
      show (PyData.bulk (.int _)) + 1 + PyData.bulkAll _ = l.length + 1
      rw [ih]
      show 0 + 1 + l.length = _
      omega
  unfold rgD
  rw [key, List.length_range]
  omega
theorem repr_of {S : List MO} {d : D} {p : PyData} (h : toPy S d = some p) (h1 : p.showable = true) (h2 : p.hasDict = false) (h3 : p.depth ≤ 60) (h4 : p.shown.length ≤ 16000000) (hd : ∀ ks vs, d ≠ .dK ks vs) : reprA S [d] = some (.str p.shown) := by
  have e : reprD S [d] = some (.str p.shown) := by
    unfold reprD
    dsimp only
    rw [h]
    dsimp only
    rw [if_pos ⟨h1, h2, h3, h4⟩]
  unfold reprA
  cases d <;> first | exact e | exact absurd rfl (hd _ _)
theorem repr_nest {T : List MO} {n k : Nat} (hn : n ≤ 1000) (h : T[k]? = some (MO.lst [.lst (rgD 0 n), .int 0])) : ∃ z, reprA T [.obj k] = some (.str z) := by
  obtain ⟨h1, h2⟩ := flat_py (rg_flat hn)
  obtain ⟨f1, f2, f3⟩ := small_facts h2
  obtain ⟨l1, _⟩ := ls_small h2
  have e0 : toPy T (.obj k) = some (.list [.list ((rgD 0 n).map pyD), .int 0]) := by
    unfold toPy
    rw [h]
    dsimp only
    unfold toPy0L toPy0
    rw [h1]
    rfl
  have hb := PyData.shown_le_bulk 4010 (by omega) (.list [.list ((rgD 0 n).map pyD), .int 0]) (by
    show (PyData.leavesShortAll 4010 ((rgD 0 n).map pyD) && (PyData.leavesShort 4010 (.int 0) && true)) = true
    rw [l1]
    decide)
  have eb : PyData.bulk (.list [.list ((rgD 0 n).map pyD), .int 0]) = n + 1 + (0 + 1 + 0) := by
    show PyData.bulkAll ((rgD 0 n).map pyD) + 1 + (0 + 1 + 0) = _
    rw [rg_bulk]
  rw [eb] at hb
  have c1 : (PyData.list [.list ((rgD 0 n).map pyD), .int 0]).showable = true := by
    show (PyData.showableAll ((rgD 0 n).map pyD) && true) = true
    rw [f1]; rfl
  have c2 : (PyData.list [.list ((rgD 0 n).map pyD), .int 0]).hasDict = false := by
    show (PyData.hasDictAll ((rgD 0 n).map pyD) || false) = false
    rw [f2]; rfl
  have c3 : (PyData.list [.list ((rgD 0 n).map pyD), .int 0]).depth ≤ 60 := by
    show max (PyData.depthAll ((rgD 0 n).map pyD) + 1) 0 + 1 ≤ 60
    rw [f3]; decide
  exact ⟨_, repr_of e0 c1 c2 c3 (by omega) (fun _ _ z => by cases z)⟩
theorem repr_tup {T : List MO} {n : Nat} (hn : n ≤ 1000) : ∃ z, reprA T [.tup [.lst (rgD 0 n)]] = some (.str z) := by
  obtain ⟨h1, h2⟩ := flat_py (rg_flat hn)
  obtain ⟨f1, f2, f3⟩ := small_facts h2
  obtain ⟨l1, _⟩ := ls_small h2
  have e0 : ∃ ps, ps = [PyData.list ((rgD 0 n).map pyD)] ∧ toPy T (.tup [.lst (rgD 0 n)]) = some (.tuple ps) := by
    refine ⟨_, rfl, ?_⟩
    have q : toPyL T (rgD 0 n) = some ((rgD 0 n).map pyD) := by
      have e := toPyL_int (S := T) (List.range n)
      have q1 : rgD 0 n = (List.range n).map fun i => D.int (i : Nat) := by
        unfold rgD
        rw [show ((n : Int) - 0).toNat = n by omega]
        exact List.map_congr_left fun i _ => by rw [Int.zero_add]
      rw [q1, e, List.map_map]
      rfl
    unfold toPy toPyL toPy
    rw [q]
    rfl
  obtain ⟨ps, rfl, e0⟩ := e0
  have hb := PyData.shown_le_bulk 4010 (by omega) (.tuple [.list ((rgD 0 n).map pyD)]) (by
    show (PyData.leavesShortAll 4010 ((rgD 0 n).map pyD) && true) = true
    rw [l1]
    rfl)
  have eb : PyData.bulk (.tuple [.list ((rgD 0 n).map pyD)]) = n + 1 + 0 := by
    show PyData.bulkAll ((rgD 0 n).map pyD) + 1 + 0 = _
    rw [rg_bulk]
  rw [eb] at hb
  have c1 : (PyData.tuple [.list ((rgD 0 n).map pyD)]).showable = true := by
    show (PyData.showableAll ((rgD 0 n).map pyD) && true) = true
    rw [f1]; rfl
  have c2 : (PyData.tuple [.list ((rgD 0 n).map pyD)]).hasDict = false := by
    show (PyData.hasDictAll ((rgD 0 n).map pyD) || false) = false
    rw [f2]; rfl
  have c3 : (PyData.tuple [.list ((rgD 0 n).map pyD)]).depth ≤ 60 := by
    show max (PyData.depthAll ((rgD 0 n).map pyD) + 1) 0 + 1 ≤ 60
    rw [f3]; decide
  exact ⟨_, repr_of e0 c1 c2 c3 (by omega) (fun _ _ z => by cases z)⟩
end LW

namespace LW
open PySem FL

theorem rg_mem {n k : Nat} (h : k < n) : D.int k ∈ rgD 0 (n : Int) := by
  unfold rgD
  exact List.mem_map.mpr ⟨k, List.mem_range.mpr (by omega), by rw [Int.zero_add]⟩
theorem z_mem {xs : List D} {i : Int} (h : D.int i ∈ xs) : i ∈ zOf xs := List.mem_map.mpr ⟨_, h, rfl⟩
theorem z_app (xs ys : List D) : zOf (xs ++ ys) = zOf xs ++ zOf ys := List.map_append
theorem dup_app {xs ys : List D} {i : Int} (h1 : D.int i ∈ xs) (h2 : D.int i ∈ ys) : ¬ (zOf (xs ++ ys)).Nodup := fun h => by
  rw [z_app, List.nodup_append] at h
  exact h.2.2 i (z_mem h1) i (z_mem h2) rfl
theorem rg_closed (n : Nat) : closedL (rgD 0 (n : Int)) = true := by
  have key : ∀ l : List Nat, closedL (l.map fun i => D.int (0 + (i : Nat))) = true := fun l => by
    induction l with
    | nil => rfl
    | cons i l ih => exact ih
  exact key _
theorem idx_self (n : Int) : idx (.int n) n = false := by
  show (decide (0 ≤ n) && decide (n < n)) = false
  rw [decide_eq_false (Int.lt_irrefl n), Bool.and_false]
theorem idx_neg (n : Int) : idx (.int (-1)) n = false := rfl
theorem rg_plain (n : Nat) : allPlain (rgD 0 (n : Int)) = true := by
  unfold allPlain rgD
  rw [List.all_map]
  exact List.all_eq_true.mpr fun _ _ => rfl
theorem cut_all {f : D → Bool} {xs : List D} {lo hi : Option Int} (h : xs.all f = true) : (cutA xs lo hi).all f = true := by
  unfold cutA
  exact List.all_eq_true.mpr fun x hx => List.all_eq_true.mp h x (List.mem_of_mem_drop (List.mem_of_mem_take hx))
theorem rev_all {f : D → Bool} {xs : List D} (h : xs.all f = true) : xs.reverse.all f = true := List.all_eq_true.mpr fun x hx => List.all_eq_true.mp h x (List.mem_reverse.mp hx)
theorem app_all {f : D → Bool} {xs ys : List D} (h : xs.all f = true) (h2 : ys.all f = true) : (xs ++ ys).all f = true := by rw [List.all_append, h, h2]; rfl
section
variable {S : List MO} {d l t u : Nat} {m : PM} {b : Bool}
theorem cb_obj (hd : DiskAt S d l t u m) (hn : m.wr.length ≤ 900) {way j : Nat} {xs : List D} (hw : way < 18) (e : (badL S.length m.wr.length).getD way .non = .obj (S.length + j)) (e2 : (badObjs m.wr.length)[j]? = some (MO.lst xs)) (hk : kept xs m.wr.length = false) (hp : allPlain xs = true) (hl : xs.length ≤ 990) (hr : ∀ T k, T[k]? = some (MO.lst (xs ++ [.int 0])) → ∃ z, reprA T [.obj k] = some (.str z)) :
    ∃ dn T S', callF fn__law_bad_done [.int way, .int m.wr.length] S = some (.ok dn, T) ∧ isExc dn = false ∧ callF fn__law_cut [.obj d, dn, .bl b] T = some (.ok (.lst [.str "done", .bl true]), S') ∧ Fr NoM S S' := by
  have fr : Fr NoM S (S ++ badObjs m.wr.length) := Fr.app
  have hd2 : DiskAt (S ++ badObjs m.wr.length) d l t u m := ⟨fr.get hd.o id, fr.get hd.l id, fr.get hd.t id, fr.get hd.u id⟩
  have hx : (S ++ badObjs m.wr.length)[S.length + j]? = some (MO.lst xs) := by
    rw [List.getElem?_append_right (by omega), Nat.add_sub_cancel_left]
    exact e2
  have ek := cf_kept m.wr.length (LT.obj hx) hp (by omega)
  rw [hk] at ek
  obtain ⟨z, hz⟩ := hr ((S ++ badObjs m.wr.length).set (S.length + j) (.lst (xs ++ [.int 0]))) (S.length + j) (set_get hx)
  refine ⟨.obj (S.length + j), _, _, ?_, rfl, law_cut_badO (hd2.inst (by decide)) (cut_bad hd2 rfl ek) hx (by omega) hz, fr.step Fr.set fun i hi z => absurd z (by omega)⟩
  have br := bad_run S hw (by omega : m.wr.length ≤ 1000)
  rw [e] at br
  obtain ⟨k, ek0⟩ : ∃ k, (badL 0 m.wr.length).getD way .non = .obj k := by
    clear hk hp hl hr e2 br
    have : way = 0 ∨ way = 1 ∨ way = 2 ∨ way = 3 ∨ way = 4 ∨ way = 5 ∨ way = 6 ∨ way = 7 ∨ way = 8 ∨ way = 9 ∨ way = 10 ∨ way = 11 ∨ way = 12 ∨ way = 13 ∨ way = 14 ∨ way = 15 ∨ way = 16 ∨ way = 17 := by omega
    rcases this with h | h | h | h | h | h | h | h | h | h | h | h | h | h | h | h | h | h <;> subst h <;> first | exact ⟨_, rfl⟩ | (cases e; done)
  have b0 := bad_run [] hw (by omega : m.wr.length ≤ 1000)
  rw [show ([] : List MO).length = 0 from rfl, ek0] at b0
  rw [callF_obj b0 rfl, br]
theorem cb_val (hd : DiskAt S d l t u m) (hn : m.wr.length ≤ 900) {way : Nat} {dn : D} (hw : way < 18) (e : ∀ s, (badL s m.wr.length).getD way .non = dn) (hc : dn.closed = true) (he : isExc dn = false) (hk : callF fn_are_kept [dn, .int m.wr.length] S = some (.ok (.bl false), S)) (hl : isiD ["Disk"] [.b .list] S dn = some (.bl false)) {z : Str} (hr : reprA S [dn] = some (.str z)) :
    ∃ dn T S', callF fn__law_bad_done [.int way, .int m.wr.length] S = some (.ok dn, T) ∧ isExc dn = false ∧ callF fn__law_cut [.obj d, dn, .bl b] T = some (.ok (.lst [.str "done", .bl true]), S') ∧ Fr NoM S S' := by
  refine ⟨dn, S, S, ?_, he, law_cut_bad (hd.inst (by decide)) he (cut_bad hd he hk) hl hr, Fr.refl⟩
  have b0 := bad_run [] hw (by omega : m.wr.length ≤ 1000)
  rw [e] at b0
  unfold callF
  rw [if_pos (show closedL [D.int way, D.int m.wr.length] = true from rfl), b0]
  dsimp only
  rw [if_pos hc]
theorem refuse_one (hd : DiskAt S d l t u m) (hn4 : m.wr.length ≤ 450) {way : Nat} (hw : way < 18) :
    ∃ dn T S', callF fn__law_bad_done [.int way, .int m.wr.length] S = some (.ok dn, T) ∧ isExc dn = false ∧ callF fn__law_cut [.obj d, dn, .bl b] T = some (.ok (.lst [.str "done", .bl true]), S') ∧ Fr NoM S S' := by
  have hn : m.wr.length ≤ 900 := by omega
  obtain ⟨n, en⟩ : ∃ n, m.wr.length = n := ⟨_, rfl⟩
  have rl := rgD_len n
  have rp := rg_plain n
  have rf := rg_flat (n := n) (by omega)
  have c1 := cutA_len (rgD 0 (n : Int)) (some (-1)) none
  have c2 := cutA_len (rgD 0 (n : Int)) (some 1) none
  have flat : ∀ {xs : List D}, xs.all flatD = true → xs.length ≤ 990 → ∀ T k, T[k]? = some (MO.lst (xs ++ [.int 0])) → ∃ z, reprA T [.obj k] = some (.str z) := fun h hl T k hT => repr_obj hT (app_all h rfl) (by simp; omega)
  have fn : flatD (.int (n : Int)) = true := decide_eq_true (by omega)
  have fn1 : flatD (.int ((n : Int) - 1)) = true := decide_eq_true (by omega)
  have cases18 : way = 0 ∨ way = 1 ∨ way = 2 ∨ way = 3 ∨ way = 4 ∨ way = 5 ∨ way = 6 ∨ way = 7 ∨ way = 8 ∨ way = 9 ∨ way = 10 ∨ way = 11 ∨ way = 12 ∨ way = 13 ∨ way = 14 ∨ way = 15 ∨ way = 16 ∨ way = 17 := by omega
  have h0 : n = 0 ∨ 0 < n := by omega
  rcases cases18 with h | h | h | h | h | h | h | h | h | h | h | h | h | h | h | h | h | h <;> subst h
  · exact cb_obj hd hn (j := 0) hw rfl (by rw [en]; rfl) (not_idx List.mem_cons_self (by rw [en]; exact idx_self _)) rfl (by simp) (flat (by rw [List.all_cons, fn]; rfl) (by simp))
  · exact cb_obj hd hn (j := 1) hw rfl (by rw [en]; rfl) (not_idx List.mem_cons_self (idx_neg _)) rfl (by simp) (flat rfl (by simp))
  · exact cb_obj hd hn (j := 3) (xs := rgD 0 n ++ [.int n]) hw rfl (by rw [en]; rfl) (not_idx (List.mem_append_right _ List.mem_cons_self) (by rw [en]; exact idx_self _)) (app_all rp rfl) (by simp; omega) (flat (app_all rf (by rw [List.all_cons, fn]; rfl)) (by simp; omega))
  · refine cb_obj hd hn (j := 4) (xs := rgD 0 n ++ cutA (rgD 0 n) (some (-1)) none ++ [.int (n - 1)]) hw rfl (by rw [en]; rfl) ?_ (app_all (app_all rp (cut_all rp)) rfl) ?_ (flat (app_all (app_all rf (cut_all rf)) (by rw [List.all_cons, fn1]; rfl)) ?_)
    · rcases h0 with z | z
      · subst z
        exact not_idx (List.mem_append_right _ List.mem_cons_self) (by rw [en]; rfl)
      · have hm := rg_mem (n := n) (k := n - 1) (by omega)
        rw [show ((n - 1 : Nat) : Int) = (n : Int) - 1 by omega] at hm
        exact not_dup (dup_app (List.mem_append_left _ hm) List.mem_cons_self)
    · simp; omega
    · simp; omega
  · refine cb_obj hd hn (j := 5) (xs := [.int 0] ++ rgD 0 n) hw rfl (by rw [en]; rfl) ?_ (app_all rfl rp) (by simp; omega) (flat (app_all rfl rf) (by simp; omega))
    rcases h0 with z | z
    · subst z
      exact not_idx List.mem_cons_self (by rw [en]; rfl)
    · exact not_dup (dup_app List.mem_cons_self (rg_mem (k := 0) z))
  · refine cb_obj hd hn (j := 6) (xs := (rgD 0 n).reverse ++ [.int 0]) hw rfl (by rw [en]; rfl) ?_ (app_all (rev_all rp) rfl) (by simp; omega) (flat (app_all (rev_all rf) rfl) (by simp; omega))
    rcases h0 with z | z
    · subst z
      exact not_idx (List.mem_append_right _ List.mem_cons_self) (by rw [en]; rfl)
    · exact not_dup (dup_app (List.mem_reverse.mpr (rg_mem (k := 0) z)) List.mem_cons_self)
  · exact cb_obj hd hn (j := 7) (xs := [.non]) hw rfl (by rw [en]; rfl) (not_idx List.mem_cons_self rfl) rfl (by simp) (flat rfl (by simp))
  · exact cb_obj hd hn (j := 8) (xs := [.str "0"]) hw rfl (by rw [en]; rfl) (not_idx List.mem_cons_self rfl) rfl (by simp) (flat (by decide) (by simp))
  · exact cb_obj hd hn (j := 9) (xs := rgD 0 n ++ [.bl true]) hw rfl (by rw [en]; rfl) (not_idx (List.mem_append_right _ List.mem_cons_self) rfl) (app_all rp rfl) (by simp; omega) (flat (app_all rf rfl) (by simp; omega))
  · exact cb_obj hd hn (j := 10) (xs := [.bl false] ++ cutA (rgD 0 n) (some 1) none) hw rfl (by rw [en]; rfl) (not_idx (List.mem_append_left _ List.mem_cons_self) rfl) (app_all rfl (cut_all rp)) (by simp; omega) (flat (app_all rfl (cut_all rf)) (by simp; omega))
  · exact cb_val hd hn (dn := .non) hw (fun _ => rfl) rfl rfl (callF_pure fun S => not_kept _ rfl fun _ => rfl) rfl (repr_of (p := .none) rfl rfl rfl (by decide) (by decide) (fun _ _ z => by cases z))
  · exact cb_val hd hn (dn := .int 0) hw (fun _ => rfl) rfl rfl (callF_pure fun S => not_kept _ rfl fun _ => rfl) rfl (repr_of (p := .int 0) rfl (by decide) rfl (by decide) (by decide) (fun _ _ z => by cases z))
  · exact cb_val hd hn (dn := .str "") hw (fun _ => rfl) rfl rfl (callF_pure fun S => not_kept _ rfl fun _ => rfl) rfl (repr_of (p := .str "") rfl rfl rfl (by decide) (by decide) (fun _ _ z => by cases z))
  · exact cb_val hd hn (dn := .dK [] []) hw (fun _ => rfl) rfl rfl (callF_pure fun S => not_kept _ rfl fun _ => rfl) rfl (z := (dictPy [] []).shown) (by show reprK (.dK [] []) = _; unfold reprK; dsimp only [scPyL]; rw [if_pos (by decide +kernel)])
  · exact cb_val hd hn (dn := .dK [.inr "0"] [.int 0]) hw (fun _ => rfl) rfl rfl (callF_pure fun S => not_kept _ rfl fun _ => rfl) rfl (z := (dictPy [.inr "0"] [.int 0]).shown) (by show reprK (.dK [.inr "0"] [.int 0]) = _; unfold reprK; dsimp only [scPyL, scPy]; rw [if_pos (by decide +kernel)])
  · exact cb_obj hd hn (j := 11) (xs := [.lst (rgD 0 n)]) hw rfl (by rw [en]; rfl) (not_idx List.mem_cons_self rfl) rfl (by simp) (fun T k hT => repr_nest (by omega) hT)
  · obtain ⟨z, hz⟩ := repr_tup (T := S) (n := n) (by omega)
    have ek := cf_kept m.wr.length (LT.tup (S := S) (xs := [.lst (rgD 0 n)])) rfl (by simp)
    rw [not_idx List.mem_cons_self rfl] at ek
    exact cb_val hd hn (dn := .tup [.lst (rgD 0 n)]) hw (fun _ => by rw [en]; rfl) (by show (closedL (rgD 0 (n : Int)) && true) = true; rw [rg_closed]; rfl) rfl ek rfl hz
  · exact cb_obj hd hn (j := 13) (xs := [.int (-1)] ++ rgD 0 n) hw rfl (by rw [en]; rfl) (not_idx List.mem_cons_self rfl) (app_all rfl rp) (by simp; omega) (flat (app_all rfl rf) (by simp; omega))
end
end LW
namespace LW
open PySem FL
theorem done_py (S : List MO) : toPy S (.lst [.str "done", .bl true]) = some (.list [.str "done", .bool true]) := rfl
theorem ne_done (S : List MO) : neD S (.lst [.str "done", .bl true]) (.lst [.str "done", .bl true]) = some (.bl false) := by
  unfold neD
  rw [show eqS (.lst [.str "done", .bl true]) (.lst [.str "done", .bl true]) = none from rfl]
  dsimp only
  rw [done_py]
  dsimp only
  rw [if_pos (by decide +kernel), show PyData.eqv (.list [.str "done", .bool true]) (.list [.str "done", .bool true]) = true by decide +kernel]
  rfl
theorem refused_ok {S : List MO} {d s b0 : Nat} {F : List Nat} {m : PM} {b : Bool} (h : Pair S d s F m) (hn : m.wr.length ≤ 450) : ∃ S', callF fn__law_refused_right [.obj b0, .obj d, .obj s, .bl b] S = some (.ok (.bl true), S') ∧ Fr NoM S S' := by
  obtain ⟨l, t, u, x, y, rfl, nd, hd, hs⟩ := h.ex
  obtain ⟨env', S1, el, e4, rfl, fr⟩ := loop_all (env := [some (.obj b0), some (.obj d), some (.obj s), some (.bl b), none]) (S := S) (xs := rngD 0 18)
    (gx := gSet 4) (body := ifS (fTest (fOp neD (fCall 3 fn__law_cut (fCons (fVar 1) (fCons (fCall 2 fn__law_bad_done (fCons (fVar 4) (fCons (fCB lenD (fCons (fOp getD (fVar 2) (pureF (.int 3))) (pureF []))) (pureF [])))) (fCons (fVar 3) (pureF []))))) (fLst (fCons (pureF (.str "done")) (fCons (pureF (.bl true)) (pureF [])))))) (retS (pureF (.bl false))) fNx)
    (fun i env S2 => ∃ e4, env = [some (.obj b0), some (.obj d), some (.obj s), some (.bl b), e4] ∧ Fr NoM S S2) ⟨none, rfl, Fr.refl⟩ (fun i d0 env S2 hi ⟨e4, he, fr⟩ => by
      subst he
      have hi18 : i < 18 := by
        have := (List.getElem?_eq_some_iff.mp hi).1
        rw [rngD_len] at this
        exact this
      have hv : d0 = .int i := by
        unfold rngD at hi
        rw [List.getElem?_map, List.getElem?_range hi18] at hi
        have := Option.some.inj hi
        rw [← this]
        show D.int (0 + (i : Int)) = _
        rw [Int.zero_add]
      subst hv
      have hd2 : DiskAt S2 d l t u m := ⟨fr.get hd.o id, fr.get hd.l id, fr.get hd.t id, fr.get hd.u id⟩
      have hs2 : StAt S2 s x y m := ⟨fr.get hs.o id, fr.get hs.x id, fr.get hs.y id⟩
      obtain ⟨dn, T, S3, e1, ee, e2, fr2⟩ := refuse_one (b := b) hd2 hn hi18
      refine ⟨_, _, [some (.obj b0), some (.obj d), some (.obj s), some (.bl b), some (.int i)], S3, rfl, ?_, _, rfl, fr.trans fr2⟩
      have el : Ev (fCB lenD (fCons (fOp getD (fVar 2) (pureF (.int 3))) (pureF []))) [some (.obj b0), some (.obj d), some (.obj s), some (.bl b), some (.int i)] S2 (.int m.wr.length) S2 := ev_cb (ev_cons (ev_op (x := .obj s) (y := .int 3) (ev_var rfl rfl) ev_pure (by rw [getO hs2.o]; rfl)) ev_nil) (by rw [lenD_of (LT.obj hs2.y).v rfl, List.length_map])
      exact es_if_f (ev_test (ev_op (ev_call (ev_cons (ev_var (d := .obj d) rfl rfl) (ev_cons (ev_call (ev_cons (ev_var (d := .int i) rfl rfl) (ev_cons el ev_nil)) rfl e1) (ev_cons (ev_var (d := .bl b) rfl rfl) ev_nil))) rfl e2) (ev_lst (ev_cons ev_pure (ev_cons ev_pure ev_nil)) (by simp)) (ne_done _))) es_nx)
  have h2 : Pair S1 d s [d, l, t, u, s, x, y] m := h.fr fr (fun _ _ z => z)
  refine ⟨S1 ++ [MO.lst ((beh m.las m.wr).map stD)], ?_, fr.trans Fr.app⟩
  rw [callF_open rfl]
  exact fn_rt (es_seq (es_for (ev_rng1 (j := 18) (ev_cons ev_pure ev_nil) (by decide)) el) (es_ret (ev_call (ev_cons (ev_var rfl rfl) (ev_cons (ev_var rfl rfl) ev_nil)) rfl (state_right_ok h2))))
end LW

namespace LW
open PySem FL

theorem wroteM_len (m : PM) (k : Nat) (c : List Nat) : (wroteM m k c).wr.length ≤ m.wr.length + 1 ∧ (wroteM m k c).p = m.p ∧ (wroteM m k c).w = m.w := by
  unfold wroteM
  split
  · exact ⟨by omega, rfl, rfl⟩
  · exact ⟨by simp, rfl, rfl⟩
theorem wrote_ev {S : List MO} {d s bx c : Nat} {F : List Nat} {m : PM} {env : Dv} (i j : Nat) (h0 : env[0]? = some (some (.obj bx))) (hi : env[i]? = some (some (.obj d))) (hj : env[j]? = some (some (.obj s))) (hb : BoxAt S bx c) (hc : c + 20 < 2 ^ 39) (h : Pair S d s F m) (nb : bx ∉ F) (hz : m.wr.length < 1000) :
    ∃ S' m', Ev (fCall 4 fn__law_wrote (fCons (fVar i) (fCons (fVar j) (fCons (fCall 2 fn__law_take (fCons (fVar 0) (fCons (fOp getD (fVar j) (pureF (.int 0))) (pureF [])))) (fCons (fCall 1 fn__law_text (fCons (fVar 0) (pureF []))) (pureF [])))))) env S (.bl true) S' ∧ Fr (fun i => i = bx ∨ i ∈ F) S S' ∧ BoxAt S' bx (c + 8) ∧ Pair S' d s F m' ∧ m'.wr.length ≤ m.wr.length + 1 ∧ m'.p = m.p ∧ m'.w = m.w := by
  have ok := h.ok
  have p1 := ok.p1
  have p2 := ok.p2
  have w1 := ok.w1
  obtain ⟨k, S1, e1, k0, k1, f1, b1⟩ := take_ok (m := m.p) hb (by omega) (by omega) (by omega)
  have hP1 := h.fr f1 (fun i hi z => nb (z ▸ hi))
  obtain ⟨cs, S2, e2, l2, a2, f2, b2⟩ := text_ok b1 (by omega)
  have hP2 := hP1.fr f2 (fun i hi z => nb (z ▸ hi))
  obtain ⟨S3, e3, f3, hP3⟩ := wrote_ok hP2 (k := k.toNat) (by omega) (c := cs) ⟨by omega, a2⟩ (by omega) hz
  obtain ⟨l, t, u, x, y, rfl, nd, hd, hs⟩ := h.ex
  have hk : ((k.toNat : Nat) : Int) = k := Int.toNat_of_nonneg k0
  rw [hk] at e3
  obtain ⟨q1, q2, q3⟩ := wroteM_len m k.toNat cs
  refine ⟨S3, wroteM m k.toNat cs, ev_call (ev_cons (ev_var hi rfl) (ev_cons (ev_var hj rfl) (ev_cons (ev_call (ev_cons (ev_var h0 rfl) (ev_cons (ev_op (x := .obj s) (y := .int 0) (ev_var hj rfl) ev_pure (by rw [getO hs.o]; rfl)) ev_nil)) rfl e1) (ev_cons (ev_call (ev_cons (ev_var h0 rfl) ev_nil) rfl e2) ev_nil)))) rfl e3, ?_, b2.fr f3 nb, hP3, q1, q2, q3⟩
  exact (f1.mono fun i _ z => .inl z).trans ((f2.mono fun i _ z => .inl z).trans (f3.mono fun i _ z => .inr z))
/-- a state that is right, as a test -/
theorem right_ev {S : List MO} {d s : Nat} {F : List Nat} {m : PM} {env : Dv} (i j : Nat) (hi : env[i]? = some (some (.obj d))) (hj : env[j]? = some (some (.obj s))) (h : Pair S d s F m) : Ev (fNot (fTru (fCall 2 fn__law_state_right (fCons (fVar i) (fCons (fVar j) (pureF [])))))) env S false (S ++ [.lst ((beh m.las m.wr).map stD)]) :=
  ev_not (b := true) (ev_tru (ev_call (ev_cons (ev_var hi rfl) (ev_cons (ev_var hj rfl) ev_nil)) rfl (state_right_ok h)) rfl)
theorem eq_i {S : List MO} (i j : Int) : eqA S (.int i) (.int j) = some (.bl (decide (i = j))) := rfl
theorem one_right_ok {S : List MO} {bx d s c : Nat} {F : List Nat} {m : PM} {ns : List Nat} {b : Bool} (hb : BoxAt S bx c) (hc : c + 60 < 2 ^ 39) (h : Pair S d s F m) (nb : bx ∉ F) (as : Asc ns m.wr.length) :
    ∃ S' d' s' F' m', callF fn__law_one_right [.obj bx, .obj d, .obj s, .lst (nD ns), .bl b] S = some (.ok (.lst [.obj d', .obj s']), S') ∧ Fr (· = bx) S S' ∧ BoxAt S' bx (c + 20) ∧ Pair S' d' s' F' m' ∧ (∀ i ∈ F', S.length ≤ i) ∧ m'.wr.length ≤ 2 ∧ m'.p = m.p ∧ m'.w = m.w := by
  have ok := h.ok
  have wl := ok.wl
  have nl := asc_len as
  have nlen : (nD ns).length = ns.length := by unfold nD; rw [List.length_map]
  -- passed
  obtain ⟨S1, hS1⟩ : ∃ S1, S ++ [MO.lst (nD ns)] = S1 := ⟨_, rfl⟩
  have f1 : Fr NoM S S1 := hS1 ▸ Fr.app
  have len1 : S1.length = S.length + 1 := by rw [← hS1]; simp
  have g1 : S1[S.length]? = some (MO.lst (nD ns)) := hS1 ▸ app_get
  have y1 : Ev (fListO (fVar 3)) ([.obj bx, .obj d, .obj s, .lst (nD ns), .bl b].map some ++ List.replicate 5 none) S (.obj S.length) S1 := by
    rw [← hS1]
    exact ev_listO (x := .lst (nD ns)) (ev_var rfl rfl) rfl
  have bl := hb.lt
  -- the cut
  obtain ⟨v, S2, e2, v0, v3, f2, b2⟩ := take_ok (m := 3) (hb.fr f1 id) (by omega) (by omega) (by omega)
  have g2 := f2.get g1 (by omega)
  have len2 : S1.length ≤ S2.length := f2.len
  have h2 : Pair S2 d s F m := (h.fr f1 (fun _ _ z => z)).fr f2 (fun i hi z => nb (z ▸ hi))
  obtain ⟨l, t, u, x, y, rfl, nd, hd2, hs2⟩ := h2.ex
  obtain ⟨dn, hp, y2⟩ : ∃ dn, Passed S2 dn ns ∧ Ev (fIf (fTest (fOp eqA (fCall 2 fn__law_take (fCons (fVar 0) (fCons (pureF (.int 3)) (pureF [])))) (pureF (.int 0)))) (fCB tupleD (fCons (fVar 5) (pureF []))) (fVar 5)) [some (.obj bx), some (.obj d), some (.obj s), some (.lst (nD ns)), some (.bl b), some (.obj S.length), none, none, none, none] S1 dn S2 := by
    have et : Ev (fTest (fOp eqA (fCall 2 fn__law_take (fCons (fVar 0) (fCons (pureF (.int 3)) (pureF [])))) (pureF (.int 0)))) [some (.obj bx), some (.obj d), some (.obj s), some (.lst (nD ns)), some (.bl b), some (.obj S.length), none, none, none, none] S1 (decide (v = 0)) S2 := ev_test (ev_op (ev_call (ev_cons (ev_var rfl rfl) (ev_cons ev_pure ev_nil)) rfl e2) ev_pure (eq_i _ _))
    by_cases hv : v = 0
    · rw [decide_eq_true hv] at et
      refine ⟨.tup (nD ns), .inl rfl, ev_if_t et (ev_cb (ev_cons (ev_var (d := .obj S.length) rfl rfl) ev_nil) ?_)⟩
      unfold tupleD viewL
      dsimp only
      rw [g2]
    · rw [decide_eq_false hv] at et
      exact ⟨.obj S.length, .inr ⟨_, rfl, g2⟩, ev_if_f et (ev_var rfl rfl)⟩
  obtain ⟨S3, e3, f3, len3, hd3⟩ := cut_ok hd2 ok as hp
  have y3 := law_cut_ok (b := b) (hd2.inst (by decide)) hp.lt.e e3
  have g3 := f3.get g2 id
  -- passed.reverse(), passed.append(7)
  obtain ⟨S4, hS4⟩ : ∃ S4, S3.set S.length (MO.lst (nD ns).reverse) = S4 := ⟨_, rfl⟩
  have f4 : Fr (· = S.length) S3 S4 := hS4 ▸ Fr.set
  have g4 : S4[S.length]? = some (MO.lst (nD ns).reverse) := hS4 ▸ set_get g3
  obtain ⟨S5, hS5⟩ : ∃ S5, S4.set S.length (MO.lst ((nD ns).reverse ++ [.int 7])) = S5 := ⟨_, rfl⟩
  have f5 : Fr (· = S.length) S4 S5 := hS5 ▸ Fr.set
  have len5 : S5.length = S3.length := by rw [← hS5, List.length_set, ← hS4, List.length_set]
  have f45 := f4.trans f5
  have hs3 : StAt S3 s x y m := ⟨f3.get hs2.o id, f3.get hs2.x id, f3.get hs2.y id⟩
  have ol := h.lt
  have sl := ol s (by simp)
  have xl := ol x (by simp)
  have yl := ol y (by simp)
  have hs5 : StAt S5 s x y m := ⟨f45.get hs3.o (by omega), f45.get hs3.x (by omega), f45.get hs3.y (by omega)⟩
  have hd5 : DiskAt S5 (S2.length + 1) S2.length (S2.length + 5) (S2.length + 4) (cutM m ns) := ⟨f45.get hd3.o (by omega), f45.get hd3.l (by omega), f45.get hd3.t (by omega), f45.get hd3.u (by omega)⟩
  obtain ⟨S6, e6, f6, len6, hs6⟩ := cut_of_ok hs5 ok as.lt (by omega)
  have hd6 : DiskAt S6 (S2.length + 1) S2.length (S2.length + 5) (S2.length + 4) (cutM m ns) := ⟨f6.get hd5.o id, f6.get hd5.l id, f6.get hd5.t id, f6.get hd5.u id⟩
  have hN6 : Pair S6 (S2.length + 1) (S5.length + 2) [S2.length + 1, S2.length, S2.length + 5, S2.length + 4, S5.length + 2, S5.length, S5.length + 1] (cutM m ns) :=
    ⟨cutM_ok ok as.lt, _, _, _, _, _, rfl, nd7_of (by omega), hd6, hs6⟩
  have frA : Fr (fun i => i = bx) S S6 := ((fr_no f1).trans (f2.trans (fr_no f3))).step (f45.trans (fr_no f6)) fun i hi z => absurd z (by omega)
  have hM6 := h.fr frA (fun i hi z => nb (z ▸ hi))
  obtain ⟨n, hn⟩ : ∃ n, S2.length + 1 = n := ⟨_, rfl⟩
  obtain ⟨s', hs'⟩ : ∃ s', S5.length + 2 = s' := ⟨_, rfl⟩
  obtain ⟨F', hF'⟩ : ∃ F', [S2.length + 1, S2.length, S2.length + 5, S2.length + 4, S5.length + 2, S5.length, S5.length + 1] = F' := ⟨_, rfl⟩
  have F'lo : ∀ i ∈ F', S.length ≤ i := fun i hi => by
    rw [← hF'] at hi
    simp only [List.mem_cons, List.not_mem_nil, or_false] at hi
    omega
  have nb' : bx ∉ F' := fun z => absurd (F'lo bx z) (by omega)
  rw [hF', hn, hs'] at hN6
  rw [hn] at y3
  rw [hs'] at e6
  obtain ⟨S7, hS7⟩ : ∃ S7, S6 ++ [MO.lst ((beh (cutM m ns).las (cutM m ns).wr).map stD)] = S7 := ⟨_, rfl⟩
  obtain ⟨S8, hS8⟩ : ∃ S8, S7 ++ [MO.lst ((beh m.las m.wr).map stD)] = S8 := ⟨_, rfl⟩
  have f7 : Fr NoM S6 S7 := hS7 ▸ Fr.app
  have f8 : Fr NoM S7 S8 := hS8 ▸ Fr.app
  obtain ⟨E8, hE8⟩ : ∃ E8 : Dv, [some (.obj bx), some (.obj d), some (.obj s), some (.lst (nD ns)), some (.bl b), some (.obj S.length), some (.lst [.str "told", .obj n]), some (.obj n), some (.obj s'), none] = E8 := ⟨_, rfl⟩
  have r7 := right_ev (env := [some (.obj bx), some (.obj d), some (.obj s), some (.lst (nD ns)), some (.bl b), some (.obj S.length), some (.lst [.str "told", .obj n]), some (.obj n), some (.obj s'), none]) 7 8 rfl rfl hN6
  rw [hS7] at r7
  have hM7 := hM6.fr f7 (fun _ _ z => z)
  have r8 := right_ev (env := [some (.obj bx), some (.obj d), some (.obj s), some (.lst (nD ns)), some (.bl b), some (.obj S.length), some (.lst [.str "told", .obj n]), some (.obj n), some (.obj s'), none]) 1 2 rfl rfl hM7
  rw [hS8] at r8
  have hM8 := hM7.fr f8 (fun _ _ z => z)
  have hN8 := (hN6.fr f7 (fun _ _ z => z)).fr f8 (fun _ _ z => z)
  have b8 : BoxAt S8 bx (c + 1) := ((((b2.fr f3 id).fr f45 (by omega)).fr f6 id).fr f7 id).fr f8 id
  obtain ⟨v2, S9, e9, v20, v22, f9, b9⟩ := take_ok (m := 2) b8 (by omega) (by omega) (by omega)
  have hM9 := hM8.fr f9 (fun i hi z => nb (z ▸ hi))
  have hN9 := hN8.fr f9 (fun i hi z => nb' (z ▸ hi))
  obtain ⟨env', S10, el, e10, m', rfl, f10, b10, hN10, wl10, mp, mw⟩ := loop_all (env := [some (.obj bx), some (.obj d), some (.obj s), some (.lst (nD ns)), some (.bl b), some (.obj S.length), some (.lst [.str "told", .obj n]), some (.obj n), some (.obj s'), none]) (S := S9) (xs := rngD 0 (1 + v2).toNat)
    (gx := gSet 9) (body := ifS (fOr (fNot (fTru (fCall 4 fn__law_wrote (fCons (fVar 7) (fCons (fVar 8) (fCons (fCall 2 fn__law_take (fCons (fVar 0) (fCons (fOp getD (fVar 8) (pureF (.int 0))) (pureF [])))) (fCons (fCall 1 fn__law_text (fCons (fVar 0) (pureF []))) (pureF [])))))))) (fNot (fTru (fCall 2 fn__law_state_right (fCons (fVar 1) (fCons (fVar 2) (pureF []))))))) (retS (fLst (pureF []))) fNx)
    (fun i env T => ∃ e9 m', env = [some (.obj bx), some (.obj d), some (.obj s), some (.lst (nD ns)), some (.bl b), some (.obj S.length), some (.lst [.str "told", .obj n]), some (.obj n), some (.obj s'), e9] ∧ Fr (fun i => i = bx ∨ i ∈ F') S9 T ∧ BoxAt T bx (c + 1 + 1 + 8 * i) ∧ Pair T n s' F' m' ∧ m'.wr.length ≤ i ∧ m'.p = m.p ∧ m'.w = m.w)
    ⟨none, cutM m ns, rfl, Fr.refl, b9, hN9, Nat.zero_le _, rfl, rfl⟩ (fun i d0 env T hi ⟨e9', m', he, fT, bT, hT, wT, mpT, mwT⟩ => by
      subst he
      have hi2 : i < 2 := by
        have := (List.getElem?_eq_some_iff.mp hi).1
        rw [rngD_len] at this
        omega
      obtain ⟨T2, m2, ew, fw, bw, hw, lw, pw, ww⟩ := wrote_ev (env := [some (.obj bx), some (.obj d), some (.obj s), some (.lst (nD ns)), some (.bl b), some (.obj S.length), some (.lst [.str "told", .obj n]), some (.obj n), some (.obj s'), some d0]) 7 8 rfl rfl rfl bT (by omega) hT nb' (by omega)
      have fM : Fr (fun i => i = bx ∨ i ∈ F') S9 T2 := fT.trans fw
      have hMT := hM9.fr fM (fun i hi z => by
        rcases z with z | z
        · exact nb (z ▸ hi)
        · exact absurd (F'lo i z) (by have := ol i hi; omega))
      refine ⟨_, _, [some (.obj bx), some (.obj d), some (.obj s), some (.lst (nD ns)), some (.bl b), some (.obj S.length), some (.lst [.str "told", .obj n]), some (.obj n), some (.obj s'), some d0], T2 ++ [MO.lst ((beh m.las m.wr).map stD)], rfl, es_if_f (ev_or_f (ev_not (b := true) (ev_tru ew rfl)) (right_ev 1 2 rfl rfl hMT)) es_nx, _, m2, rfl, fM.trans Fr.app, (bw.fr (M := NoM) Fr.app id).mono (by omega), hw.fr (M := NoM) Fr.app (fun _ _ z => z), by omega, by rw [pw, mpT], by rw [ww, mwT]⟩)
  have lenv : (rngD 0 (1 + v2).toNat).length ≤ 2 := by rw [rngD_len]; omega
  have r11 := right_ev (env := [some (.obj bx), some (.obj d), some (.obj s), some (.lst (nD ns)), some (.bl b), some (.obj S.length), some (.lst [.str "told", .obj n]), some (.obj n), some (.obj s'), e10]) 7 8 rfl rfl hN10
  have f11 : Fr NoM S10 (S10 ++ [MO.lst ((beh m'.las m'.wr).map stD)]) := Fr.app
  have f69 : Fr (· = bx) S6 S9 := (fr_no f7).trans ((fr_no f8).trans f9)
  refine ⟨S10 ++ [MO.lst ((beh m'.las m'.wr).map stD)], n, s', F', m', ?_, ((frA.trans f69).step (f10.trans (fr_no f11)) fun i hi z => ?_), ((b10.fr f11 id).mono (by omega)), hN10.fr f11 (fun _ _ z => z), F'lo, by omega, mp, mw⟩
  · rw [callF_open (by show (false && _) = false; rfl)]
    have ne : neD S3 (.str "told") (.str "told") = some (.bl false) := ne_same _
    have q3 : Ev (fTest (fOp neD (fOp getD (fVar 6) (pureF (.int 0))) (pureF (.str "told")))) [some (.obj bx), some (.obj d), some (.obj s), some (.lst (nD ns)), some (.bl b), some (.obj S.length), some (.lst [.str "told", .obj n]), none, none, none] S3 false S3 :=
      ev_test (ev_op (x := .str "told") (y := .str "told") (ev_op (x := .lst [.str "told", .obj n]) (y := .int 0) (ev_var rfl rfl) ev_pure rfl) ev_pure ne)
    have hv4 : viewL S4 (.obj S.length) = some (nD ns).reverse := by
      unfold viewL
      dsimp only
      rw [g4]
    have q4 : Ev (fMt0 revO (fVar 5)) [some (.obj bx), some (.obj d), some (.obj s), some (.lst (nD ns)), some (.bl b), some (.obj S.length), some (.lst [.str "told", .obj n]), none, none, none] S3 .non S4 := by
      rw [← hS4]
      exact ev_mt0 (ev_var rfl rfl) g3 rfl
    have q5 : Ev (fMt appO (fVar 5) (fCons (pureF (.int 7)) (pureF []))) [some (.obj bx), some (.obj d), some (.obj s), some (.lst (nD ns)), some (.bl b), some (.obj S.length), some (.lst [.str "told", .obj n]), none, none, none] S4 .non S5 := by
      rw [← hS5]
      exact ev_mt (ev_var rfl rfl) hv4 (ev_cons ev_pure ev_nil) g4 (if_pos (by rw [List.length_reverse, nlen]; omega))
    have er : Ev (fRng1 (fCons (fOp addD (pureF (.int 1)) (fCall 2 fn__law_take (fCons (fVar 0) (fCons (pureF (.int 2)) (pureF []))))) (pureF []))) [some (.obj bx), some (.obj d), some (.obj s), some (.lst (nD ns)), some (.bl b), some (.obj S.length), some (.lst [.str "told", .obj n]), some (.obj n), some (.obj s'), none] S8 (rngD 0 (1 + v2).toNat) S9 :=
      ev_rng1 (ev_cons (ev_op (x := .int 1) (y := .int v2) ev_pure (ev_call (ev_cons (ev_var rfl rfl) (ev_cons ev_pure ev_nil)) rfl e9) rfl) ev_nil) (by omega)
    exact fn_rt (es_seq (es_set y1) (es_seq (es_set (ev_call (ev_cons (ev_var (d := .obj d) rfl rfl) (ev_cons y2 (ev_cons (ev_var (d := .bl b) rfl rfl) ev_nil))) rfl y3)) (es_seq (es_if_f q3 es_nx) (es_seq (es_drop q4) (es_seq (es_drop q5)
      (es_seq (es_par (ev_cons (ev_op (x := .lst [.str "told", .obj n]) (y := .int 1) (d := .obj n) (ev_var rfl rfl) ev_pure rfl) (ev_cons (ev_call (ev_cons (ev_var (d := .obj s) rfl rfl) (ev_cons (ev_var (d := .lst (nD ns)) rfl rfl) ev_nil)) rfl e6) ev_nil)))
      (es_seq (es_if_f (ev_or_f r7 r8) es_nx) (es_seq (es_for er el) (es_seq (es_if_f r11 es_nx) (es_ret (ev_lst (ev_cons (ev_var rfl rfl) (ev_cons (ev_var rfl rfl) ev_nil)) (by simp))))))))))))
  · rcases z with z | z
    · exact z
    · exact absurd (F'lo i z) (by omega)
end LW

namespace LW
open PySem FL

/-- a pair grown: its things are its own still, or new -/
structure Grown (S S' : List MO) (bx d s : Nat) (F : List Nat) (m : PM) (k : Nat) : Prop where
  fr : Fr (fun i => i = bx ∨ i ∈ F) S S'
  ex : ∃ F' m', Pair S' d s F' m' ∧ (∀ i ∈ F', i ∈ F ∨ S.length ≤ i) ∧ m'.wr.length ≤ m.wr.length + k ∧ m'.p = m.p ∧ m'.w = m.w
theorem Grown.step {S S1 S2 : List MO} {bx d s : Nat} {F F1 : List Nat} {m m1 : PM} {k : Nat} (fr : Fr (fun i => i = bx ∨ i ∈ F) S S1) (hF : ∀ i ∈ F1, i ∈ F ∨ S.length ≤ i) (fr2 : Fr (fun i => i = bx ∨ i ∈ F1) S1 S2) : Fr (fun i => i = bx ∨ i ∈ F) S S2 :=
  fr.step fr2 fun i hi z => by
    rcases z with z | z
    · exact .inl z
    · rcases hF i z with q | q
      · exact .inr q
      · omega
theorem stlM_len (m : PM) : (stlM m).wr.length ≤ m.wr.length ∧ (stlM m).p = m.p ∧ (stlM m).w = m.w := by
  unfold stlM
  split
  · exact ⟨Nat.le_refl _, rfl, rfl⟩
  · exact ⟨Nat.zero_le _, rfl, rfl⟩
/-- a write with a drawn text, its page from elsewhere -/
theorem wrote_evP {S S1 : List MO} {d s bx c : Nat} {F : List Nat} {m : PM} {env : Dv} (i j : Nat) {fp : Fx D} {k : Int} (h0 : env[0]? = some (some (.obj bx))) (hi : env[i]? = some (some (.obj d))) (hj : env[j]? = some (some (.obj s))) (ep : Ev fp env S (.int k) S1) (k0 : 0 ≤ k) (k1 : k < m.p) (b1 : BoxAt S1 bx c) (hc : c + 20 < 2 ^ 39) (hP1 : Pair S1 d s F m) (nb : bx ∉ F) (hz : m.wr.length < 1000) :
    ∃ S' m', Ev (fCall 4 fn__law_wrote (fCons (fVar i) (fCons (fVar j) (fCons fp (fCons (fCall 1 fn__law_text (fCons (fVar 0) (pureF []))) (pureF [])))))) env S (.bl true) S' ∧ Fr (fun i => i = bx ∨ i ∈ F) S1 S' ∧ BoxAt S' bx (c + 7) ∧ Pair S' d s F m' ∧ m'.wr.length ≤ m.wr.length + 1 ∧ m'.p = m.p ∧ m'.w = m.w := by
  have ok := hP1.ok
  have w1 := ok.w1
  obtain ⟨cs, S2, e2, l2, a2, f2, b2⟩ := text_ok b1 (by omega)
  have hP2 := hP1.fr f2 (fun i hi z => nb (z ▸ hi))
  obtain ⟨S3, e3, f3, hP3⟩ := wrote_ok hP2 (k := k.toNat) (by omega) (c := cs) ⟨by omega, a2⟩ (by omega) hz
  have hk : ((k.toNat : Nat) : Int) = k := Int.toNat_of_nonneg k0
  rw [hk] at e3
  obtain ⟨q1, q2, q3⟩ := wroteM_len m k.toNat cs
  refine ⟨S3, wroteM m k.toNat cs, ev_call (ev_cons (ev_var hi rfl) (ev_cons (ev_var hj rfl) (ev_cons ep (ev_cons (ev_call (ev_cons (ev_var h0 rfl) ev_nil) rfl e2) ev_nil)))) rfl e3, ?_, b2.fr f3 nb, hP3, q1, q2, q3⟩
  exact (f2.mono fun i _ z => .inl z).trans (f3.mono fun i _ z => .inr z)
/-- three pages drawn -/
theorem pages_ok {S : List MO} {d s bx c : Nat} {F : List Nat} {m : PM} {e3 e4 e5 : Option D} (hb : BoxAt S bx c) (hc : c + 20 < 2 ^ 39) (h : Pair S d s F m) (nb : bx ∉ F) :
    ∃ ps S', Ev (fLc (fRng1 (fCons (pureF (.int 3)) (pureF []))) [5] (gSet 5) (pureF true) (fCall 2 fn__law_take (fCons (fVar 0) (fCons (fOp getD (fVar 2) (pureF (.int 0))) (pureF []))))) [some (.obj bx), some (.obj d), some (.obj s), e3, e4, e5] S (.lst ps) S' ∧ ps.length = 3 ∧ (∀ z ∈ ps, ∃ k : Int, z = .int k ∧ 0 ≤ k ∧ k < m.p) ∧ Fr (· = bx) S S' ∧ BoxAt S' bx (c + 3) := by
  have p1 := h.ok.p1
  have p2 := h.ok.p2
  obtain ⟨ys, S', e, l1, l2, l3, l4⟩ := lc_all (gx := gSet 5) (tt := pureF true) (te := fCall 2 fn__law_take (fCons (fVar 0) (fCons (fOp getD (fVar 2) (pureF (.int 0))) (pureF [])))) (env0 := wipeD [some (.obj bx), some (.obj d), some (.obj s), e3, e4, e5] [5]) (xs := rngD 0 3) (S := S)
    (fun i acc T => acc.length = i ∧ (∀ z ∈ acc, ∃ k : Int, z = .int k ∧ 0 ≤ k ∧ k < m.p) ∧ Fr (· = bx) S T ∧ BoxAt T bx (c + i)) ⟨rfl, fun z hz => (by cases hz), Fr.refl, hb⟩ (fun i d0 acc T hi ⟨a1, a2, a3, a4⟩ => by
      have hi3 : i < 3 := by
        have := (List.getElem?_eq_some_iff.mp hi).1
        rw [rngD_len] at this
        exact this
      have hP := h.fr a3 (fun i hi z => nb (z ▸ hi))
      obtain ⟨l, t, u, x, y, rfl, nd, hd, hs⟩ := hP.ex
      obtain ⟨k, T2, e1, k0, k1, f1, b1⟩ := take_ok (m := m.p) a4 (by omega) (by omega) (by omega)
      refine ⟨[some (.obj bx), some (.obj d), some (.obj s), e3, e4, some d0], T, rfl, .inl ⟨T, .int k, T2, rfl, ev_call (ev_cons (ev_var (d := .obj bx) rfl rfl) (ev_cons (ev_op (x := .obj s) (y := .int 0) (ev_var rfl rfl) ev_pure (by rw [getO hs.o]; rfl)) ev_nil)) rfl e1, by simp [a1], fun z hz => ?_, a3.trans f1, b1⟩⟩
      rcases List.mem_append.mp hz with q | q
      · exact a2 z q
      · exact ⟨k, by simpa using q, k0, k1⟩)
  exact ⟨ys, S', ev_lc (ev_rng1 (j := 3) (ev_cons ev_pure ev_nil) (by decide)) (by decide) e, l1, l2, l3, l4⟩
end LW

namespace LW
open PySem FL

/-- box[..] == 0, drawn -/
theorem draw_ev {S : List MO} {bx c : Nat} {env : Dv} {n : Int} (h0 : env[0]? = some (some (.obj bx))) (hb : BoxAt S bx c) (hc : c < 2 ^ 39) (hn : 0 < n) (hn2 : n < 1073741824) :
    ∃ b S', Ev (fTest (fOp eqA (fCall 2 fn__law_take (fCons (fVar 0) (fCons (pureF (.int n)) (pureF [])))) (pureF (.int 0)))) env S b S' ∧ Fr (· = bx) S S' ∧ BoxAt S' bx (c + 1) := by
  obtain ⟨v, S1, e1, v0, v1, f1, b1⟩ := take_ok hb hc hn hn2
  exact ⟨_, S1, ev_test (ev_op (ev_call (ev_cons (ev_var h0 rfl) (ev_cons ev_pure ev_nil)) rfl e1) ev_pure (eq_i _ _)), f1, b1⟩
theorem grown_stop {S : List MO} {d s bx c : Nat} {F : List Nat} {m : PM} {env : Dv} (h0 : env[0]? = some (some (.obj bx))) (h1 : env[1]? = some (some (.obj d))) (h2 : env[2]? = some (some (.obj s))) (hb : BoxAt S bx c) (hc : c + 20 < 2 ^ 39) (h : Pair S d s F m) (nb : bx ∉ F) :
    ∃ m' S', Ev (fAnd (fTest (fOp eqA (fCall 2 fn__law_take (fCons (fVar 0) (fCons (pureF (.int 3)) (pureF [])))) (pureF (.int 0)))) (fNot (fTru (fCall 3 fn__law_stopped (fCons (fVar 1) (fCons (fVar 2) (fCons (fOp addD (pureF (.int 1)) (fCall 2 fn__law_take (fCons (fVar 0) (fCons (pureF (.int 6)) (pureF []))))) (pureF [])))))))) env S false S' ∧ Fr (fun i => i = bx ∨ i ∈ F) S S' ∧ BoxAt S' bx (c + 2) ∧ Pair S' d s F m' ∧ m'.wr = m.wr ∧ m'.p = m.p ∧ m'.w = m.w := by
  obtain ⟨b, S1, e1, f1, b1⟩ := draw_ev (n := 3) h0 hb (by omega) (by omega) (by omega)
  have hP1 := h.fr f1 (fun i hi z => nb (z ▸ hi))
  cases b with
  | false => exact ⟨m, S1, ev_and_f e1, f1.mono fun i _ z => .inl z, b1.mono (by omega), hP1, rfl, rfl, rfl⟩
  | true =>
    obtain ⟨v, S2, e2, v0, v1, f2, b2⟩ := take_ok (m := 6) b1 (by omega) (by omega) (by omega)
    have hP2 := hP1.fr f2 (fun i hi z => nb (z ▸ hi))
    obtain ⟨S3, e3, f3, hP3⟩ := stopped_ok hP2 (1 + v).toNat
    rw [Int.toNat_of_nonneg (show 0 ≤ 1 + v by omega)] at e3
    refine ⟨_, S3, ev_and_t e1 (ev_not (b := true) (ev_tru (d := .bl true) (ev_call (ev_cons (ev_var h1 rfl) (ev_cons (ev_var h2 rfl) (ev_cons (ev_op (x := .int 1) (y := .int v) ev_pure (ev_call (ev_cons (ev_var h0 rfl) (ev_cons ev_pure ev_nil)) rfl e2) rfl) ev_nil))) rfl e3) rfl)), (f1.mono fun i _ z => .inl z).trans ((f2.mono fun i _ z => .inl z).trans (f3.mono fun i _ z => .inr z)), b2.fr f3 nb, hP3, rfl, rfl, rfl⟩
theorem grown_settle {S : List MO} {d s bx c : Nat} {F : List Nat} {m : PM} {env : Dv} (h0 : env[0]? = some (some (.obj bx))) (h1 : env[1]? = some (some (.obj d))) (h2 : env[2]? = some (some (.obj s))) (hb : BoxAt S bx c) (hc : c + 20 < 2 ^ 39) (h : Pair S d s F m) (nb : bx ∉ F) :
    ∃ m' F' S', Ev (fAnd (fTest (fOp eqA (fCall 2 fn__law_take (fCons (fVar 0) (fCons (pureF (.int 9)) (pureF [])))) (pureF (.int 0)))) (fNot (fTru (fCall 2 fn__law_settled (fCons (fVar 1) (fCons (fVar 2) (pureF []))))))) env S false S' ∧ Fr (fun i => i = bx ∨ i ∈ F) S S' ∧ BoxAt S' bx (c + 1) ∧ Pair S' d s F' m' ∧ (∀ i ∈ F', i ∈ F ∨ S.length ≤ i) ∧ m'.wr.length ≤ m.wr.length ∧ m'.p = m.p ∧ m'.w = m.w := by
  obtain ⟨b, S1, e1, f1, b1⟩ := draw_ev (n := 9) h0 hb (by omega) (by omega) (by omega)
  have hP1 := h.fr f1 (fun i hi z => nb (z ▸ hi))
  cases b with
  | false => exact ⟨m, F, S1, ev_and_f e1, f1.mono fun i _ z => .inl z, b1, hP1, fun i hi => .inl hi, Nat.le_refl _, rfl, rfl⟩
  | true =>
    obtain ⟨S2, e2, st⟩ := settled_ok hP1
    obtain ⟨F', hP2, hF⟩ := st.ex
    obtain ⟨q1, q2, q3⟩ := stlM_len m
    exact ⟨stlM m, F', S2, ev_and_t e1 (ev_not (b := true) (ev_tru (d := .bl true) (ev_call (ev_cons (ev_var h1 rfl) (ev_cons (ev_var h2 rfl) ev_nil)) rfl e2) rfl)), (f1.mono fun i _ z => .inl z).trans (st.fr.mono fun i _ z => .inr z), b1.fr st.fr nb, hP2, fun i hi => (hF i hi).imp_right fun z => Nat.le_trans f1.len z, q1, q2, q3⟩
end LW

namespace LW
open PySem FL

theorem grown_ok {S : List MO} {d s bx c : Nat} {F : List Nat} {m : PM} (hb : BoxAt S bx c) (hc : c + 400 < 2 ^ 39) (h : Pair S d s F m) (nb : bx ∉ F) (hz : m.wr.length ≤ 900) :
    ∃ S', callF fn__law_grown [.obj bx, .obj d, .obj s] S = some (.ok (.bl true), S') ∧ BoxAt S' bx (c + 110) ∧ Grown S S' bx d s F m 9 := by
  have blt := hb.lt
  obtain ⟨ps, S1, e1, l1, a1, f1, b1⟩ := pages_ok (e3 := none) (e4 := none) (e5 := none) hb (by omega) h nb
  have hP1 := h.fr f1 (fun i hi z => nb (z ▸ hi))
  obtain ⟨m2, S2, e2, f2, b2, hP2, w2, p2, q2⟩ := grown_stop (env := [some (.obj bx), some (.obj d), some (.obj s), some (.lst ps), none, none]) rfl rfl rfl b1 (by omega) hP1 nb
  obtain ⟨v, S3, e3, v0, v9, f3, b3⟩ := take_ok (m := 9) b2 (by omega) (by omega) (by omega)
  have hP3 := hP2.fr f3 (fun i hi z => nb (z ▸ hi))
  have frA : Fr (fun i => i = bx ∨ i ∈ F) S S3 := (f1.mono fun i _ z => .inl z).trans (f2.trans (f3.mono fun i _ z => .inl z))
  obtain ⟨env', S4, el, e4, F4, m4, rfl, f4, b4, hP4, hF4, w4, p4, q4⟩ := loop_all (env := [some (.obj bx), some (.obj d), some (.obj s), some (.lst ps), none, none]) (S := S3) (xs := rngD 0 (1 + v).toNat)
    (gx := gSet 4) (body := seqS (ifS (fAnd (fTest (fOp eqA (fCall 2 fn__law_take (fCons (fVar 0) (fCons (pureF (.int 9)) (pureF [])))) (pureF (.int 0)))) (fNot (fTru (fCall 2 fn__law_settled (fCons (fVar 1) (fCons (fVar 2) (pureF []))))))) (retS (pureF (.bl false))) fNx) (ifS (fNot (fTru (fCall 4 fn__law_wrote (fCons (fVar 1) (fCons (fVar 2) (fCons (fOp getD (fVar 3) (fCall 2 fn__law_take (fCons (fVar 0) (fCons (pureF (.int 3)) (pureF []))))) (fCons (fCall 1 fn__law_text (fCons (fVar 0) (pureF []))) (pureF [])))))))) (retS (pureF (.bl false))) fNx))
    (fun i env T => ∃ e4 F1 m1, env = [some (.obj bx), some (.obj d), some (.obj s), some (.lst ps), e4, none] ∧ Fr (fun i => i = bx ∨ i ∈ F) S T ∧ BoxAt T bx (c + 6 + 10 * i) ∧ Pair T d s F1 m1 ∧ (∀ i ∈ F1, i ∈ F ∨ S.length ≤ i) ∧ m1.wr.length ≤ m.wr.length + i ∧ m1.p = m.p ∧ m1.w = m.w)
    ⟨none, F, m2, rfl, frA, b3.mono (by omega), hP3, fun i hi => .inl hi, by rw [w2]; omega, p2, q2⟩ (fun i d0 env T hi ⟨e4, F1, m1, he, fT, bT, hT, hF, wT, pT, qT⟩ => by
      subst he
      have hi9 : i < 9 := by
        have := (List.getElem?_eq_some_iff.mp hi).1
        rw [rngD_len] at this
        omega
      have nb1 : bx ∉ F1 := fun z => by
        rcases hF bx z with q | q
        · exact nb q
        · omega
      obtain ⟨m5, F5, T5, e5, f5, b5, hP5, hF5, w5, p5, q5⟩ := grown_settle (env := [some (.obj bx), some (.obj d), some (.obj s), some (.lst ps), some d0, none]) rfl rfl rfl bT (by omega) hT nb1
      have fT5 := Grown.step (d := d) (s := s) (m := m) (m1 := m) (k := 0) fT hF f5
      have hF5' : ∀ i ∈ F5, i ∈ F ∨ S.length ≤ i := fun i hi => by
        rcases hF5 i hi with q | q
        · exact hF i q
        · exact .inr (Nat.le_trans fT.len q)
      have nb5 : bx ∉ F5 := fun z => by
        rcases hF5' bx z with q | q
        · exact nb q
        · omega
      obtain ⟨j, T6, e6, j0, j3, f6, b6⟩ := take_ok (m := 3) b5 (by omega) (by omega) (by omega)
      have hP6 := hP5.fr f6 (fun i hi z => nb5 (z ▸ hi))
      have hj : j.toNat < ps.length := by omega
      obtain ⟨k, hk, k0, k1⟩ := a1 ps[j.toNat] (List.getElem_mem hj)
      have gj : getD T6 (.lst ps) (.int j) = some (.int k) := by
        have := getW (S := T6) (L := ps) hj
        rw [Int.toNat_of_nonneg j0, List.getD_eq_getElem?_getD, List.getElem?_eq_getElem hj] at this
        rw [this]
        show some ps[j.toNat] = _
        rw [hk]
      have ep : Ev (fOp getD (fVar 3) (fCall 2 fn__law_take (fCons (fVar 0) (fCons (pureF (.int 3)) (pureF []))))) [some (.obj bx), some (.obj d), some (.obj s), some (.lst ps), some d0, none] T5 (.int k) T6 := ev_op (x := .lst ps) (y := .int j) (ev_var rfl rfl) (ev_call (ev_cons (ev_var (d := .obj bx) rfl rfl) (ev_cons ev_pure ev_nil)) rfl e6) gj
      obtain ⟨T7, m7, e7, f7, b7, hP7, w7, p7, q7⟩ := wrote_evP 1 2 rfl rfl rfl ep k0 (by rw [p5, pT]; exact k1) b6 (by omega) hP6 nb5 (by omega)
      have fT7 := Grown.step (d := d) (s := s) (m := m) (m1 := m) (k := 0) fT5 hF5' ((f6.mono fun i _ z => .inl z).trans f7)
      exact ⟨[some (.obj bx), some (.obj d), some (.obj s), some (.lst ps), some d0, none], T, [some (.obj bx), some (.obj d), some (.obj s), some (.lst ps), some d0, none], T7, rfl, es_seq (es_if_f e5 es_nx) (es_if_f (ev_not (b := true) (ev_tru e7 rfl)) es_nx), some d0, F5, m7, rfl, fT7, b7.mono (by omega), hP7, hF5', by omega, by rw [p7, p5, pT], by rw [q7, q5, qT]⟩)
  have lenv : (rngD 0 (1 + v).toNat).length ≤ 9 := by rw [rngD_len]; omega
  have f5 : Fr NoM S4 (S4 ++ [MO.lst ((beh m4.las m4.wr).map stD)]) := Fr.app
  refine ⟨S4 ++ [MO.lst ((beh m4.las m4.wr).map stD)], ?_, (b4.fr f5 id).mono (by omega), ⟨f4.trans (fr_no f5), F4, m4, hP4.fr f5 (fun _ _ z => z), hF4, by omega, p4, q4⟩⟩
  rw [callF_open rfl]
  have er : Ev (fRng1 (fCons (fOp addD (pureF (.int 1)) (fCall 2 fn__law_take (fCons (fVar 0) (fCons (pureF (.int 9)) (pureF []))))) (pureF []))) [some (.obj bx), some (.obj d), some (.obj s), some (.lst ps), none, none] S2 (rngD 0 (1 + v).toNat) S3 :=
    ev_rng1 (ev_cons (ev_op (x := .int 1) (y := .int v) ev_pure (ev_call (ev_cons (ev_var (d := .obj bx) rfl rfl) (ev_cons ev_pure ev_nil)) rfl e3) rfl) ev_nil) (by omega)
  exact fn_rt (es_seq (es_set e1) (es_seq (es_if_f e2 es_nx) (es_seq (es_for er el) (es_ret (ev_call (ev_cons (ev_var (d := .obj d) rfl rfl) (ev_cons (ev_var (d := .obj s) rfl rfl) ev_nil)) rfl (state_right_ok hP4))))))
end LW

namespace LW
open PySem FL

theorem nD_app (ns : List Nat) (k : Nat) : nD ns ++ [.int k] = nD (ns ++ [k]) := by unfold nD; rw [List.map_append]; rfl
theorem Asc.nil (n : Nat) : Asc [] n := ⟨(fun i hi => by cases hi), List.Pairwise.nil⟩
theorem Asc.add {ns : List Nat} {i : Nat} (h : Asc ns i) : Asc (ns ++ [i]) (i + 1) := ⟨fun j hj => by
  rcases List.mem_append.mp hj with q | q
  · have := h.lt j q; omega
  · have : j = i := by simpa using q
    omega, List.pairwise_append.mpr ⟨h.pw, List.pairwise_singleton _ _, fun a ha b hb => by
  have : b = i := by simpa using hb
  rw [this]
  exact h.lt a ha⟩⟩
theorem Asc.up {ns : List Nat} {i j : Nat} (h : Asc ns i) (hj : i ≤ j) : Asc ns j := ⟨fun k hk => Nat.lt_of_lt_of_le (h.lt k hk) hj, h.pw⟩
theorem Asc.range (n : Nat) : Asc (List.range n) n := ⟨fun i hi => List.mem_range.mp hi, List.pairwise_lt_range⟩
theorem rg_nD (n : Nat) : rgD 0 (n : Int) = nD (List.range n) := by
  unfold rgD nD
  rw [show ((n : Int) - 0).toNat = n by omega]
  exact List.map_congr_left fun i _ => by rw [Int.zero_add]
theorem rng_nD (n : Nat) : rngD 0 n = nD (List.range n) := by
  unfold rngD nD
  exact List.map_congr_left fun i _ => by rw [Int.zero_add]
/-- indices drawn -/
theorem draws_ok {S : List MO} {bx c n v : Nat} {env0 : Dv} (h0 : env0[0]? = some (some (.obj bx))) (hv0 : 0 < v) (hv : v < env0.length) (hb : BoxAt S bx c) (hc : c + n < 2 ^ 39) :
    ∃ ns S', lcRun (gSet v) (fTest (fOp eqA (fCall 2 fn__law_take (fCons (fVar 0) (fCons (pureF (.int 2)) (pureF [])))) (pureF (.int 0)))) (fVar v) env0 (rngD 0 n) S = some (nD ns, S') ∧ Asc ns n ∧ Fr (· = bx) S S' ∧ BoxAt S' bx (c + n) := by
  obtain ⟨ys, S', e, ns, h1, h2, h3, h4⟩ := lc_all (gx := gSet v) (tt := fTest (fOp eqA (fCall 2 fn__law_take (fCons (fVar 0) (fCons (pureF (.int 2)) (pureF [])))) (pureF (.int 0)))) (te := fVar v) (env0 := env0) (xs := rngD 0 n) (S := S)
    (fun i acc T => ∃ ns, acc = nD ns ∧ Asc ns i ∧ Fr (· = bx) S T ∧ BoxAt T bx (c + i)) ⟨[], rfl, Asc.nil 0, Fr.refl, hb⟩ (fun i d0 acc T hi ⟨ns, a1, a2, a3, a4⟩ => by
      have hin : i < n := by
        have := (List.getElem?_eq_some_iff.mp hi).1
        rw [rngD_len] at this
        exact this
      have hd : d0 = .int i := by
        rw [rng_nD] at hi
        unfold nD at hi
        rw [List.getElem?_map, List.getElem?_range hin] at hi
        exact (Option.some.inj hi).symm
      subst hd
      have g0 : (env0.set v (some (.int i)))[0]? = some (some (.obj bx)) := by rw [List.getElem?_set_ne (by omega), h0]
      obtain ⟨b, T2, e1, f1, b1⟩ := draw_ev (n := 2) g0 a4 (by omega) (by omega) (by omega)
      refine ⟨env0.set v (some (.int i)), T, rfl, ?_⟩
      cases b with
      | true => exact .inl ⟨T2, .int i, T2, e1, ev_var (List.getElem?_set_self hv) rfl, ns ++ [i], by rw [a1, nD_app], a2.add, a3.trans f1, b1⟩
      | false => exact .inr ⟨T2, e1, ns, a1, a2.up (by omega), a3.trans f1, b1⟩)
  rw [rngD_len] at h2 h4
  exact ⟨ns, S', by rw [← h1]; exact e, h2, h3, h4⟩
end LW

namespace LW
open PySem FL

def AllAsc (n : Nat) (L : List D) : Prop := ∀ z ∈ L, ∃ ns, z = .lst (nD ns) ∧ Asc ns n
theorem AllAsc.up {n k : Nat} {L : List D} (h : AllAsc n L) (hk : n ≤ k) : AllAsc k L := fun z hz => by
  obtain ⟨ns, e, a⟩ := h z hz
  exact ⟨ns, e, a.up hk⟩
theorem AllAsc.app {n : Nat} {L K : List D} (h : AllAsc n L) (h2 : AllAsc n K) : AllAsc n (L ++ K) := fun z hz => by
  rcases List.mem_append.mp hz with q | q
  · exact h z q
  · exact h2 z q
theorem AllAsc.one {n : Nat} {ns : List Nat} (h : Asc ns n) : AllAsc n [.lst (nD ns)] := fun z hz => ⟨ns, by simpa using hz, h⟩
def more (i : Nat) (z : D) : D := match z with
  | .lst xs => .lst (xs ++ [.int i])
  | z => z
theorem AllAsc.more {i : Nat} {L : List D} (h : AllAsc i L) : AllAsc (i + 1) (L.map (more i)) := fun z hz => by
  obtain ⟨w, hw, rfl⟩ := List.mem_map.mp hz
  obtain ⟨ns, rfl, a⟩ := h w hw
  exact ⟨ns ++ [i], by show D.lst (nD ns ++ [.int i]) = _; rw [nD_app], a.add⟩
theorem lists_ok {S : List MO} {bx c n : Nat} (hb : BoxAt S bx c) (hc : c + 5 * n < 2 ^ 39) (hn : n ≤ 450) :
    ∃ L S', callF fn__law_lists [.obj bx, .int n] S = some (.ok (.lst L), S') ∧ L ≠ [] ∧ L.length ≤ 16 ∧ AllAsc n L ∧ Fr (· = bx) S S' ∧ BoxAt S' bx (c + 5 * n) := by
  by_cases h4 : 4 < n
  · obtain ⟨ys, S', e, h1, h2, h3, h5⟩ := lc_all (gx := gSet 5) (tt := pureF true) (te := fLc (fRng1 (fCons (fVar 1) (pureF []))) [4] (gSet 4) (fTest (fOp eqA (fCall 2 fn__law_take (fCons (fVar 0) (fCons (pureF (.int 2)) (pureF [])))) (pureF (.int 0)))) (fVar 4)) (env0 := [some (.obj bx), some (.int n), none, none, none, none, none]) (xs := rngD 0 5) (S := S)
      (fun i acc T => acc.length = i ∧ AllAsc n acc ∧ Fr (· = bx) S T ∧ BoxAt T bx (c + i * n)) ⟨rfl, (fun z hz => by cases hz), Fr.refl, by rw [Nat.zero_mul]; exact hb⟩ (fun i d0 acc T hi ⟨a1, a2, a3, a4⟩ => by
        have hi5 : i < 5 := by
          have := (List.getElem?_eq_some_iff.mp hi).1
          rw [rngD_len] at this
          exact this
        have hm : i * n ≤ 4 * n := Nat.mul_le_mul_right _ (by omega)
        obtain ⟨ns, T2, e1, b1, b2, b3⟩ := draws_ok (v := 4) (env0 := [some (.obj bx), some (.int n), none, none, none, some d0, none]) (n := n) rfl (by omega) (by simp) a4 (by omega)
        refine ⟨[some (.obj bx), some (.int n), none, none, none, some d0, none], T, rfl, .inl ⟨T, .lst (nD ns), T2, rfl, ?_, by simp [a1], a2.app (AllAsc.one b1), a3.trans b2, b3.mono (by rw [Nat.add_mul, Nat.one_mul]; omega)⟩⟩
        have er := ev_rng1 (env := [some (.obj bx), some (.int n), none, none, none, some d0, none]) (fs := fCons (fVar 1) (pureF [])) (S := T) (S1 := T) (j := n) (ev_cons (ev_var rfl rfl) ev_nil) (by omega)
        rw [Int.toNat_natCast] at er
        exact ev_lc er (by rw [rngD_len]; omega) e1)
    have hz : ys.length = 5 := h1
    refine ⟨[.lst [], .lst (rgD 0 n), .lst [.int (n - 1)]] ++ ys, S', ?_, by simp, by simp [hz], ?_, h3, h5⟩
    · rw [callF_open rfl]
      have et : Ev (fTest (fOp gtD (fVar 1) (pureF (.int 4)))) ([.obj bx, .int n].map some ++ List.replicate 5 none) S true S := ev_test (ev_op (x := .int n) (y := .int 4) (ev_var rfl rfl) ev_pure (by show some (D.bl (decide ((4 : Int) < n))) = _; rw [decide_eq_true (by omega)]))
      exact fn_rt (es_seq_rt (es_if_t et (es_seq (es_set (ev_lc (ev_rng1 (j := 5) (ev_cons ev_pure ev_nil) (by decide)) (by decide) e)) (es_ret (ev_op (ev_lst (ev_cons (ev_lst ev_nil (by simp)) (ev_cons (ev_lstRg (n := n) (ev_var rfl rfl) (by omega)) (ev_cons (ev_lst (ev_cons (ev_op (x := .int n) (y := .int 1) (d := .int (n - 1)) (ev_var rfl rfl) ev_pure rfl) ev_nil) (by simp)) ev_nil))) (by simp)) (ev_var rfl rfl) (addLL (by simp [hz])))))))
    · refine AllAsc.app (fun z hz => ?_) h2
      simp only [List.mem_cons, List.not_mem_nil, or_false] at hz
      rcases hz with z | z | z <;> subst z
      · exact ⟨[], rfl, Asc.nil n⟩
      · exact ⟨List.range n, by rw [rg_nD], Asc.range n⟩
      · refine ⟨[n - 1], ?_, ⟨fun i hi => ?_, List.pairwise_singleton _ _⟩⟩
        rotate_left
        · have : i = n - 1 := by simpa using hi
          omega
        show D.lst [.int (n - 1)] = .lst [.int ((n - 1 : Nat) : Int)]
        rw [show ((n - 1 : Nat) : Int) = (n : Int) - 1 by omega]
  · obtain ⟨env', S', el, e4, e6, L, rfl, rfl, hl, hA, hne⟩ := loop_all (env := [some (.obj bx), some (.int n), none, some (.lst [.lst []]), none, none, none]) (S := S) (xs := rngD 0 n)
      (gx := gSet 4) (body := asgS (fOp addD (fVar 3) (lcA (fVar 3) [6] (gSet 6) (pureF true) (fOp addD (fVar 6) (fLst (fCons (fVar 4) (pureF [])))))) (gSet 3))
      (fun i env T => ∃ e4 e6 L, env = [some (.obj bx), some (.int n), none, some (.lst L), e4, none, e6] ∧ T = S ∧ L.length = 2 ^ i ∧ AllAsc i L ∧ L ≠ []) ⟨none, none, [.lst []], rfl, rfl, rfl, AllAsc.one (Asc.nil 0), by simp⟩ (fun i d0 env T hi ⟨e4, e6, L, he, hT, hl, hA, hne⟩ => by
        subst he
        subst hT
        have hin : i < n := by
          have := (List.getElem?_eq_some_iff.mp hi).1
          rw [rngD_len] at this
          exact this
        have hd : d0 = .int i := by
          rw [rng_nD] at hi
          unfold nD at hi
          rw [List.getElem?_map, List.getElem?_range hin] at hi
          exact (Option.some.inj hi).symm
        subst hd
        have hp : 2 ^ i ≤ 2 ^ 3 := Nat.pow_le_pow_right (by omega) (by omega)
        have hlen : L.length ≤ 8 := by rw [hl]; exact hp
        have ec : Ev (lcA (fVar 3) [6] (gSet 6) (pureF true) (fOp addD (fVar 6) (fLst (fCons (fVar 4) (pureF []))))) [some (.obj bx), some (.int n), none, some (.lst L), some (.int i), none, e6] T (.lst (L.map (more i))) T :=
          ev_lcA (d := .lst L) (xs := L) (ev_var rfl rfl) rfl (by omega) (fun z hz => by
            obtain ⟨ns, rfl, a⟩ := hA z hz
            refine ⟨[some (.obj bx), some (.int n), none, some (.lst L), some (.int i), none, some (.lst (nD ns))], rfl, ev_op (x := .lst (nD ns)) (y := .lst [.int i]) (ev_var rfl rfl) (ev_lst (ev_cons (ev_var rfl rfl) ev_nil) (by simp)) (addLL ?_)⟩
            have := asc_len a
            unfold nD
            rw [List.length_map]
            simp
            omega)
        exact ⟨[some (.obj bx), some (.int n), none, some (.lst L), some (.int i), none, e6], T, [some (.obj bx), some (.int n), none, some (.lst (L ++ L.map (more i))), some (.int i), none, e6], T, rfl, es_set (ev_op (x := .lst L) (ev_var rfl rfl) ec (addLL (by rw [List.length_map]; omega))), some (.int i), e6, L ++ L.map (more i), rfl, rfl, by rw [List.length_append, List.length_map, hl, Nat.pow_succ]; omega, (hA.up (by omega)).app hA.more, by simp [hne]⟩)
    rw [rngD_len] at hl hA
    have hp : 2 ^ n ≤ 2 ^ 4 := Nat.pow_le_pow_right (by omega) (by omega)
    refine ⟨L, S', ?_, hne, by rw [hl]; exact hp, hA, Fr.refl, hb.mono (by omega)⟩
    rw [callF_open rfl]
    have et : Ev (fTest (fOp gtD (fVar 1) (pureF (.int 4)))) ([.obj bx, .int n].map some ++ List.replicate 5 none) S' false S' := ev_test (ev_op (x := .int n) (y := .int 4) (ev_var rfl rfl) ev_pure (by show some (D.bl (decide ((4 : Int) < n))) = _; rw [decide_eq_false (by omega)]))
    have er := ev_rng1 (env := [some (.obj bx), some (.int n), none, some (.lst [.lst []]), none, none, none]) (fs := fCons (fVar 1) (pureF [])) (S := S') (S1 := S') (j := n) (ev_cons (ev_var rfl rfl) ev_nil) (by omega)
    rw [Int.toNat_natCast] at er
    exact fn_rt (es_seq (es_if_f et es_nx) (es_seq (es_set (ev_lst (ev_cons (ev_lst ev_nil (by simp)) ev_nil) (by simp))) (es_seq (es_for er el) (es_ret (ev_var rfl rfl)))))
end LW

namespace LW
open PySem FL

structure Mem where
  d : Nat
  s : Nat
  F : List Nat
  m : PM
def Mem.v (p : Mem) : D := .lst [.obj p.d, .obj p.s]
abbrev Apart (p q : Mem) : Prop := ∀ i ∈ p.F, i ∉ q.F
theorem Apart.symm {p q : Mem} (h : Apart p q) : Apart q p := fun i hi hj => h i hj hi
/-- pairs, apart from each other and from the box -/
structure Fam (S : List MO) (bx : Nat) (P : List Mem) : Prop where
  pr : ∀ p ∈ P, Pair S p.d p.s p.F p.m
  nb : ∀ p ∈ P, bx ∉ p.F
  ap : P.Pairwise Apart
section
variable {S S' : List MO} {bx : Nat} {P R : List Mem} {p q : Mem}
theorem Fam.fr {M : Nat → Prop} (h : Fam S bx P) (a : Fr M S S') (hM : ∀ p ∈ P, ∀ i ∈ p.F, ¬ M i) : Fam S' bx P := ⟨fun p hp => (h.pr p hp).fr a (hM p hp), h.nb, h.ap⟩
theorem Fam.frB (h : Fam S bx P) (a : Fr (· = bx) S S') : Fam S' bx P := h.fr a fun p hp i hi z => h.nb p hp (z ▸ hi)
theorem Fam.frN (h : Fam S bx P) (a : Fr NoM S S') : Fam S' bx P := h.fr a fun _ _ _ _ z => z
theorem Fam.perm (h : Fam S bx P) (e : P.Perm R) : Fam S bx R := ⟨fun p hp => h.pr p (e.mem_iff.mpr hp), fun p hp => h.nb p (e.mem_iff.mpr hp), e.pairwise h.ap fun h => h.symm⟩
/-- the first changes, what it owns stays or is new -/
theorem Fam.put (h : Fam S bx (p :: R)) (a : Fr (fun i => i = bx ∨ i ∈ p.F) S S') (hq : Pair S' q.d q.s q.F q.m) (hF : ∀ i ∈ q.F, i ∈ p.F ∨ S.length ≤ i) (hb : bx < S.length) : Fam S' bx (q :: R) := by
  have ap := List.pairwise_cons.mp h.ap
  refine ⟨fun r hr => ?_, fun r hr => ?_, List.pairwise_cons.mpr ⟨fun r hr i hi hj => ?_, ap.2⟩⟩
  · rcases List.mem_cons.mp hr with e | e
    · rw [e]; exact hq
    · refine (h.pr r (List.mem_cons_of_mem _ e)).fr a fun i hi z => ?_
      rcases z with z | z
      · exact h.nb r (List.mem_cons_of_mem _ e) (z ▸ hi)
      · exact ap.1 r e i z hi
  · rcases List.mem_cons.mp hr with e | e
    · rw [e]
      intro z
      rcases hF bx z with y | y
      · exact h.nb p List.mem_cons_self y
      · omega
    · exact h.nb r (List.mem_cons_of_mem _ e)
  · rcases hF i hi with y | y
    · exact ap.1 r hr i y hj
    · have := (h.pr r (List.mem_cons_of_mem _ hr)).lt i hj
      omega
/-- a new member -/
theorem Fam.add (h : Fam S bx P) (a : Fr (· = bx) S S') (hq : Pair S' q.d q.s q.F q.m) (hF : ∀ i ∈ q.F, S.length ≤ i) (hb : bx < S.length) : Fam S' bx (q :: P) := by
  have h' := h.frB a
  refine ⟨fun r hr => ?_, fun r hr => ?_, List.pairwise_cons.mpr ⟨fun r hr i hi hj => ?_, h.ap⟩⟩
  · rcases List.mem_cons.mp hr with e | e
    · rw [e]; exact hq
    · exact h'.pr r e
  · rcases List.mem_cons.mp hr with e | e
    · rw [e]
      intro z
      have := hF bx z
      omega
    · exact h.nb r e
  · have := (h.pr r hr).lt i hj
    have := hF i hi
    omega
end
end LW

namespace LW
open PySem FL

theorem eq_pair_nil {S : List MO} {a b : D} : eqA S (.lst [a, b]) (.lst []) = some (.bl false) := rfl
section
variable {S : List MO} {bx c : Nat} {P R : List Mem} {p : Mem} {env : Dv}
/-- one cut more -/
theorem fam_one {ns : List Nat} {b : Bool} (h : Fam S bx (p :: R)) (hb : BoxAt S bx c) (hc : c + 60 < 2 ^ 39) (as : Asc ns p.m.wr.length) :
    ∃ S' q, callF fn__law_one_right [.obj bx, .obj p.d, .obj p.s, .lst (nD ns), .bl b] S = some (.ok q.v, S') ∧ Fr (· = bx) S S' ∧ BoxAt S' bx (c + 20) ∧ Fam S' bx (p :: q :: R) ∧ q.m.wr.length ≤ 2 ∧ q.m.p = p.m.p ∧ q.m.w = p.m.w ∧ (∀ i ∈ q.F, S.length ≤ i) := by
  obtain ⟨S', d', s', F', m', e, f, b', hP, lo, wl, mp, mw⟩ := one_right_ok (b := b) hb hc (h.pr p List.mem_cons_self) (h.nb p List.mem_cons_self) as
  refine ⟨S', ⟨d', s', F', m'⟩, e, f, b', ?_, wl, mp, mw, lo⟩
  exact (h.add (q := ⟨d', s', F', m'⟩) f hP lo hb.lt).perm (List.Perm.swap _ _ _)
/-- a right member -/
theorem fam_right (h : Fam S bx P) (hp : p ∈ P) : ∃ S', callF fn__law_state_right [.obj p.d, .obj p.s] S = some (.ok (.bl true), S') ∧ Fr NoM S S' := ⟨_, state_right_ok (h.pr p hp), Fr.app⟩
theorem fam_grown (h : Fam S bx (p :: R)) (hb : BoxAt S bx c) (hc : c + 400 < 2 ^ 39) (hz : p.m.wr.length ≤ 900) :
    ∃ S' q, callF fn__law_grown [.obj bx, .obj p.d, .obj p.s] S = some (.ok (.bl true), S') ∧ q.d = p.d ∧ q.s = p.s ∧ BoxAt S' bx (c + 110) ∧ Fam S' bx (q :: R) ∧ q.m.wr.length ≤ p.m.wr.length + 9 ∧ q.m.p = p.m.p ∧ q.m.w = p.m.w ∧ Fr (fun i => i = bx ∨ i ∈ p.F) S S' := by
  obtain ⟨S', e, b', g⟩ := grown_ok hb hc (h.pr p List.mem_cons_self) (h.nb p List.mem_cons_self) hz
  obtain ⟨F', m', hP, hF, wl, mp, mw⟩ := g.ex
  exact ⟨S', ⟨p.d, p.s, F', m'⟩, e, rfl, rfl, b', h.put g.fr hP hF hb.lt, wl, mp, mw, g.fr⟩
end
end LW

namespace LW
open PySem FL

theorem ev_lcA_l {src : Fx D} {vs : List Nat} {gx : Gx} {tt : Fx Bool} {te : Fx D} {xs ys : List D} {env : Dv} {S S1 S2 : List MO} (hs : Ev src env S (.lst xs) S1) (hl : xs.length ≤ 50000) (e : lcRun gx tt te (wipeD env vs) xs S1 = some (ys, S2)) : Ev (lcA src vs gx tt te) env S (.lst ys) S2 := by
  refine ev_bind hs ?_
  unfold Ev
  simp only [hl, if_true]
  rw [e]
theorem all_true (n : Nat) (S : List MO) : allD S [.lst (List.replicate n (.bl true))] = some (.bl true) := by
  have e : List.replicate n (D.bl true) = (List.replicate n true).map fun b => D.bl b := by rw [List.map_replicate]
  show (match blsOf (List.replicate n (D.bl true)) with
    | some ns => some (D.bl (ns.all id))
    | none => none) = _
  rw [e, blsOf_map (fun b => b)]
  dsimp only
  rw [List.map_id']
  congr 2
  exact List.all_eq_true.mpr fun x hx => (List.mem_replicate.mp hx).2
theorem fam_all {S S0 : List MO} {bx v : Nat} {P : List Mem} {env : Dv} {src : Fx D} {xs : List D} (hv : v < env.length) (hs : Ev src env S0 (.lst xs) S) (hl : xs.length ≤ 50000) (h : Fam S bx P) (hx : ∀ z ∈ xs, ∃ p ∈ P, z = p.v) :
    ∃ S', Ev (fCB allD (fCons (lcA src [v] (gSet v) (pureF true) (fCall 2 fn__law_state_right (fCons (fOp getD (fVar v) (pureF (.int 0))) (fCons (fOp getD (fVar v) (pureF (.int 1))) (pureF []))))) (pureF []))) env S0 (.bl true) S' ∧ Fr NoM S S' := by
  have hw : v < (wipeD env [v]).length := by simp [wipeD, hv]
  obtain ⟨ys, S', e, h1, h2⟩ := lc_all (gx := gSet v) (tt := pureF true) (te := fCall 2 fn__law_state_right (fCons (fOp getD (fVar v) (pureF (.int 0))) (fCons (fOp getD (fVar v) (pureF (.int 1))) (pureF [])))) (env0 := wipeD env [v]) (xs := xs) (S := S)
    (fun i acc T => acc = List.replicate i (.bl true) ∧ Fr NoM S T) ⟨rfl, Fr.refl⟩ (fun i d0 acc T hi ⟨a1, a2⟩ => by
      obtain ⟨p, hp, rfl⟩ := hx d0 (List.mem_of_getElem? hi)
      obtain ⟨T2, e1, f1⟩ := fam_right (h.frN a2) hp
      have g : ((wipeD env [v]).set v (some p.v))[v]? = some (some p.v) := List.getElem?_set_self hw
      exact ⟨(wipeD env [v]).set v (some p.v), T, rfl, .inl ⟨T, .bl true, T2, rfl, ev_call (ev_cons (ev_op (x := p.v) (y := .int 0) (ev_var g rfl) ev_pure rfl) (ev_cons (ev_op (x := p.v) (y := .int 1) (ev_var g rfl) ev_pure rfl) ev_nil)) rfl e1, by rw [a1, List.replicate_succ'], a2.trans f1⟩⟩)
  exact ⟨S', ev_cb (ev_cons (ev_lcA_l hs hl e) ev_nil) (by rw [h1]; exact all_true _ _), h2⟩
end LW

namespace LW
open PySem FL

/-- the pairs found so far -/
structure Fnd (T : List MO) (bx k : Nat) (P R : List Mem) (xs : List D) : Prop where
  at_ : T[k]? = some (MO.lst xs)
  fam : Fam T bx P
  kb : k ≠ bx
  kF : ∀ r ∈ P, k ∉ r.F
  sub : ∀ r ∈ R, r ∈ P
  its : ∀ z ∈ xs, ∃ q ∈ P.tail, z = q.v ∧ q.m.wr.length ≤ 2
abbrev cutsB : Sx := seqS (asgS (fCall 5 fn__law_one_right (fCons (fVar 0) (fCons (fVar 3) (fCons (fVar 4) (fCons (fVar 8) (fCons (fVar 1) (pureF []))))))) (gSet 9)) (seqS (ifS (fTest (fOp eqA (fVar 9) (fLst (pureF [])))) (retS (pureF (.bl false))) fNx) (seqS (dropS (fMt appO (fVar 7) (fCons (fVar 9) (pureF [])))) (asgS (fNotV (fVar 1)) (gSet 1))))
theorem cuts_loop {S : List MO} {bx c k : Nat} {p : Mem} {R : List Mem} {L : List D} {b : Bool} {e2 e5 e6 e80 e90 : Option D} (h : Fnd S bx k (p :: R) (p :: R) []) (hb : BoxAt S bx c) (hc : c + 600 < 2 ^ 39) (hL : L.length ≤ 16) (hA : AllAsc p.m.wr.length L) :
    ∃ env' S' b' e8 e9 R' xs, EvS (loopS (gSet 8) cutsB L) [some (.obj bx), some (.bl b), e2, some (.obj p.d), some (.obj p.s), e5, e6, some (.obj k), e80, e90] S .nx env' S' ∧ env' = [some (.obj bx), some (.bl b'), e2, some (.obj p.d), some (.obj p.s), e5, e6, some (.obj k), e8, e9] ∧ Fnd S' bx k (p :: R') (p :: R) xs ∧ xs.length = L.length ∧ BoxAt S' bx (c + 20 * L.length) := by
  obtain ⟨env', S', el, b', e8, e9, R', xs, he, hF, hx, hB⟩ := loop_all (env := [some (.obj bx), some (.bl b), e2, some (.obj p.d), some (.obj p.s), e5, e6, some (.obj k), e80, e90]) (S := S) (xs := L) (gx := gSet 8) (body := cutsB)
    (fun i env T => ∃ b' e8 e9 R' xs, env = [some (.obj bx), some (.bl b'), e2, some (.obj p.d), some (.obj p.s), e5, e6, some (.obj k), e8, e9] ∧ Fnd T bx k (p :: R') (p :: R) xs ∧ xs.length = i ∧ BoxAt T bx (c + 20 * i)) ⟨b, e80, e90, R, [], rfl, h, rfl, hb⟩ (fun i d0 env T hi ⟨b', e8, e9, R', xs, he, hF, hx, hB⟩ => by
      subst he
      have hil := (List.getElem?_eq_some_iff.mp hi).1
      obtain ⟨ns, rfl, as⟩ := hA d0 (List.mem_of_getElem? hi)
      obtain ⟨T2, q, e1, f1, b1, fm, ql, _, _, qlo⟩ := fam_one (b := b') hF.fam hB (by omega) as
      have g2 := f1.get hF.at_ hF.kb
      have klt := get_lt hF.at_
      have hv : viewL T2 (.obj k) = some xs := by
        unfold viewL
        dsimp only
        rw [g2]
      have fk : Fr (· = k) T2 (T2.set k (.lst (xs ++ [q.v]))) := Fr.set
      have kN : ∀ r ∈ p :: q :: R', k ∉ r.F := fun r hr => by
        rcases List.mem_cons.mp hr with e | e
        · exact hF.kF r (by rw [e]; exact List.mem_cons_self)
        · rcases List.mem_cons.mp e with e | e
          · intro z
            have := qlo k (e ▸ z)
            omega
          · exact hF.kF r (List.mem_cons_of_mem _ e)
      refine ⟨[some (.obj bx), some (.bl b'), e2, some (.obj p.d), some (.obj p.s), e5, e6, some (.obj k), some (.lst (nD ns)), e9], T, [some (.obj bx), some (.bl (!b')), e2, some (.obj p.d), some (.obj p.s), e5, e6, some (.obj k), some (.lst (nD ns)), some q.v], T2.set k (.lst (xs ++ [q.v])), rfl, es_seq (es_set (ev_call (ev_cons (ev_var (d := .obj bx) rfl rfl) (ev_cons (ev_var (d := .obj p.d) rfl rfl) (ev_cons (ev_var (d := .obj p.s) rfl rfl) (ev_cons (ev_var (d := .lst (nD ns)) rfl rfl) (ev_cons (ev_var (d := .bl b') rfl rfl) ev_nil))))) rfl e1)) (es_seq (es_if_f (ev_test (ev_op (x := q.v) (y := .lst []) (ev_var rfl rfl) (ev_lst ev_nil (by simp)) eq_pair_nil)) es_nx) (es_seq (es_drop (ev_mt (ev_var (d := .obj k) rfl rfl) hv (ev_cons (ev_var (d := q.v) rfl rfl) ev_nil) g2 (if_pos (by omega)))) (es_set (ev_notV (b := b') (ev_var rfl rfl))))), !b', _, _, q :: R', xs ++ [q.v], rfl, ⟨set_get g2, fm.fr fk fun r hr i hi z => kN r hr (z ▸ hi), hF.kb, kN, fun r hr => ?_, fun z hz => ?_⟩, by simp [hx], (b1.fr fk fun z => hF.kb z.symm).mono (by omega)⟩
      · rcases List.mem_cons.mp (hF.sub r hr) with e | e
        · rw [e]; exact List.mem_cons_self
        · exact List.mem_cons_of_mem _ (List.mem_cons_of_mem _ e)
      · rcases List.mem_append.mp hz with y | y
        · obtain ⟨r, hr, e, l⟩ := hF.its z y
          exact ⟨r, List.mem_cons_of_mem _ hr, e, l⟩
        · exact ⟨q, List.mem_cons_self, by simpa using y, ql⟩)
  exact ⟨env', S', b', e8, e9, R', xs, el, he, hF, hx, hB⟩
end LW

namespace LW
open PySem FL

def cLast : List Nat := [108, 97, 115, 116]
def cNot : List Nat := [110, 111, 116, 32, 100, 111, 110, 101]
theorem last_st : stD cLast = .str "last" := congrArg D.str (show SX.S cLast = Str.ofString "last" by decide +kernel)
theorem not_st : stD cNot = .str "not done" := congrArg D.str (show SX.S cNot = Str.ofString "not done" by decide +kernel)
theorem last_ok : okT cLast := ⟨by decide, by decide⟩
theorem not_ok : okT cNot := ⟨by decide, by decide⟩
end LW

namespace LW
open PySem FL

section
variable {S : List MO} {bx c : Nat} {P R : List Mem} {p : Mem}
theorem fam_wrote {k : Nat} {cs : List Nat} (h : Fam S bx (p :: R)) (hb : bx < S.length) (hk : k < p.m.p) (hc : okT cs) (hw : cs.length ≤ p.m.w) (hz : p.m.wr.length < 1000) :
    ∃ S', callF fn__law_wrote [.obj p.d, .obj p.s, .int k, stD cs] S = some (.ok (.bl true), S') ∧ Fr (· ∈ p.F) S S' ∧ Fam S' bx (⟨p.d, p.s, p.F, wroteM p.m k cs⟩ :: R) := by
  obtain ⟨S', e, f, hP⟩ := wrote_ok (h.pr p List.mem_cons_self) hk hc hw hz
  exact ⟨S', e, f, h.put (f.mono fun i _ z => .inr z) hP (fun i hi => .inl hi) hb⟩
theorem fam_stop (n : Nat) (h : Fam S bx (p :: R)) (hb : bx < S.length) :
    ∃ S', callF fn__law_stopped [.obj p.d, .obj p.s, .int n] S = some (.ok (.bl true), S') ∧ Fr (· ∈ p.F) S S' ∧ Fam S' bx (⟨p.d, p.s, p.F, { p.m with lf := some n }⟩ :: R) := by
  obtain ⟨S', e, f, hP⟩ := stopped_ok (h.pr p List.mem_cons_self) n
  exact ⟨S', e, f, h.put (f.mono fun i _ z => .inr z) hP (fun i hi => .inl hi) hb⟩
theorem fam_settled (h : Fam S bx (p :: R)) (hb : bx < S.length) :
    ∃ S' q, callF fn__law_settled [.obj p.d, .obj p.s] S = some (.ok (.bl true), S') ∧ Fr (· ∈ p.F) S S' ∧ q.d = p.d ∧ q.s = p.s ∧ q.m = stlM p.m ∧ Fam S' bx (q :: R) := by
  obtain ⟨S', e, st⟩ := settled_ok (h.pr p List.mem_cons_self)
  obtain ⟨F', hP, hF⟩ := st.ex
  exact ⟨S', ⟨p.d, p.s, F', stlM p.m⟩, e, st.fr, rfl, rfl, rfl, h.put (st.fr.mono fun i _ z => .inr z) hP hF hb⟩
end
end LW

namespace LW
open PySem FL

abbrev oneX (e : Fx D) : Fx Bool := fTest (fOp eqA (fCall 5 fn__law_one_right (fCons (fVar 0) (fCons (fVar 3) (fCons (fVar 4) (fCons e (fCons (fVar 1) (pureF []))))))) (fLst (pureF [])))
section
variable {S S1 : List MO} {bx c : Nat} {P R : List Mem} {p : Mem} {env : Dv} {b : Bool}
/-- one cut more, as a test -/
theorem one_ev {e : Fx D} {ns : List Nat} (h0 : env[0]? = some (some (.obj bx))) (h1 : env[1]? = some (some (.bl b))) (h3 : env[3]? = some (some (.obj p.d))) (h4 : env[4]? = some (some (.obj p.s))) (he : Ev e env S (.lst (nD ns)) S) (h : Fam S bx (p :: R)) (hb : BoxAt S bx c) (hc : c + 60 < 2 ^ 39) (as : Asc ns p.m.wr.length) :
    ∃ S' q, Ev (oneX e) env S false S' ∧ Fr (· = bx) S S' ∧ BoxAt S' bx (c + 20) ∧ Fam S' bx (p :: q :: R) ∧ (∀ i ∈ q.F, S.length ≤ i) := by
  obtain ⟨S', q, e1, f1, b1, fm, _, _, _, lo⟩ := fam_one (b := b) h hb hc as
  exact ⟨S', q, ev_test (ev_op (x := q.v) (y := .lst []) (ev_call (ev_cons (ev_var h0 rfl) (ev_cons (ev_var h3 rfl) (ev_cons (ev_var h4 rfl) (ev_cons he (ev_cons (ev_var h1 rfl) ev_nil))))) rfl e1) (ev_lst ev_nil (by simp)) eq_pair_nil), f1, b1, fm, lo⟩
end
end LW

namespace LW
open PySem FL

section
variable {S : List MO} {bx c : Nat} {P R : List Mem} {p : Mem} {env : Dv}
theorem stop_ev (h3 : env[3]? = some (some (.obj p.d))) (h4 : env[4]? = some (some (.obj p.s))) (h : Fam S bx (p :: R)) (hb : bx < S.length) :
    ∃ S', Ev (fNot (fTru (fCall 3 fn__law_stopped (fCons (fVar 3) (fCons (fVar 4) (fCons (pureF (.int 1)) (pureF []))))))) env S false S' ∧ Fr (· ∈ p.F) S S' ∧ Fam S' bx (⟨p.d, p.s, p.F, { p.m with lf := some 1 }⟩ :: R) := by
  obtain ⟨S', e, f, fm⟩ := fam_stop 1 h hb
  exact ⟨S', ev_not (b := true) (ev_tru (d := .bl true) (ev_call (ev_cons (ev_var h3 rfl) (ev_cons (ev_var h4 rfl) (ev_cons ev_pure ev_nil))) rfl e) rfl), f, fm⟩
theorem write_ev {k : Nat} {cs : List Nat} {z : Str} (hz : stD cs = .str z) (h3 : env[3]? = some (some (.obj p.d))) (h4 : env[4]? = some (some (.obj p.s))) (h : Fam S bx (p :: R)) (hb : bx < S.length) (hk : k < p.m.p) (hc : okT cs) (hw : cs.length ≤ p.m.w) (hl : p.m.wr.length < 1000) :
    ∃ S', Ev (fNot (fTru (fCall 4 fn__law_wrote (fCons (fVar 3) (fCons (fVar 4) (fCons (pureF (.int k)) (fCons (pureF (.str z)) (pureF [])))))))) env S false S' ∧ Fr (· ∈ p.F) S S' ∧ Fam S' bx (⟨p.d, p.s, p.F, wroteM p.m k cs⟩ :: R) := by
  obtain ⟨S', e, f, fm⟩ := fam_wrote h hb hk hc hw hl
  rw [hz] at e
  exact ⟨S', ev_not (b := true) (ev_tru (d := .bl true) (ev_call (ev_cons (ev_var h3 rfl) (ev_cons (ev_var h4 rfl) (ev_cons ev_pure (ev_cons ev_pure ev_nil)))) rfl e) rfl), f, fm⟩
end
end LW

namespace LW
open PySem FL

section
variable {T T' : List MO} {bx k c : Nat} {R : List Mem} {p p' q : Mem} {xs : List D}
/-- what stands in a turn: the list found, the main pair p, the others R -/
structure Tn (T : List MO) (bx k : Nat) (p : Mem) (R : List Mem) (xs : List D) : Prop where
  at_ : T[k]? = some (MO.lst xs)
  fam : Fam T bx (p :: R)
  kb : k ≠ bx
  kF : ∀ r ∈ p :: R, k ∉ r.F
  its : ∀ z ∈ xs, ∃ q ∈ R, z = q.v ∧ q.m.wr.length ≤ 2
theorem Fnd.tn {P Z : List Mem} (h : Fnd T bx k (p :: R) Z xs) : Tn T bx k p R xs := ⟨h.at_, h.fam, h.kb, h.kF, h.its⟩
theorem Tn.main (h : Tn T bx k p R xs) (f : Fr (· ∈ p.F) T T') (fm : Fam T' bx (p' :: R)) (e : p'.F = p.F) : Tn T' bx k p' R xs :=
  ⟨f.get h.at_ (h.kF p List.mem_cons_self), fm, h.kb, fun r hr => by
    rcases List.mem_cons.mp hr with z | z
    · rw [z, e]; exact h.kF p List.mem_cons_self
    · exact h.kF r (List.mem_cons_of_mem _ z), h.its⟩
theorem Tn.more (h : Tn T bx k p R xs) (f : Fr (· = bx) T T') (fm : Fam T' bx (p :: q :: R)) (lo : ∀ i ∈ q.F, T.length ≤ i) : Tn T' bx k p (q :: R) xs :=
  ⟨f.get h.at_ h.kb, fm, h.kb, fun r hr => by
    rcases List.mem_cons.mp hr with z | z
    · rw [z]; exact h.kF p List.mem_cons_self
    · rcases List.mem_cons.mp z with y | y
      · intro w
        have := lo k (y ▸ w)
        have := get_lt h.at_
        omega
      · exact h.kF r (List.mem_cons_of_mem _ y), fun z hz => by
    obtain ⟨r, hr, e⟩ := h.its z hz
    exact ⟨r, List.mem_cons_of_mem _ hr, e⟩⟩
end
end LW

namespace LW
open PySem FL

theorem rgB {n : Nat} (h : n ≤ 902) : -1000000 < (n : Int) ∧ (n : Int) ≤ 50000 := by omega
abbrev i5 : Sx := ifS (fOr (fNot (fTru (fCall 3 fn__law_stopped (fCons (fVar 3) (fCons (fVar 4) (fCons (pureF (.int 1)) (pureF []))))))) (oneX (fLst (pureF [])))) (retS (pureF (.bl false))) fNx
abbrev i6 : Sx := ifS (fOr (fNot (fTru (fCall 4 fn__law_wrote (fCons (fVar 3) (fCons (fVar 4) (fCons (pureF (.int 0)) (fCons (pureF (.str "last")) (pureF [])))))))) (fNot (fTru (fCall 4 fn__law_wrote (fCons (fVar 3) (fCons (fVar 4) (fCons (pureF (.int 1)) (fCons (pureF (.str "not done")) (pureF []))))))))) (retS (pureF (.bl false))) fNx
abbrev i7 : Sx := ifS (oneX (fLstRg (fCB lenD (fCons (fOp getD (fVar 4) (pureF (.int 3))) (pureF []))))) (retS (pureF (.bl false))) fNx
theorem tail_ok {T : List MO} {bx k c : Nat} {R : List Mem} {p : Mem} {xs : List D} {env : Dv} {b : Bool} (h0 : env[0]? = some (some (.obj bx))) (h1 : env[1]? = some (some (.bl b))) (h3 : env[3]? = some (some (.obj p.d))) (h4 : env[4]? = some (some (.obj p.s))) (h : Tn T bx k p R xs) (hb : BoxAt T bx c) (hc : c + 200 < 2 ^ 39) (hl : p.m.wr.length ≤ 900) :
    ∃ T1 T2 T3 p' R', EvS i5 env T .nx env T1 ∧ EvS i6 env T1 .nx env T2 ∧ EvS i7 env T2 .nx env T3 ∧ Tn T3 bx k p' R' xs ∧ p'.d = p.d ∧ p'.s = p.s ∧ (∀ r ∈ R, r ∈ R') ∧ BoxAt T3 bx (c + 40) := by
  have ok := (h.fam.pr p List.mem_cons_self).ok
  have p1 := ok.p1
  have w1 := ok.w1
  have nb := h.fam.nb p List.mem_cons_self
  obtain ⟨A1, e1, f1, m1⟩ := stop_ev h3 h4 h.fam hb.lt
  have t1 := h.main f1 m1 rfl
  have b1 := hb.fr f1 nb
  obtain ⟨A2, q2, e2, f2, b2, m2, lo2⟩ := one_ev (p := ⟨p.d, p.s, p.F, { p.m with lf := some 1 }⟩) (e := fLst (pureF [])) (ns := []) h0 h1 h3 h4 (ev_lst (ds := []) ev_nil (by decide)) t1.fam b1 (by omega) (Asc.nil _)
  have t2 := t1.more f2 m2 lo2
  obtain ⟨A3, e3, f3, m3⟩ := write_ev (env := env) (p := ⟨p.d, p.s, p.F, { p.m with lf := some 1 }⟩) (k := 0) last_st h3 h4 t2.fam b2.lt (by show 0 < p.m.p; omega) last_ok (by show cLast.length ≤ p.m.w; have : cLast.length = 4 := rfl; omega) (by show p.m.wr.length < 1000; omega)
  have t3 := t2.main f3 m3 rfl
  have b3 := b2.fr f3 nb
  obtain ⟨l3, pp3, ww3⟩ := wroteM_len { p.m with lf := some 1 } 0 cLast
  have l3' : (wroteM { p.m with lf := some 1 } 0 cLast).wr.length ≤ p.m.wr.length + 1 := l3
  obtain ⟨A4, e4, f4, m4⟩ := write_ev (env := env) (p := ⟨p.d, p.s, p.F, wroteM { p.m with lf := some 1 } 0 cLast⟩) (k := 1) not_st h3 h4 t3.fam b3.lt (by show 1 < (wroteM _ _ _).p; rw [pp3]; show 1 < p.m.p; omega) not_ok (by show cNot.length ≤ (wroteM _ _ _).w; rw [ww3]; show cNot.length ≤ p.m.w; have : cNot.length = 8 := rfl; omega) (by show (wroteM { p.m with lf := some 1 } 0 cLast).wr.length < 1000; exact Nat.lt_of_le_of_lt l3' (by omega))
  have t4 := t3.main f4 m4 rfl
  have b4 := b3.fr f4 nb
  have hP4 := t4.fam.pr _ List.mem_cons_self
  obtain ⟨l, t, u, x, y, eF, nd, hd, hs⟩ := hP4.ex
  have el : (wroteM (wroteM { p.m with lf := some 1 } 0 cLast) 1 cNot).wr.length ≤ p.m.wr.length + 2 := Nat.le_trans (wroteM_len (wroteM { p.m with lf := some 1 } 0 cLast) 1 cNot).1 (Nat.succ_le_succ l3')
  have er : Ev (fLstRg (fCB lenD (fCons (fOp getD (fVar 4) (pureF (.int 3))) (pureF [])))) env A4 (.lst (nD (List.range (wroteM (wroteM { p.m with lf := some 1 } 0 cLast) 1 cNot).wr.length))) A4 := by
    rw [← rg_nD]
    exact ev_lstRg (ev_cb (ev_cons (ev_op (x := .obj p.s) (y := .int 3) (ev_var h4 rfl) ev_pure (by rw [getO hs.o]; rfl)) ev_nil) (by rw [lenD_of (LT.obj hs.y).v rfl, List.length_map])) (rgB (Nat.le_trans el (by omega)))
  obtain ⟨A5, q5, e5, f5, b5, m5, lo5⟩ := one_ev (p := ⟨p.d, p.s, p.F, wroteM (wroteM { p.m with lf := some 1 } 0 cLast) 1 cNot⟩) h0 h1 h3 h4 er t4.fam b4 (by omega) (Asc.range _)
  exact ⟨A2, A4, A5, _, q5 :: q2 :: R, es_if_f (ev_or_f e1 e2) es_nx, es_if_f (ev_or_f e3 e4) es_nx, es_if_f e5 es_nx, t4.more f5 m5 lo5, rfl, rfl, fun r hr => List.mem_cons_of_mem _ (List.mem_cons_of_mem _ hr), b5.mono (by omega)⟩
end LW

namespace LW
open PySem FL

abbrev o1 : Sx := asgS (fOp addD (fSlice (fVar 5) (fInt (fUn negD (pureF (.int 4)))) (pureF none)) (fLst (fCons (fLst (fCons (fVar 3) (fCons (fVar 4) (pureF [])))) (fCons (fOp getD (fVar 7) (pureF (.int 0))) (pureF []))))) (gSet 5)
abbrev o2 : Sx := asgS (fOp getD (fVar 7) (fCall 2 fn__law_take (fCons (fVar 0) (fCons (fCB lenD (fCons (fVar 7) (pureF []))) (pureF []))))) (gSeqG 2 (gConss (gSet 3) (gConss (gSet 4) gNils)))
abbrev allX (src : Fx D) : Fx D := fCB allD (fCons (lcA src [9] (gSet 9) (pureF true) (fCall 2 fn__law_state_right (fCons (fOp getD (fVar 9) (pureF (.int 0))) (fCons (fOp getD (fVar 9) (pureF (.int 1))) (pureF []))))) (pureF []))
abbrev o3 : Sx := ifS (fNot (fTru (allX (fOp addD (fVar 7) (fVar 5))))) (retS (pureF (.bl false))) fNx
theorem others_ok {T : List MO} {k : Nat} {p : Mem} {xs ys : List D} {z0 : D} {env : Dv} (h3 : env[3]? = some (some (.obj p.d))) (h4 : env[4]? = some (some (.obj p.s))) (h5 : env[5]? = some (some (.lst ys))) (h7 : env[7]? = some (some (.obj k))) (hk : T[k]? = some (MO.lst xs)) (hz : xs[0]? = some z0) (hy : ys.length ≤ 1000) :
    EvS o1 env T .nx (env.set 5 (some (.lst (cutA ys (some (-4)) none ++ [p.v, z0])))) T := by
  have l := cutA_len ys (some (-4)) none
  exact es_set (ev_op (x := .lst (cutA ys (some (-4)) none)) (y := .lst [p.v, z0]) (ev_slice (x := .lst ys) (l := some (-4)) (u := none) (ev_var h5 rfl) (ev_int (ev_un (x := .int 4) ev_pure rfl)) ev_pure rfl)
    (ev_lst (ev_cons (ev_lst (ev_cons (ev_var h3 rfl) (ev_cons (ev_var h4 rfl) ev_nil)) (by simp)) (ev_cons (ev_op (x := .obj k) (y := .int 0) (ev_var h7 rfl) ev_pure (by rw [getO hk]; exact (atI_nat (i := 0)).trans hz)) ev_nil)) (by simp)) (addLL (by simp; omega)))
theorem next_ok {T : List MO} {bx k c : Nat} {R : List Mem} {p : Mem} {xs : List D} {env : Dv} (h0 : env[0]? = some (some (.obj bx))) (h7 : env[7]? = some (some (.obj k))) (h : Tn T bx k p R xs) (hb : BoxAt T bx c) (hc : c < 2 ^ 39) (hx : 0 < xs.length) (hx2 : xs.length ≤ 1000) :
    ∃ q T', EvS o2 env T .nx ((env.set 3 (some (.obj q.d))).set 4 (some (.obj q.s))) T' ∧ q ∈ R ∧ q.m.wr.length ≤ 2 ∧ Fr (· = bx) T T' ∧ BoxAt T' bx (c + 1) := by
  obtain ⟨j, T', e, j0, j1, f, b⟩ := take_ok (m := xs.length) hb hc (by omega) (by omega)
  have hj : j.toNat < xs.length := by omega
  obtain ⟨q, hq, e2, ql⟩ := h.its xs[j.toNat] (List.getElem_mem hj)
  refine ⟨q, T', es_asg (d := q.v) (ev_op (x := .obj k) (y := .int j) (ev_var h7 rfl) (ev_call (ev_cons (ev_var h0 rfl) (ev_cons (ev_cb (ev_cons (ev_var h7 rfl) ev_nil) (by rw [lenD_of (LT.obj h.at_).v rfl])) ev_nil)) rfl e) ?_) rfl, hq, ql, f, b⟩
  rw [getO (f.get h.at_ h.kb), ← Int.toNat_of_nonneg j0, atI_nat, List.getElem?_eq_getElem hj, e2]
theorem addOL {S : List MO} {n : Nat} {xs ys : List D} (h : S[n]? = some (MO.lst xs)) (hl : xs.length + ys.length ≤ 100000) : addD S (.obj n) (.lst ys) = some (.lst (xs ++ ys)) := by
  unfold addD
  dsimp only
  rw [viewM_o h]
  exact if_pos hl
theorem all_ok {T : List MO} {bx k : Nat} {P : List Mem} {xs ys : List D} {env : Dv} (hv : 9 < env.length) (h5 : env[5]? = some (some (.lst ys))) (h7 : env[7]? = some (some (.obj k))) (hk : T[k]? = some (MO.lst xs)) (h : Fam T bx P) (hx : ∀ z ∈ xs, ∃ p ∈ P, z = p.v) (hy : ∀ z ∈ ys, ∃ p ∈ P, z = p.v) (lx : xs.length ≤ 1000) (ly : ys.length ≤ 1000) :
    ∃ T', EvS o3 env T .nx env T' ∧ Fr NoM T T' := by
  obtain ⟨T', e, f⟩ := fam_all (v := 9) (env := env) (src := fOp addD (fVar 7) (fVar 5)) hv (ev_op (x := .obj k) (y := .lst ys) (ev_var h7 rfl) (ev_var h5 rfl) (addOL hk (by omega))) (by simp; omega) h (fun z hz => by
    rcases List.mem_append.mp hz with w | w
    · exact hx z w
    · exact hy z w)
  exact ⟨T', es_if_f (ev_not (b := true) (ev_tru (d := .bl true) e rfl)) es_nx, f⟩
theorem cutA_mem {α : Type} {xs : List α} {lo hi : Option Int} {z : α} (h : z ∈ cutA xs lo hi) : z ∈ xs := List.mem_of_mem_drop (List.mem_of_mem_take h)
end LW

namespace LW
open PySem FL

abbrev i1 : Sx := ifS (fNot (fTru (fCall 3 fn__law_grown (fCons (fVar 0) (fCons (fVar 3) (fCons (fVar 4) (pureF []))))))) (retS (pureF (.bl false))) fNx
abbrev i2 : Sx := ifS (fAnd (fTest (fOp eqA (fOp modD (fVar 6) (pureF (.int 2))) (pureF (.int 0)))) (fNot (fTru (fCall 4 fn__law_refused_right (fCons (fVar 0) (fCons (fVar 3) (fCons (fVar 4) (fCons (fVar 1) (pureF []))))))))) (retS (pureF (.bl false))) fNx
abbrev i3 : Sx := asgS (fLstO (pureF [])) (gSet 7)
abbrev i4 : Sx := forA (fCall 2 fn__law_lists (fCons (fVar 0) (fCons (fCB lenD (fCons (fOp getD (fVar 4) (pureF (.int 3))) (pureF []))) (pureF [])))) (gSet 8) cutsB
abbrev turnB : Sx := seqS i1 (seqS i2 (seqS i3 (seqS i4 (seqS i5 (seqS i6 (seqS i7 (seqS o1 (seqS o2 o3))))))))
/-- the environment of a chain -/
abbrev envC (bx : Nat) (b : Bool) (e2 : Option D) (d s : Nat) (ys : List D) (e6 e7 e8 e9 : Option D) : Dv := [some (.obj bx), some (.bl b), e2, some (.obj d), some (.obj s), some (.lst ys), e6, e7, e8, e9]
theorem refuse_ev {T : List MO} {bx t : Nat} {R : List Mem} {p : Mem} {env : Dv} {b : Bool} (h0 : env[0]? = some (some (.obj bx))) (h1 : env[1]? = some (some (.bl b))) (h3 : env[3]? = some (some (.obj p.d))) (h4 : env[4]? = some (some (.obj p.s))) (h6 : env[6]? = some (some (.int t))) (h : Fam T bx (p :: R)) (hl : p.m.wr.length ≤ 450) :
    ∃ T', EvS i2 env T .nx env T' ∧ Fr NoM T T' := by
  have et : Ev (fTest (fOp eqA (fOp modD (fVar 6) (pureF (.int 2))) (pureF (.int 0)))) env T (decide ((t : Int) % 2 = 0)) T := ev_test (ev_op (x := .int ((t : Int) % 2)) (y := .int 0) (ev_op (x := .int t) (y := .int 2) (ev_var h6 rfl) ev_pure (mod_i _ _ (by omega))) ev_pure rfl)
  by_cases q : (t : Int) % 2 = 0
  · rw [decide_eq_true q] at et
    obtain ⟨T', e, f⟩ := refused_ok (b0 := bx) (b := b) (h.pr p List.mem_cons_self) hl
    exact ⟨T', es_if_f (ev_and_t et (ev_not (b := true) (ev_tru (d := .bl true) (ev_call (ev_cons (ev_var h0 rfl) (ev_cons (ev_var h3 rfl) (ev_cons (ev_var h4 rfl) (ev_cons (ev_var h1 rfl) ev_nil)))) rfl e) rfl))) es_nx, f⟩
  · rw [decide_eq_false q] at et
    exact ⟨T, es_if_f (ev_and_f et) es_nx, Fr.refl⟩
theorem turn_ok {T : List MO} {bx c t : Nat} {R : List Mem} {p : Mem} {ys : List D} {b : Bool} {e2 e7 e8 e9 : Option D} (h : Fam T bx (p :: R)) (hl : p.m.wr.length ≤ 2) (hb : BoxAt T bx c) (hc : c + 2000 < 2 ^ 39) (hy : ∀ z ∈ ys, ∃ q ∈ p :: R, z = q.v) (ly : ys.length ≤ 900) :
    ∃ b' ys' e7' e8' e9' p' R' T', EvS turnB (envC bx b e2 p.d p.s ys (some (.int t)) e7 e8 e9) T .nx (envC bx b' e2 p'.d p'.s ys' (some (.int t)) e7' e8' e9') T' ∧ Fam T' bx (p' :: R') ∧ p'.m.wr.length ≤ 2 ∧ BoxAt T' bx (c + 1000) ∧ (∀ z ∈ ys', ∃ q ∈ p' :: R', z = q.v) ∧ ys'.length ≤ ys.length + 2 := by
  obtain ⟨T1, p1, e1, d1, s1, b1, m1, l1, pp1, pw1, f1⟩ := fam_grown h hb (by omega) (by omega)
  have v1 : p1.v = p.v := by unfold Mem.v; rw [d1, s1]
  have hy1 : ∀ z ∈ ys, ∃ q ∈ p1 :: R, z = q.v := fun z hz => by
    obtain ⟨q, hq, e⟩ := hy z hz
    rcases List.mem_cons.mp hq with w | w
    · exact ⟨p1, List.mem_cons_self, by rw [v1, e, w]⟩
    · exact ⟨q, List.mem_cons_of_mem _ w, e⟩
  rw [← d1, ← s1] at e1
  rw [← d1, ← s1]
  have st1 : EvS i1 (envC bx b e2 p1.d p1.s ys (some (.int t)) e7 e8 e9) T .nx (envC bx b e2 p1.d p1.s ys (some (.int t)) e7 e8 e9) T1 := es_if_f (ev_not (b := true) (ev_tru (d := .bl true) (ev_call (ev_cons (ev_var rfl rfl) (ev_cons (ev_var rfl rfl) (ev_cons (ev_var rfl rfl) ev_nil))) rfl e1) rfl)) es_nx
  obtain ⟨T2, st2, f2⟩ := refuse_ev (t := t) (b := b) (env := envC bx b e2 p1.d p1.s ys (some (.int t)) e7 e8 e9) rfl rfl rfl rfl rfl m1 (by omega)
  have m2 := m1.frN f2
  have b2 := b1.fr f2 id
  have f3 : Fr NoM T2 (T2 ++ [MO.lst []]) := Fr.app
  have m3 := m2.frN f3
  have b3 := b2.fr f3 id
  have st3 : EvS i3 (envC bx b e2 p1.d p1.s ys (some (.int t)) e7 e8 e9) T2 .nx (envC bx b e2 p1.d p1.s ys (some (.int t)) (some (.obj T2.length)) e8 e9) (T2 ++ [MO.lst []]) := es_set (ev_lstO ev_nil (by decide))
  obtain ⟨L, T4, e4, ne, l16, aL, f4, b4⟩ := lists_ok (n := p1.m.wr.length) b3 (by omega) (by omega)
  have m4 := m3.frB f4
  have blt := b2.lt
  have hF : Fnd T4 bx T2.length (p1 :: R) (p1 :: R) [] := ⟨f4.get app_get (by omega), m4, by omega, fun r hr z => by
    have := (m2.pr r hr).lt _ z
    omega, fun r hr => hr, fun z hz => by cases hz⟩
  obtain ⟨env5, T5, b5', e8', e9', R5, xs, el, he, hF5, hx5, b5⟩ := cuts_loop (L := L) (b := b) (e2 := e2) (e5 := some (.lst ys)) (e6 := some (.int t)) (e80 := e8) (e90 := e9) hF b4 (by omega) l16 aL
  subst he
  obtain ⟨l, tt, u, x, y, eF, nd, hd, hs⟩ := (m3.pr p1 List.mem_cons_self).ex
  have st4 : EvS i4 (envC bx b e2 p1.d p1.s ys (some (.int t)) (some (.obj T2.length)) e8 e9) (T2 ++ [MO.lst []]) .nx (envC bx b5' e2 p1.d p1.s ys (some (.int t)) (some (.obj T2.length)) e8' e9') T5 :=
    es_forA_l (ev_call (ev_cons (ev_var rfl rfl) (ev_cons (ev_cb (ev_cons (ev_op (x := .obj p1.s) (y := .int 3) (ev_var rfl rfl) ev_pure (by rw [getO hs.o]; rfl)) ev_nil) (by rw [lenD_of (LT.obj hs.y).v rfl, List.length_map])) ev_nil)) rfl e4) el
  obtain ⟨T6, T7, T8, p8, R8, st5, st6, st7, t8, d8, s8, sub8, b8⟩ := tail_ok (env := envC bx b5' e2 p1.d p1.s ys (some (.int t)) (some (.obj T2.length)) e8' e9') rfl rfl rfl rfl (Fnd.tn (P := []) hF5) b5 (by omega) (by omega)
  have v8 : p8.v = p1.v := by unfold Mem.v; rw [d8, s8]
  have lx : 0 < xs.length := by rw [hx5]; exact List.length_pos_iff.mpr ne
  obtain ⟨z0, hz0⟩ : ∃ z0, xs[0]? = some z0 := ⟨_, List.getElem?_eq_getElem lx⟩
  have st8 := others_ok (p := p1) (env := envC bx b5' e2 p1.d p1.s ys (some (.int t)) (some (.obj T2.length)) e8' e9') rfl rfl rfl rfl t8.at_ hz0 (by omega)
  obtain ⟨q, T9, st9, hq, ql, f9, b9⟩ := next_ok (env := (envC bx b5' e2 p1.d p1.s ys (some (.int t)) (some (.obj T2.length)) e8' e9').set 5 (some (.lst (cutA ys (some (-4)) none ++ [p1.v, z0])))) rfl rfl t8 b8 (by omega) lx (by omega)
  have m9 := t8.fam.frB f9
  have hys : ∀ z ∈ cutA ys (some (-4)) none ++ [p1.v, z0], ∃ q ∈ p8 :: R8, z = q.v := fun z hz => by
    rcases List.mem_append.mp hz with w | w
    · obtain ⟨r, hr, e⟩ := hy1 z (cutA_mem w)
      rcases List.mem_cons.mp hr with v | v
      · exact ⟨p8, List.mem_cons_self, by rw [v8, e, v]⟩
      · exact ⟨r, List.mem_cons_of_mem _ (sub8 r (by
          rcases List.mem_cons.mp (hF5.sub r (List.mem_cons_of_mem _ v)) with u | u
          · exfalso
            have ap := (List.pairwise_cons.mp m1.ap).1 r v
            rw [u] at ap
            have ne1 := (m1.pr p1 List.mem_cons_self).ex
            obtain ⟨l, tt, u, x, y, eF, _⟩ := ne1
            have hm : p1.d ∈ p1.F := by rw [eF]; exact List.mem_cons_self
            exact ap _ hm hm
          · exact u)), e⟩
    · simp only [List.mem_cons, List.not_mem_nil, or_false] at w
      rcases w with w | w
      · exact ⟨p8, List.mem_cons_self, by rw [w, v8]⟩
      · obtain ⟨r, hr, e, _⟩ := t8.its z0 (List.mem_of_getElem? hz0)
        exact ⟨r, List.mem_cons_of_mem _ hr, by rw [w, e]⟩
  obtain ⟨T10, st10, f10⟩ := all_ok (xs := xs) (ys := cutA ys (some (-4)) none ++ [p1.v, z0]) (env := (((envC bx b5' e2 p1.d p1.s ys (some (.int t)) (some (.obj T2.length)) e8' e9').set 5 (some (.lst (cutA ys (some (-4)) none ++ [p1.v, z0])))).set 3 (some (.obj q.d))).set 4 (some (.obj q.s))) (by simp [envC]) rfl rfl (f9.get t8.at_ t8.kb) m9 (fun z hz => by
    obtain ⟨r, hr, e, _⟩ := t8.its z hz
    exact ⟨r, List.mem_cons_of_mem _ hr, e⟩) hys (by omega) (by
      have := cutA_len ys (some (-4)) none
      simp
      omega)
  have m10 := m9.frN f10
  obtain ⟨A, B, hAB⟩ := List.append_of_mem hq
  have pm : (p8 :: R8).Perm (q :: p8 :: (A ++ B)) := by
    rw [hAB]
    exact ((List.perm_middle (l₁ := p8 :: A) (l₂ := B) (a := q)))
  refine ⟨b5', cutA ys (some (-4)) none ++ [p1.v, z0], some (.obj T2.length), e8', e9', q, p8 :: (A ++ B), T10, ?_, m10.perm pm, ql, (b9.fr f10 id).mono (by omega), fun z hz => ?_, ?_⟩
  · exact es_seq st1 (es_seq st2 (es_seq st3 (es_seq st4 (es_seq st5 (es_seq st6 (es_seq st7 (es_seq st8 (es_seq st9 st10))))))))
  · obtain ⟨r, hr, e⟩ := hys z hz
    exact ⟨r, pm.mem_iff.mp hr, e⟩
  · have := cutA_len ys (some (-4)) none
    simp
    omega
end LW

namespace LW
open PySem FL

abbrev i8 : Sx := ifS (fOr (fNot (fTru (fCall 2 fn__law_settled (fCons (fVar 3) (fCons (fVar 4) (pureF [])))))) (oneX (fLst (pureF [])))) (retS (pureF (.bl false))) fNx
theorem nD_at {n i : Nat} {d0 : D} (hi : (rngD 0 n)[i]? = some d0) : i < n ∧ d0 = .int i := by
  have hin : i < n := by
    have := (List.getElem?_eq_some_iff.mp hi).1
    rwa [rngD_len] at this
  refine ⟨hin, ?_⟩
  rw [rng_nD] at hi
  unfold nD at hi
  rw [List.getElem?_map, List.getElem?_range hin] at hi
  exact (Option.some.inj hi).symm
/-- a drawn number, as an expression -/
theorem take_ev {S : List MO} {bx c : Nat} {env : Dv} {m : Int} (h0 : env[0]? = some (some (.obj bx))) (hb : BoxAt S bx c) (hc : c < 2 ^ 39) (hm : 0 < m) (hm2 : m < 1073741824) :
    ∃ n S', Ev (fCall 2 fn__law_take (fCons (fVar 0) (fCons (pureF (.int m)) (pureF [])))) env S (.int n) S' ∧ 0 ≤ n ∧ n < m ∧ Fr (· = bx) S S' ∧ BoxAt S' bx (c + 1) := by
  obtain ⟨n, S', e, n0, n1, f, b⟩ := take_ok hb hc hm hm2
  exact ⟨n, S', ev_call (ev_cons (ev_var h0 rfl) (ev_cons ev_pure ev_nil)) rfl e, n0, n1, f, b⟩
theorem chain_pre {S : List MO} {bx : Nat} (hb : BoxAt S bx 0) : ∃ (b : Bool) (p : Nat) (S' : List MO), Ev (fCons (fOp eqA (fCall 2 fn__law_take (fCons (fVar 0) (fCons (pureF (.int 2)) (pureF [])))) (pureF (.int 1))) (fCons (fOp addD (pureF (.int 3)) (fCall 2 fn__law_take (fCons (fVar 0) (fCons (fOp getD (fLst (fCons (pureF (.int 3)) (fCons (pureF (.int 38)) (pureF [])))) (fCall 2 fn__law_take (fCons (fVar 0) (fCons (pureF (.int 2)) (pureF []))))) (pureF []))))) (pureF []))) [some (.obj bx), none, none, none, none, none, none, none, none, none] S [.bl b, .int p] S' ∧ 3 ≤ p ∧ p ≤ 40 ∧ BoxAt S' bx 3 := by
  obtain ⟨v1, S1, e1, _, _, f1, b1⟩ := take_ev (env := [some (.obj bx), none, none, none, none, none, none, none, none, none]) (m := 2) rfl hb (by omega) (by omega) (by omega)
  obtain ⟨v2, S2, e2, v20, v21, f2, b2⟩ := take_ev (env := [some (.obj bx), none, none, none, none, none, none, none, none, none]) (m := 2) rfl b1 (by omega) (by omega) (by omega)
  obtain ⟨m, em, m0, m38⟩ : ∃ m : Int, getD S2 (.lst [.int 3, .int 38]) (.int v2) = some (.int m) ∧ 0 < m ∧ m ≤ 38 := by
    have : v2 = 0 ∨ v2 = 1 := by omega
    rcases this with h | h <;> subst h
    · exact ⟨3, rfl, by omega, by omega⟩
    · exact ⟨38, rfl, by omega, by omega⟩
  obtain ⟨v3, S3, e3, v30, v31, f3, b3⟩ := take_ok (m := m) b2 (by omega) (by omega) (by omega)
  have h3 : (3 + v3) = (((3 + v3).toNat : Nat) : Int) := by omega
  refine ⟨decide (v1 = 1), (3 + v3).toNat, S3, ev_cons (ev_op (x := .int v1) (y := .int 1) e1 ev_pure (eq_i _ _)) (ev_cons (ev_op (x := .int 3) (y := .int v3) ev_pure (ev_call (ev_cons (ev_var (d := .obj bx) rfl rfl) (ev_cons (ev_op (x := .lst [.int 3, .int 38]) (y := .int v2) (ev_lst (ev_cons ev_pure (ev_cons ev_pure ev_nil)) (by decide)) e2 em) ev_nil)) rfl e3) (by show some (D.int (3 + v3)) = _; rw [← h3])) ev_nil), by omega, by omega, b3⟩
theorem chain_ok {S : List MO} {bx : Nat} (hb : BoxAt S bx 0) : ∃ S', callF fn__law_chain_right [.obj bx] S = some (.ok (.bl true), S') := by
  obtain ⟨b, p, S1, e1, p1, p2, b1⟩ := chain_pre hb
  obtain ⟨F, hP, hF⟩ := pair_new S1 (p := p) (w := 20 + p) p1 p2 (by omega) (by omega)
  have f2 : Fr NoM S1 (staS (dskS S1 p (20 + p)) p (20 + p)) := by
    have e : staS (dskS S1 p (20 + p)) p (20 + p) = S1 ++ ([.ins "Disk" diskNs [.int p, .int (20 + p : Nat), .obj (S1.length + 1), .obj (S1.length + 2), .obj (S1.length + 3), .non], .lst ((nlas p).map stD), .lst ((nlas p).map stD), .lst []] ++ [MO.lst ((nlas p).map stD), .lst [], .lst [.int p, .int (20 + p : Nat), .obj (dskS S1 p (20 + p)).length, .obj ((dskS S1 p (20 + p)).length + 1), .non]]) := by
      rw [← List.append_assoc]
      rfl
    rw [e]
    exact Fr.app
  have b2 := b1.fr f2 id
  have hl : (dskS S1 p (20 + p)).length = S1.length + 4 := by simp [dskS]
  have ew : ∀ {env : Dv} {T : List MO}, env[2]? = some (some (.int (p : Int))) → Ev (fOp addD (pureF (.int 20)) (fVar 2)) env T (.int (20 + p : Nat)) T := fun h2 => ev_op (x := .int 20) (y := .int p) ev_pure (ev_var h2 rfl) (by show some (D.int (20 + (p : Int))) = _; rw [show (20 + (p : Int)) = ((20 + p : Nat) : Int) by omega])
  have e2 : Ev (fCons (fMake makeF 3 "Disk" fn_Disk___init__ (fCons (fVar 2) (fCons (fOp addD (pureF (.int 20)) (fVar 2)) (pureF [])))) (fCons (fCall 2 fn__law_new (fCons (fVar 2) (fCons (fOp addD (pureF (.int 20)) (fVar 2)) (pureF [])))) (fCons (fLst (pureF [])) (pureF [])))) [some (.obj bx), some (.bl b), some (.int p), none, none, none, none, none, none, none] S1 [.obj S1.length, .obj (S1.length + 6), .lst []] (staS (dskS S1 p (20 + p)) p (20 + p)) := by
    have en := state_new (dskS S1 p (20 + p)) (p := p) (w := 20 + p) p2
    rw [hl] at en
    exact ev_cons (ev_make (ev_cons (ev_var (d := .int p) rfl rfl) (ev_cons (ew rfl) ev_nil)) rfl (disk_new S1 p1 p2 (by omega) (by omega))) (ev_cons (ev_call (ev_cons (ev_var (d := .int p) rfl rfl) (ev_cons (ew rfl) ev_nil)) rfl en) (ev_cons (ev_lst ev_nil (by decide)) ev_nil))
  obtain ⟨v, S3, e3, v0, v1, f3, b3⟩ := take_ev (env := envC bx b (some (.int p)) S1.length (S1.length + 6) [] none none none none) (m := 3) rfl b2 (by omega) (by omega) (by omega)
  have blt := b1.lt
  have nb : bx ∉ F := fun z => by
    have := hF bx z
    omega
  have hP3 := hP.fr f3 (fun i hi z => nb (z ▸ hi))
  obtain ⟨env', S4, el, b', ys, e6, e7, e8, e9, q, R, he, hm, ql, b4, hy, ly⟩ := loop_all (env := envC bx b (some (.int p)) S1.length (S1.length + 6) [] none none none none) (S := S3) (xs := rngD 0 (2 + v).toNat) (gx := gSet 6) (body := turnB)
    (fun i env T => ∃ b ys e6 e7 e8 e9 q R, env = envC bx b (some (.int p)) q.d q.s ys e6 e7 e8 e9 ∧ Fam T bx (q :: R) ∧ q.m.wr.length ≤ 2 ∧ BoxAt T bx (4 + 1000 * i) ∧ (∀ z ∈ ys, ∃ r ∈ q :: R, z = r.v) ∧ ys.length ≤ 2 * i)
    ⟨b, [], none, none, none, none, ⟨S1.length, S1.length + 6, F, newM p (20 + p)⟩, [], rfl, ⟨fun r hr => (by
      have : r = ⟨S1.length, S1.length + 6, F, newM p (20 + p)⟩ := by simpa using hr
      rw [this]
      exact hP3), fun r hr => (by
      have : r = ⟨S1.length, S1.length + 6, F, newM p (20 + p)⟩ := by simpa using hr
      rw [this]
      exact nb), List.pairwise_singleton _ _⟩, Nat.zero_le _, b3, (fun z hz => by cases hz), Nat.le_refl _⟩ (fun i d0 env T hi ⟨b, ys, e6, e7, e8, e9, q, R, he, hm, ql, bT, hy, ly⟩ => by
      subst he
      obtain ⟨hin, rfl⟩ := nD_at hi
      obtain ⟨b', ys', e7', e8', e9', q', R', T', st, hm', ql', bT', hy', ly'⟩ := turn_ok (t := i) (b := b) (e2 := some (.int p)) (e7 := e7) (e8 := e8) (e9 := e9) hm ql bT (by omega) hy (by omega)
      exact ⟨_, T, _, T', rfl, st, b', ys', _, e7', e8', e9', q', R', rfl, hm', ql', bT'.mono (by omega), hy', by omega⟩)
  subst he
  rw [rngD_len] at b4 ly
  -- the end
  obtain ⟨S5, q5, e5, f5, d5, s5, m5, hm5⟩ := fam_settled hm b4.lt
  have nb4 := hm.nb q List.mem_cons_self
  have b5 := b4.fr f5 nb4
  rw [← d5, ← s5] at e5
  have v5 : q5.v = q.v := by unfold Mem.v; rw [d5, s5]
  rw [← d5, ← s5] at el
  obtain ⟨S6, q6, e6', f6, b6, hm6, lo6⟩ := one_ev (env := envC bx b' (some (.int p)) q5.d q5.s ys e6 e7 e8 e9) (b := b') (e := fLst (pureF [])) (ns := []) rfl rfl rfl rfl (ev_lst (ds := []) ev_nil (by decide)) hm5 b5 (by omega) (Asc.nil _)
  obtain ⟨S7, e7', f7⟩ := fam_all (v := 9) (env := envC bx b' (some (.int p)) q5.d q5.s ys e6 e7 e8 e9) (src := fVar 5) (by simp [envC]) (ev_var (d := .lst ys) rfl rfl) (by omega) hm6 (fun z hz => by
    obtain ⟨r, hr, e⟩ := hy z hz
    rcases List.mem_cons.mp hr with w | w
    · exact ⟨q5, List.mem_cons_self, by rw [v5, e, w]⟩
    · exact ⟨r, List.mem_cons_of_mem _ (List.mem_cons_of_mem _ w), e⟩)
  refine ⟨S7, ?_⟩
  rw [callF_open rfl]
  have er : Ev (fRng1 (fCons (fOp addD (pureF (.int 2)) (fCall 2 fn__law_take (fCons (fVar 0) (fCons (pureF (.int 3)) (pureF []))))) (pureF []))) (envC bx b (some (.int p)) S1.length (S1.length + 6) [] none none none none) (staS (dskS S1 p (20 + p)) p (20 + p)) (rngD 0 (2 + v).toNat) S3 :=
    ev_rng1 (ev_cons (ev_op (x := .int 2) (y := .int v) ev_pure e3 rfl) ev_nil) (by omega)
  have st8 : EvS i8 (envC bx b' (some (.int p)) q5.d q5.s ys e6 e7 e8 e9) S4 .nx (envC bx b' (some (.int p)) q5.d q5.s ys e6 e7 e8 e9) S6 := es_if_f (ev_or_f (ev_not (b := true) (ev_tru (d := .bl true) (ev_call (ev_cons (ev_var rfl rfl) (ev_cons (ev_var rfl rfl) ev_nil)) rfl e5) rfl)) e6') es_nx
  exact fn_rt (es_seq (es_par e1) (es_seq (es_par3 e2) (es_seq (es_for er el) (es_seq st8 (es_ret e7')))))
end LW

namespace LW
open PySem FL

def dg (t : Nat) : List Nat := if t < 10 then [48 + t] else if t < 100 then [48 + t / 10, 48 + t % 10] else [48 + t / 100, 48 + t / 10 % 10, 48 + t % 10]
theorem dg_ok {t : Nat} (h : t < 450) : (dg t).length ≤ 3 ∧ ∀ x ∈ dg t, 32 ≤ x ∧ x ≤ 126 := by
  unfold dg
  split
  · refine ⟨by simp, fun x hx => ?_⟩
    simp only [List.mem_cons, List.not_mem_nil, or_false] at hx
    omega
  · split
    · refine ⟨by simp, fun x hx => ?_⟩
      simp only [List.mem_cons, List.not_mem_nil, or_false] at hx
      omega
    · refine ⟨by simp, fun x hx => ?_⟩
      simp only [List.mem_cons, List.not_mem_nil, or_false] at hx
      omega
theorem dg_str {t : Nat} (h : t < 450) : ((toString (t : Int) : String) : Str) = SX.S (dg t) ∧ ("a" : Str) ++ SX.S (dg t) = SX.S (97 :: dg t) := by
  have key : (List.range 450).all (fun t => decide (((toString (t : Int) : String) : Str) = SX.S (dg t)) && decide (("a" : Str) ++ SX.S (dg t) = SX.S (97 :: dg t))) = true := by decide +kernel
  have := List.all_eq_true.mp key t (List.mem_range.mpr h)
  rw [Bool.and_eq_true] at this
  exact ⟨of_decide_eq_true this.1, of_decide_eq_true this.2⟩
theorem str_dg (S : List MO) {t : Nat} (h : t < 450) : strID S [.int t] = some (stD (dg t)) := by
  unfold strID stD
  dsimp only
  rw [if_pos (Nat.lt_of_lt_of_le (by omega : (t : Int).natAbs < 450) (by decide))]
  exact congrArg (fun z => some (D.str z)) (dg_str h).1
theorem a_dg (S : List MO) {t : Nat} (h : t < 450) : addD S (.str "a") (stD (dg t)) = some (stD (97 :: dg t)) := by
  have l := (dg_ok h).1
  have a1 : ("a" : Str).length = 1 := by decide +kernel
  have h1 : ("a" : Str).length + (SX.S (dg t)).length ≤ 100000 := by
    rw [a1, SX.S_len]
    omega
  have e : addD S (.str "a") (.str (SX.S (dg t))) = if ("a" : Str).length + (SX.S (dg t)).length ≤ 100000 then some (.str (("a" : Str) ++ SX.S (dg t))) else none := rfl
  unfold stD
  rw [e, if_pos h1, (dg_str h).2]
def tw : List Nat := List.replicate 400 126
theorem tw_ok : okT tw := ⟨by decide, fun x hx => by
  have := (List.mem_replicate.mp hx).2
  omega⟩
theorem tw_str (S : List MO) : mulS S (.str "~") (.int 400) = some (stD tw) := by
  unfold mulS
  dsimp only
  rw [if_pos (by decide +kernel)]
  exact congrArg (fun z => some (D.str z)) (show Txt.mul "~" 400 = SX.S tw by decide +kernel)
theorem em_str : (D.str "") = stD [] := congrArg D.str (show ("" : Str) = SX.S [] by decide +kernel)
abbrev tx : Fx D := fOp getD (fLst (fCons (pureF (.str "")) (fCons (fOp mulS (pureF (.str "~")) (pureF (.int 400))) (fCons (fCB strID (fCons (fVar 3) (pureF []))) (fCons (fOp addD (pureF (.str "a")) (fCB strID (fCons (fVar 3) (pureF [])))) (pureF [])))))) (fCall 2 fn__law_take (fCons (fVar 0) (fCons (pureF (.int 4)) (pureF []))))
theorem tx_ok {S : List MO} {bx c t : Nat} {env : Dv} (h0 : env[0]? = some (some (.obj bx))) (h3 : env[3]? = some (some (.int t))) (ht : t < 450) (hb : BoxAt S bx c) (hc : c < 2 ^ 39) :
    ∃ cs S', Ev tx env S (stD cs) S' ∧ okT cs ∧ Fr (· = bx) S S' ∧ BoxAt S' bx (c + 1) := by
  obtain ⟨j, S', e, j0, j4, f, b⟩ := take_ev (env := env) (m := 4) h0 hb hc (by omega) (by omega)
  obtain ⟨l, a⟩ := dg_ok ht
  have hl : Ev (fLst (fCons (pureF (.str "")) (fCons (fOp mulS (pureF (.str "~")) (pureF (.int 400))) (fCons (fCB strID (fCons (fVar 3) (pureF []))) (fCons (fOp addD (pureF (.str "a")) (fCB strID (fCons (fVar 3) (pureF [])))) (pureF [])))))) env S (.lst [stD [], stD tw, stD (dg t), stD (97 :: dg t)]) S :=
    ev_lst (ev_cons (by rw [← em_str]; exact ev_pure) (ev_cons (ev_op (x := .str "~") (y := .int 400) ev_pure ev_pure (tw_str S)) (ev_cons (ev_cb (ev_cons (ev_var h3 rfl) ev_nil) (str_dg S ht)) (ev_cons (ev_op (x := .str "a") (y := stD (dg t)) ev_pure (ev_cb (ev_cons (ev_var h3 rfl) ev_nil) (str_dg S ht)) (a_dg S ht)) ev_nil)))) (by simp)
  have hj : j = 0 ∨ j = 1 ∨ j = 2 ∨ j = 3 := by omega
  rcases hj with h | h | h | h <;> subst h
  · exact ⟨[], S', ev_op (x := .lst [stD [], stD tw, stD (dg t), stD (97 :: dg t)]) hl e rfl, ⟨by simp, fun x hx => by cases hx⟩, f, b⟩
  · exact ⟨tw, S', ev_op (x := .lst [stD [], stD tw, stD (dg t), stD (97 :: dg t)]) hl e rfl, tw_ok, f, b⟩
  · exact ⟨dg t, S', ev_op (x := .lst [stD [], stD tw, stD (dg t), stD (97 :: dg t)]) hl e rfl, ⟨by omega, a⟩, f, b⟩
  · refine ⟨97 :: dg t, S', ev_op (x := .lst [stD [], stD tw, stD (dg t), stD (97 :: dg t)]) hl e rfl, ⟨by rw [List.length_cons]; omega, fun x hx => ?_⟩, f, b⟩
    rcases List.mem_cons.mp hx with y | y
    · omega
    · exact a x y
theorem wroteN {m : PM} (h : m.lf = none) (k : Nat) (c : List Nat) : (wroteM m k c).wr.length = m.wr.length + 1 ∧ (wroteM m k c).lf = none ∧ (wroteM m k c).p = m.p ∧ (wroteM m k c).w = m.w := by
  unfold wroteM
  rw [h, if_neg (by simp)]
  exact ⟨by simp, rfl, rfl, rfl⟩
theorem stlN {m : PM} (h : m.lf = none) : (stlM m).wr.length = 0 ∧ (stlM m).lf = none ∧ (stlM m).p = m.p ∧ (stlM m).w = m.w := by
  unfold stlM
  rw [h, if_neg (by simp)]
  exact ⟨rfl, rfl, rfl, rfl⟩
abbrev gB : Sx := seqS (asgS tx (gSet 4)) (ifS (fOr (fNot (fTru (fCall 4 fn__law_wrote (fCons (fVar 1) (fCons (fVar 2) (fCons (fCall 2 fn__law_take (fCons (fVar 0) (fCons (pureF (.int 40)) (pureF [])))) (fCons (fVar 4) (pureF [])))))))) (fAnd (fTest (fOp eqA (fVar 3) (pureF (.int 49)))) (fNot (fTru (fCall 2 fn__law_settled (fCons (fVar 1) (fCons (fVar 2) (pureF [])))))))) (retS (pureF (.bl false))) fNx)
/-- what stands behind i of the writes -/
structure Gr (T : List MO) (bx d s i : Nat) (F : List Nat) (m : PM) : Prop where
  hb : BoxAt T bx (2 * i + 10)
  hP : Pair T d s F m
  nb : bx ∉ F
  lf : m.lf = none
  p : m.p = 40
  w : m.w = 400
  wl : m.wr.length = if i ≤ 49 then i else i - 50
theorem great_step {T : List MO} {bx d s i : Nat} {F : List Nat} {m : PM} {e4 : Option D} (hi : i < 450) (h : Gr T bx d s i F m) :
    ∃ T' F' m' e4', EvS gB [some (.obj bx), some (.obj d), some (.obj s), some (.int i), e4, none, none, none] T .nx [some (.obj bx), some (.obj d), some (.obj s), some (.int i), e4', none, none, none] T' ∧ Gr T' bx d s (i + 1) F' m' := by
  obtain ⟨cs, T1, e1, ok1, f1, b1⟩ := tx_ok (env := [some (.obj bx), some (.obj d), some (.obj s), some (.int i), e4, none, none, none]) rfl rfl hi h.hb (by omega)
  have hP1 := h.hP.fr f1 (fun i hi z => h.nb (z ▸ hi))
  obtain ⟨k, T2, e2, k0, k40, f2, b2⟩ := take_ev (env := [some (.obj bx), some (.obj d), some (.obj s), some (.int i), some (stD cs), none, none, none]) (m := 40) rfl b1 (by omega) (by omega) (by omega)
  have hP2 := hP1.fr f2 (fun i hi z => h.nb (z ▸ hi))
  have wl : m.wr.length < 1000 := by
    rw [h.wl]
    split <;> omega
  obtain ⟨T3, e3, f3, hP3⟩ := wrote_ok hP2 (k := k.toNat) (by rw [h.p]; omega) ok1 (by rw [h.w]; exact ok1.1) wl
  rw [Int.toNat_of_nonneg k0] at e3
  have b3 := b2.fr f3 h.nb
  obtain ⟨w1, w2, w3, w4⟩ := wroteN h.lf k.toNat cs
  have s1 : EvS (asgS tx (gSet 4)) [some (.obj bx), some (.obj d), some (.obj s), some (.int i), e4, none, none, none] T .nx [some (.obj bx), some (.obj d), some (.obj s), some (.int i), some (stD cs), none, none, none] T1 := es_set e1
  have t1 : Ev (fNot (fTru (fCall 4 fn__law_wrote (fCons (fVar 1) (fCons (fVar 2) (fCons (fCall 2 fn__law_take (fCons (fVar 0) (fCons (pureF (.int 40)) (pureF [])))) (fCons (fVar 4) (pureF [])))))))) [some (.obj bx), some (.obj d), some (.obj s), some (.int i), some (stD cs), none, none, none] T1 false T3 :=
    ev_not (b := true) (ev_tru (d := .bl true) (ev_call (ev_cons (ev_var (d := .obj d) rfl rfl) (ev_cons (ev_var (d := .obj s) rfl rfl) (ev_cons e2 (ev_cons (ev_var (d := stD cs) rfl rfl) ev_nil)))) rfl e3) rfl)
  have t2 : Ev (fTest (fOp eqA (fVar 3) (pureF (.int 49)))) [some (.obj bx), some (.obj d), some (.obj s), some (.int i), some (stD cs), none, none, none] T3 (decide ((i : Int) = 49)) T3 := ev_test (ev_op (x := .int i) (y := .int 49) (ev_var rfl rfl) ev_pure (eq_i _ _))
  by_cases h49 : i = 49
  · rw [decide_eq_true (by omega)] at t2
    obtain ⟨T4, e4', st⟩ := settled_ok hP3
    obtain ⟨F', hP4, hF⟩ := st.ex
    obtain ⟨v1, v2, v3, v4⟩ := stlN w2
    refine ⟨T4, F', _, _, es_seq s1 (es_if_f (ev_or_f t1 (ev_and_t t2 (ev_not (b := true) (ev_tru (d := .bl true) (ev_call (ev_cons (ev_var (d := .obj d) rfl rfl) (ev_cons (ev_var (d := .obj s) rfl rfl) ev_nil)) rfl e4') rfl)))) es_nx), ⟨(b3.fr st.fr h.nb).mono (by omega), hP4, fun z => ?_, v2, by rw [v3, w3, h.p], by rw [v4, w4, h.w], ?_⟩⟩
    · rcases hF bx z with q | q
      · exact h.nb q
      · have := b3.lt
        omega
    · rw [v1, if_neg (by omega)]
      omega
  · rw [decide_eq_false (by omega)] at t2
    refine ⟨T3, F, _, _, es_seq s1 (es_if_f (ev_or_f t1 (ev_and_f t2)) es_nx), ⟨b3.mono (by omega), hP3, h.nb, w2, by rw [w3, h.p], by rw [w4, h.w], ?_⟩⟩
    rw [w1, h.wl]
    split
    · rw [if_pos (by omega)]
    · rw [if_neg (by omega)]
      omega
end LW

namespace LW
open PySem FL

abbrev gC : Sx := ifS (fTest (fOp eqA (fCall 5 fn__law_one_right (fCons (fVar 0) (fCons (fVar 1) (fCons (fVar 2) (fCons (fVar 6) (fCons (fOp ltD (fCB lenD (fCons (fVar 6) (pureF []))) (pureF (.int 9))) (pureF []))))))) (fLst (pureF [])))) (retS (pureF (.bl false))) fNx
theorem one_step {T : List MO} {bx d s c : Nat} {F : List Nat} {m : PM} {ns : List Nat} {e3 e4 e5 e7 : Option D} (hb : BoxAt T bx c) (hc : c + 60 < 2 ^ 39) (h : Pair T d s F m) (nb : bx ∉ F) (as : Asc ns m.wr.length) :
    ∃ T', EvS gC [some (.obj bx), some (.obj d), some (.obj s), e3, e4, e5, some (.lst (nD ns)), e7] T .nx [some (.obj bx), some (.obj d), some (.obj s), e3, e4, e5, some (.lst (nD ns)), e7] T' ∧ Fr (· = bx) T T' ∧ BoxAt T' bx (c + 20) := by
  obtain ⟨T', d', s', F', m', e, f, b, _⟩ := one_right_ok (b := decide (((nD ns).length : Int) < 9)) hb hc h nb as
  refine ⟨T', es_if_f (ev_test (ev_op (x := .lst [.obj d', .obj s']) (y := .lst []) (ev_call (ev_cons (ev_var (d := .obj bx) rfl rfl) (ev_cons (ev_var (d := .obj d) rfl rfl) (ev_cons (ev_var (d := .obj s) rfl rfl) (ev_cons (ev_var (d := .lst (nD ns)) rfl rfl) (ev_cons (ev_op (x := .int (nD ns).length) (y := .int 9) (ev_cb (ev_cons (ev_var (d := .lst (nD ns)) rfl rfl) ev_nil) (lenD_of LT.lst.v rfl)) ev_pure rfl) ev_nil))))) rfl e) (ev_lst ev_nil (by decide)) eq_pair_nil)) es_nx, f, b⟩
theorem notin_ok {S : List MO} {hs : List Nat} {env0 : Dv} (h5 : env0[5]? = some (some (.lst (nD hs)))) (h7 : 7 < env0.length) :
    ∃ ns, lcRun (gSet 7) (fTest (fOp (inD' true) (fVar 7) (fVar 5))) (fVar 7) env0 (rngD 0 400) S = some (nD ns, S) ∧ Asc ns 400 := by
  obtain ⟨ys, S', e, ns, h1, h2, h3⟩ := lc_all (gx := gSet 7) (tt := fTest (fOp (inD' true) (fVar 7) (fVar 5))) (te := fVar 7) (env0 := env0) (xs := rngD 0 400) (S := S)
    (fun i acc T => ∃ ns, acc = nD ns ∧ Asc ns i ∧ T = S) ⟨[], rfl, Asc.nil 0, rfl⟩ (fun i d0 acc T hi ⟨ns, a1, a2, a3⟩ => by
      subst a3
      obtain ⟨hin, rfl⟩ := nD_at hi
      have g5 : (env0.set 7 (some (.int i)))[5]? = some (some (.lst (nD hs))) := by rw [List.getElem?_set_ne (by omega), h5]
      have g7 : (env0.set 7 (some (.int (i : Int))))[7]? = some (some (.int i)) := List.getElem?_set_self h7
      obtain ⟨b, hbq⟩ : ∃ b, inD' true T (.int i) (.lst (nD hs)) = some (.bl b) := by
        refine ⟨!((nD hs).any fun z => eqF z (.int i)), ?_⟩
        unfold inD'
        rw [show viewS T (.lst (nD hs)) = some (nD hs) from rfl]
        dsimp only
        rw [if_pos ⟨rfl, by
          unfold nD
          rw [List.all_map]
          exact List.all_eq_true.mpr fun _ _ => rfl⟩]
        rfl
      have e1 : Ev (fTest (fOp (inD' true) (fVar 7) (fVar 5))) (env0.set 7 (some (.int i))) T b T := ev_test (ev_op (x := .int i) (y := .lst (nD hs)) (ev_var g7 rfl) (ev_var g5 rfl) hbq)
      refine ⟨env0.set 7 (some (.int i)), T, rfl, ?_⟩
      cases b with
      | true => exact .inl ⟨T, .int i, T, e1, ev_var g7 rfl, ns ++ [i], by rw [a1, nD_app], a2.add, rfl⟩
      | false => exact .inr ⟨T, e1, ns, a1, a2.up (by omega), rfl⟩)
  rw [rngD_len] at h2
  subst h3
  exact ⟨ns, by rw [← h1]; exact e, h2⟩
theorem eq_done (S : List MO) : eqA S (.lst [.str "done", .bl true]) (.lst [.str "done", .bl true]) = some (.bl true) := by
  unfold eqA
  rw [if_neg (by unfold lenNe viewL; simp)]
  unfold eqD
  rw [show eqS (.lst [.str "done", .bl true]) (.lst [.str "done", .bl true]) = none from rfl]
  dsimp only
  rw [done_py]
  dsimp only
  rw [if_pos (by decide +kernel), show PyData.eqv (.list [.str "done", .bool true]) (.list [.str "done", .bool true]) = true by decide +kernel]
theorem nD_flat {ns : List Nat} {n : Nat} (h : Asc ns n) (hn : n ≤ 1000) : (nD ns).all flatD = true := by
  unfold nD
  rw [List.all_map]
  refine List.all_eq_true.mpr fun i hi => ?_
  have := h.lt i hi
  exact decide_eq_true (by show ((i : Int)).natAbs < _; omega)
/-- the last cut, refused -/
theorem last_cut {T : List MO} {d s : Nat} {F : List Nat} {m : PM} {ns : List Nat} (h : Pair T d s F m) (as : Asc ns 400) (hw : m.wr.length = 400) :
    ∃ T', callF fn__law_cut [.obj d, .obj T.length, .bl true] (T ++ [MO.lst (cutA (nD ns) none (some 399) ++ [.int 400])]) = some (.ok (.lst [.str "done", .bl true]), T') ∧ Fr NoM T T' := by
  have fr : Fr NoM T (T ++ [MO.lst (cutA (nD ns) none (some 399) ++ [.int 400])]) := Fr.app
  obtain ⟨l, t, u, x, y, rfl, nd, hd, hs⟩ := (h.fr fr (fun _ _ z => z)).ex
  have hx : (T ++ [MO.lst (cutA (nD ns) none (some 399) ++ [.int 400])])[T.length]? = some (MO.lst (cutA (nD ns) none (some 399) ++ [.int 400])) := app_get
  have ln := asc_len as
  have l1 : (cutA (nD ns) none (some 399) ++ [D.int 400]).length ≤ 401 := by
    have := cutA_len (nD ns) none (some 399)
    have e : (nD ns).length = ns.length := by unfold nD; rw [List.length_map]
    rw [List.length_append]
    simp
    omega
  have ek := cf_kept m.wr.length (LT.obj hx) (app_all (cut_all (nD_plain ns)) rfl) (by omega)
  have kf : kept (cutA (nD ns) none (some 399) ++ [.int 400]) (m.wr.length : Int) = false := by
    rw [hw]
    exact not_idx (List.mem_append_right _ List.mem_cons_self) (idx_self 400)
  rw [kf] at ek
  obtain ⟨z, hz⟩ := repr_obj (T := (T ++ [MO.lst (cutA (nD ns) none (some 399) ++ [.int 400])]).set T.length (.lst ((cutA (nD ns) none (some 399) ++ [.int 400]) ++ [.int 0]))) (n := T.length) (set_get hx) (app_all (app_all (cut_all (nD_flat as (by omega))) rfl) rfl) (by
    rw [List.length_append]
    simp
    simp at l1
    omega)
  exact ⟨_, law_cut_badO (hd.inst (by decide)) (cut_bad hd rfl ek) hx (by omega) hz, fr.step Fr.set fun i hi z => absurd z (by omega)⟩
theorem great_ok {S : List MO} {bx : Nat} (hb : BoxAt S bx 0) : ∃ S', callF fn__law_great_right [.obj bx] S = some (.ok (.bl true), S') := by
  obtain ⟨F, hP, hF⟩ := pair_new S (p := 40) (w := 400) (by omega) (by omega) (by omega) (by omega)
  have f1 : Fr NoM S (staS (dskS S 40 400) 40 400) := by
    have e : staS (dskS S 40 400) 40 400 = S ++ ([.ins "Disk" diskNs [.int (40 : Nat), .int (400 : Nat), .obj (S.length + 1), .obj (S.length + 2), .obj (S.length + 3), .non], .lst ((nlas 40).map stD), .lst ((nlas 40).map stD), .lst []] ++ [MO.lst ((nlas 40).map stD), .lst [], .lst [.int (40 : Nat), .int (400 : Nat), .obj (dskS S 40 400).length, .obj ((dskS S 40 400).length + 1), .non]]) := by
      rw [← List.append_assoc]
      rfl
    rw [e]
    exact Fr.app
  have b1 := hb.fr f1 id
  have blt := hb.lt
  have nb : bx ∉ F := fun z => by
    have := hF bx z
    omega
  have hl : (dskS S 40 400).length = S.length + 4 := by simp [dskS]
  have e1 : Ev (fCons (fMake makeF 3 "Disk" fn_Disk___init__ (fCons (pureF (.int 40)) (fCons (pureF (.int 400)) (pureF [])))) (fCons (fCall 2 fn__law_new (fCons (pureF (.int 40)) (fCons (pureF (.int 400)) (pureF [])))) (pureF []))) [some (.obj bx), none, none, none, none, none, none, none] S [.obj S.length, .obj (S.length + 6)] (staS (dskS S 40 400) 40 400) := by
    have en := state_new (dskS S 40 400) (p := 40) (w := 400) (by omega)
    rw [hl] at en
    exact ev_cons (ev_make (ev_cons ev_pure (ev_cons ev_pure ev_nil)) rfl (disk_new S (p := 40) (w := 400) (by omega) (by omega) (by omega) (by omega))) (ev_cons (ev_call (ev_cons ev_pure (ev_cons ev_pure ev_nil)) rfl en) ev_nil)
  obtain ⟨env2, S2, el, e3, e4, F2, m2, he2, hG⟩ := loop_all (env := [some (.obj bx), some (.obj S.length), some (.obj (S.length + 6)), none, none, none, none, none]) (S := staS (dskS S 40 400) 40 400) (xs := rngD 0 450) (gx := gSet 3) (body := gB)
    (fun i env T => ∃ e3 e4 F m, env = [some (.obj bx), some (.obj S.length), some (.obj (S.length + 6)), e3, e4, none, none, none] ∧ Gr T bx S.length (S.length + 6) i F m)
    ⟨none, none, F, newM 40 400, rfl, ⟨b1.mono (by omega), hP, nb, rfl, rfl, rfl, rfl⟩⟩ (fun i d0 env T hi ⟨e3, e4, F, m, he, hG⟩ => by
      subst he
      obtain ⟨hin, rfl⟩ := nD_at hi
      obtain ⟨T', F', m', e4', st, hG'⟩ := great_step (e4 := e4) hin hG
      exact ⟨_, T, _, T', rfl, st, _, e4', F', m', rfl, hG'⟩)
  subst he2
  rw [rngD_len] at hG
  have wl : m2.wr.length = 400 := by rw [hG.wl, if_neg (by omega)]
  obtain ⟨hs, S3, e5, as5, f5, b5⟩ := draws_ok (v := 7) (n := 400) (env0 := [some (.obj bx), some (.obj S.length), some (.obj (S.length + 6)), e3, e4, none, none, none]) rfl (by omega) (by simp) hG.hb (by omega)
  have hP3 := hG.hP.fr f5 (fun i hi z => hG.nb (z ▸ hi))
  have st5 : EvS (asgS (fLc (fRng1 (fCons (pureF (.int 400)) (pureF []))) [7] (gSet 7) (fTest (fOp eqA (fCall 2 fn__law_take (fCons (fVar 0) (fCons (pureF (.int 2)) (pureF [])))) (pureF (.int 0)))) (fVar 7)) (gSet 5)) [some (.obj bx), some (.obj S.length), some (.obj (S.length + 6)), e3, e4, none, none, none] S2 .nx [some (.obj bx), some (.obj S.length), some (.obj (S.length + 6)), e3, e4, some (.lst (nD hs)), none, none] S3 :=
    es_set (ev_lc (ev_rng1 (j := 400) (ev_cons ev_pure ev_nil) (by decide)) (by rw [rngD_len]; decide) e5)
  obtain ⟨ms, e6, as6⟩ := notin_ok (S := S3) (hs := hs) (env0 := [some (.obj bx), some (.obj S.length), some (.obj (S.length + 6)), e3, e4, some (.lst (nD hs)), none, none]) rfl (by simp)
  have el6 : Ev (fLst (fCons (fVar 5) (fCons (fLstRg (pureF (.int 400))) (fCons (fLst (fCons (pureF (.int 399)) (pureF []))) (fCons (fLc (fRng1 (fCons (pureF (.int 400)) (pureF []))) [7] (gSet 7) (fTest (fOp (inD' true) (fVar 7) (fVar 5))) (fVar 7)) (pureF [])))))) [some (.obj bx), some (.obj S.length), some (.obj (S.length + 6)), e3, e4, some (.lst (nD hs)), none, none] S3 (.lst [.lst (nD hs), .lst (nD (List.range 400)), .lst (nD [399]), .lst (nD ms)]) S3 :=
    ev_lst (ev_cons (ev_var rfl rfl) (ev_cons (by rw [← rg_nD]; exact ev_lstRg ev_pure (by decide)) (ev_cons (ev_lst (ev_cons ev_pure ev_nil) (by decide)) (ev_cons (ev_lc (ev_rng1 (j := 400) (ev_cons ev_pure ev_nil) (by decide)) (by rw [rngD_len]; decide) e6) ev_nil)))) (by simp)
  have hA : AllAsc 400 [.lst (nD hs), .lst (nD (List.range 400)), .lst (nD [399]), .lst (nD ms)] := fun z hz => by
    simp only [List.mem_cons, List.not_mem_nil, or_false] at hz
    rcases hz with h | h | h | h
    · exact ⟨hs, h, as5⟩
    · exact ⟨_, h, Asc.range 400⟩
    · exact ⟨[399], h, ⟨fun i hi => by
        have : i = 399 := by simpa using hi
        omega, List.pairwise_singleton _ _⟩⟩
    · exact ⟨ms, h, as6⟩
  obtain ⟨env7, S7, el7, e6v, he7, f7, b7⟩ := loop_all (env := [some (.obj bx), some (.obj S.length), some (.obj (S.length + 6)), e3, e4, some (.lst (nD hs)), none, none]) (S := S3) (xs := [.lst (nD hs), .lst (nD (List.range 400)), .lst (nD [399]), .lst (nD ms)]) (gx := gSet 6) (body := gC)
    (fun i env T => ∃ e6v, env = [some (.obj bx), some (.obj S.length), some (.obj (S.length + 6)), e3, e4, some (.lst (nD hs)), e6v, none] ∧ Fr (· = bx) S3 T ∧ BoxAt T bx (2000 + 20 * i)) ⟨none, rfl, Fr.refl, b5.mono (by omega)⟩ (fun i d0 env T hi ⟨e6v, he, f, b⟩ => by
      subst he
      have hi4 : i < 4 := (List.getElem?_eq_some_iff.mp hi).1
      obtain ⟨ns, rfl, as⟩ := hA d0 (List.mem_of_getElem? hi)
      obtain ⟨T', st, f', b'⟩ := one_step (ns := ns) (e3 := e3) (e4 := e4) (e5 := some (.lst (nD hs))) (e7 := none) b (by omega) (hP3.fr f (fun i hi z => hG.nb (z ▸ hi))) hG.nb (by rw [wl]; exact as)
      exact ⟨_, T, _, T', rfl, st, _, rfl, f.trans f', b'.mono (by omega)⟩)
  subst he7
  have hP7 := hP3.fr f7 (fun i hi z => hG.nb (z ▸ hi))
  obtain ⟨S8, e8, f8⟩ := last_cut hP7 as5 wl
  have hP8 := hP7.fr f8 (fun _ _ z => z)
  refine ⟨S8 ++ [.lst ((beh m2.las m2.wr).map stD)], ?_⟩
  rw [callF_open rfl]
  refine fn_rt (es_seq (es_par e1) (es_seq (es_for (ev_rng1 (j := 450) (ev_cons ev_pure ev_nil) (by decide)) el) (es_seq st5 (es_seq (es_forA_l el6 el7) (es_ret ?_)))))
  have ex : Ev (fOpO CatO (fSlice (fVar 5) (pureF none) (fInt (pureF (.int 399)))) (fLst (fCons (pureF (.int 400)) (pureF [])))) [some (.obj bx), some (.obj S.length), some (.obj (S.length + 6)), e3, e4, some (.lst (nD hs)), e6v, none] S7 (.obj S7.length) (S7 ++ [MO.lst (cutA (nD hs) none (some 399) ++ [.int 400])]) :=
    ev_opO (x := .lst (cutA (nD hs) none (some 399))) (y := .lst [.int 400]) (ev_slice (x := .lst (nD hs)) (ev_var rfl rfl) ev_pure (ev_int ev_pure) rfl) (ev_lst (ev_cons ev_pure ev_nil) (by decide)) (catLL (by
      have := cutA_len (nD hs) none (some 399)
      have e : (nD hs).length = hs.length := by unfold nD; rw [List.length_map]
      have := asc_len as5
      simp
      omega))
  exact ev_andV_t (ev_op (x := .lst [.str "done", .bl true]) (y := .lst [.str "done", .bl true]) (ev_call (ev_cons (ev_var (d := .obj S.length) rfl rfl) (ev_cons ex (ev_cons ev_pure ev_nil))) rfl e8) (ev_lst (ev_cons ev_pure (ev_cons ev_pure ev_nil)) (by decide)) (eq_done _)) (ev_call (ev_cons (ev_var (d := .obj S.length) rfl rfl) (ev_cons (ev_var (d := .obj (S.length + 6)) rfl rfl) ev_nil)) rfl (state_right_ok hP8))
end LW

namespace LW
open PySem FL

theorem box_ev {S : List MO} {ns : List Int} {env : Dv} {k : Nat} {fk : Fx D} (h0 : env[0]? = some (some (.scr (ns.map D.int)))) (hk : Ev fk env S (.int k) S) (h10 : k < 10) :
    ∃ S', Ev (fCall 1 fn__law_box (fCons (fCall 2 fn__law_cell (fCons (fVar 0) (fCons fk (pureF [])))) (pureF []))) env S (.obj S.length) S' ∧ BoxAt S' S.length 0 := by
  obtain ⟨v, e1⟩ := cell_ok S ns k h10
  obtain ⟨v0, v2, gg, e2, h1, h2⟩ := box_ok S v
  exact ⟨_, ev_call (ev_cons (ev_call (ev_cons (ev_var h0 rfl) (ev_cons hk ev_nil)) rfl e1) ev_nil) rfl e2, box_at ⟨h1, h2⟩⟩
theorem law_ok (ns : List Int) (hn : ns.length ≤ 63) (S : List MO) : ∃ S', fn_law [.scr (ns.map D.int)] S = some (.ok (.bl true), S') := by
  have hc : cutA (ns.map D.int) none (some 2) = (cutA ns none (some 2)).map D.int := by
    unfold cutA
    rw [List.length_map, List.map_take, List.map_drop]
  have es : ∀ S : List MO, Ev (fTest (fOp eqA (fOp modD (fCB int1D (fCons (fCB sumD (fCons (fSlice (fVar 0) (pureF none) (fInt (pureF (.int 2)))) (pureF []))) (pureF []))) (pureF (.int 8))) (pureF (.int 1)))) [some (.scr (ns.map D.int)), none] S (decide ((cutA ns none (some 2)).sum % 8 = 1)) S := fun S =>
    ev_test (ev_op (x := .int ((cutA ns none (some 2)).sum % 8)) (y := .int 1) (ev_op (x := .int (cutA ns none (some 2)).sum) (y := .int 8) (ev_cb (ds := [.int (cutA ns none (some 2)).sum]) (ev_cons (ev_cb (ds := [.lst (cutA (ns.map D.int) none (some 2))]) (ev_cons (ev_slice (x := .scr (ns.map D.int)) (ev_var rfl rfl) ev_pure (ev_int ev_pure) rfl) ev_nil) (by
      rw [hc]
      show (match intsOf ((cutA ns none (some 2)).map D.int) with
        | some ns => some (D.int ns.sum)
        | none => none) = _
      rw [intsOf_ints])) ev_nil) rfl) ev_pure (mod_i _ _ (by omega))) ev_pure (eq_i _ _))
  obtain ⟨S1, e1⟩ : ∃ S1, EvS (ifS (fAnd (fTest (fOp eqA (fOp modD (fCB int1D (fCons (fCB sumD (fCons (fSlice (fVar 0) (pureF none) (fInt (pureF (.int 2)))) (pureF []))) (pureF []))) (pureF (.int 8))) (pureF (.int 1)))) (fNot (fTru (fCall 1 fn__law_great_right (fCons (fCall 1 fn__law_box (fCons (fCall 2 fn__law_cell (fCons (fVar 0) (fCons (pureF (.int 2)) (pureF [])))) (pureF []))) (pureF [])))))) (retS (pureF (.bl false))) fNx) [some (.scr (ns.map D.int)), none] S .nx [some (.scr (ns.map D.int)), none] S1 := by
    have et := es S
    by_cases q : (cutA ns none (some 2)).sum % 8 = 1
    · rw [decide_eq_true q] at et
      obtain ⟨S2, e2, b2⟩ := box_ev (S := S) (ns := ns) (env := [some (.scr (ns.map D.int)), none]) (k := 2) (fk := pureF (.int 2)) rfl ev_pure (by omega)
      obtain ⟨S3, e3⟩ := great_ok b2
      exact ⟨S3, es_if_f (ev_and_t et (ev_not (b := true) (ev_tru (d := .bl true) (ev_call (ev_cons e2 ev_nil) rfl e3) rfl))) es_nx⟩
    · rw [decide_eq_false q] at et
      exact ⟨S, es_if_f (ev_and_f et) es_nx⟩
  have lenS : lenD S1 [.scr (ns.map D.int)] = some (.int ns.length) := by rw [lenD_of (xs := ns.map D.int) rfl rfl, List.length_map]
  obtain ⟨n, en, n6⟩ : ∃ n : Nat, Ev (fCB max2D (fCons (pureF (.int 3)) (fCons (fCB min2D (fCons (pureF (.int 6)) (fCons (fCB lenD (fCons (fVar 0) (pureF []))) (pureF [])))) (pureF [])))) [some (.scr (ns.map D.int)), none] S1 (.int n) S1 ∧ n ≤ 6 := by
    obtain ⟨a, ea, ha⟩ : ∃ a : Int, min2D S1 [.int 6, .int ns.length] = some (.int a) ∧ a ≤ 6 ∧ 0 ≤ a := by
      refine ⟨_, rfl, ?_⟩
      first | (split <;> omega) | omega
    obtain ⟨b, eb, hb⟩ : ∃ b : Int, max2D S1 [.int 3, .int a] = some (.int b) ∧ b ≤ 6 ∧ 0 ≤ b := by
      refine ⟨_, rfl, ?_⟩
      first | (split <;> omega) | omega
    refine ⟨b.toNat, ?_, by omega⟩
    rw [Int.toNat_of_nonneg hb.2]
    exact ev_cb (ev_cons ev_pure (ev_cons (ev_cb (ev_cons ev_pure (ev_cons (ev_cb (ev_cons (ev_var (d := .scr (ns.map D.int)) rfl rfl) ev_nil) lenS) ev_nil)) ea) ev_nil)) eb
  obtain ⟨env', S2, el, e1', he⟩ := loop_all (env := [some (.scr (ns.map D.int)), none]) (S := S1) (xs := rngD 0 n) (gx := gSet 1) (body := ifS (fNot (fTru (fCall 1 fn__law_chain_right (fCons (fCall 1 fn__law_box (fCons (fCall 2 fn__law_cell (fCons (fVar 0) (fCons (fVar 1) (pureF [])))) (pureF []))) (pureF []))))) (retS (pureF (.bl false))) fNx)
    (fun i env T => ∃ e1, env = [some (.scr (ns.map D.int)), e1]) ⟨none, rfl⟩ (fun i d0 env T hi ⟨e1, he⟩ => by
      subst he
      obtain ⟨hin, rfl⟩ := nD_at hi
      obtain ⟨S2, e2, b2⟩ := box_ev (S := T) (ns := ns) (env := [some (.scr (ns.map D.int)), some (.int i)]) (k := i) (fk := fVar 1) rfl (ev_var rfl rfl) (by omega)
      obtain ⟨S3, e3⟩ := chain_ok b2
      exact ⟨_, T, _, S3, rfl, es_if_f (ev_not (b := true) (ev_tru (d := .bl true) (ev_call (ev_cons e2 ev_nil) rfl e3) rfl)) es_nx, _, rfl⟩)
  have er := ev_rng1 (env := [some (.scr (ns.map D.int)), none]) (fs := fCons (fCB max2D (fCons (pureF (.int 3)) (fCons (fCB min2D (fCons (pureF (.int 6)) (fCons (fCB lenD (fCons (fVar 0) (pureF []))) (pureF [])))) (pureF [])))) (pureF [])) (S := S1) (S1 := S1) (j := n) (ev_cons en ev_nil) (by omega)
  rw [Int.toNat_natCast] at er
  exact ⟨S2, fn_rt (es_seq e1 (es_seq (es_for er el) (es_ret ev_pure)))⟩
end LW

set_option maxHeartbeats 0
namespace LW
open PySem L2 FL PyProof.Rows
abbrev R : PySem.W.OpenRow := PySem.W.OpenLaw.row PySem.Challenge.rw_anyearlier_k65_cuts_leave_any_loose_writ
abbrev hk : PySem.W.Hook := FL.hookF 5 fa fn
def ob (s : PySem.W.SharedT) : FL.AlF := FL.obsFG 5 fa fn (HandSHeadRun.getT s)
theorem ob_eq (s : PySem.W.SharedT) : ob s = hk.obs s.abs := FL.obsFG_eq (HandSHeadRun.getT_eq s)
def loose1 : List PySem.Str := ["is_whole", "is_from_to", "is_index", "is_listed", "are_unlike", "ascend", "are_indices", "are_kept", "is_page_text", "_law_cell", "_law_box", "_law_take", "_law_text", "_law_new", "_law_behind", "_law_cut_of", "_law_state_right", "_law_wrote", "_law_settled", "_law_stopped"]
def loose2 : List PySem.Str := ["_law_cut", "_law_bad_done", "_law_lists", "_law_refused_right", "_law_one_right", "_law_grown", "_law_chain_right", "_law_great_right", "EarlierError", "InvalidText", "InvalidWidth", "InvalidPages", "InvalidPage", "InvalidCount", "InvalidDone", "PowerCut", "Disk", "LEAST_PAGES", "MOST_PAGES", "LEAST_WIDTH", "MOST_WIDTH"]
def loose : List PySem.Str := loose1 ++ loose2
abbrev qv : Program := PySem.W.view R.prog [lawIx]
theorem run (w : World) : HandSHeadRun.RunEq R qv hk ob 20000 loose w := by
  intro os
  kernel_rfl
theorem facts {w : World} {K : PySem.W.Frag} {h : Heap} {mg : Str → Option Value} {f : Addr} (X : K.In h) (G : h.Ns mainGlobals mg) (hfa : mg ("law" : Str) = some (.ref f)) (c : SaysF fa fn K) :
    ∃ fd : FuncData, (∀ (s : Shared) (v : Value), BindsTo s fd ⟨[v], []⟩ [("script", v)]) ∧ ∀ base : Heap, K.In base → base.Ns mainGlobals mg → FnG (PySem.Challenge.rw_anyearlier_k65_cuts_leave_any_loose_writ).prog w K mg base 9 f fd ["script"] (spF K 1 fn_law) := by
  have e := hfa.symm.trans (ff_glo X G (c.fact lawFact (f := .fa (.glo "law")) rfl))
  cases e
  obtain ⟨fd, F⟩ := c.def_ 39 (d := d_law) rfl
  have b := FunD.bindsA (ps := ["script"]) F fun _ _ _ _ _ _ us hl => match us, hl with | [_], _ => rfl
  exact ⟨fd, fun s v => b s [v] rfl, fun base hK hG => fg_law (base := base) ⟨hK, hG, c⟩ fd F⟩
end LW
open PySem PySem.W PySem.Calls PyProof.Rows
theorem PySem.Challenge.cw_anyearlier_k65_cuts_leave_any_loose_writ_holds : PySem.Challenge.rw_anyearlier_k65_cuts_leave_any_loose_writ.Holds := by
  w_on; o_law
  refine HandSHeadRun.head_any (r := OpenLaw.row PySem.Challenge.rw_anyearlier_k65_cuts_leave_any_loose_writ) (q := LW.qv) (H := LW.hk) (ob := LW.ob) (M := 20000) (loose := LW.loose) (d := HandSHeadRun.topDef (OpenLaw.row PySem.Challenge.rw_anyearlier_k65_cuts_leave_any_loose_writ).prog LW.lawIx) (kwd := []) LW.ob_eq
    (by kernel_rfl) (fun s => by kernel_rfl) LW.run (by kernel_rfl) (by kernel_rfl) (by kernel_rfl) (by rfl) (by first | assumption | decide +kernel) (by decide +kernel) ⟨rfl, rfl, rfl, rfl, rfl, by decide +kernel⟩ ?hw ?hc
  case hw => w_witness2
  case hc =>
    refine FL.walk_ofG (l := PySem.Challenge.rw_anyearlier_k65_cuts_leave_any_loose_writ) (n := 63) (k := 9) (x := "script") rfl (by decide) (by kernel_rfl) ⟨rfl, by decide, by decide⟩ ?F
    intro w mg fa h Y G hmg0
    obtain ⟨K, KX, c⟩ := Y
    have hmg : mg ("law" : PySem.Str) = some (.ref fa) := by
      have e : (HandSHeadRun.topDef (OpenLaw.row PySem.Challenge.rw_anyearlier_k65_cuts_leave_any_loose_writ).prog LW.lawIx).name = ("law" : PySem.Str) := by kernel_rfl
      rw [← e]
      exact hmg0
    obtain ⟨fd, hb, hF⟩ := LW.facts (w := w) KX G hmg c
    exact ⟨K, fd, FL.spF K 1 LW.fn_law, KX, hb, fun H a ns hl _ hS => by
      obtain ⟨S', e⟩ := LW.law_ok ns hl []
      exact FL.law_sp hS e, hF⟩
