import PyProof.Rows.All
import Wide.All
import OpenK.AllK
import Wide.FinOn
import HandS.ForMost
import HandS.Walk
import HandS.Exc
import HandS.WordsExc
import HandS.TupAny
import HandS.Star
import HandS.Defaults
import PyProof.MinMaxWalk
import PyProof.WalkInts
import PyProof.ListStr
import KE.DatumOrd
import HandS.SortKw
import HandS.StrMore
import HandS.More
import HandS.Conv
import HandS.IsInst
import HandS.Zip
import HandS.Replace
import PySem.Challenge.RW_neverdry_k15_values_joined
set_option Elab.async false
set_option linter.all false
set_option maxRecDepth 100000
set_option maxHeartbeats 4000000
/-! Data over the hand layer: values as pure data, states as lists of slots, code as functions on them. -/
namespace DL
open PySem PySem.Spec PyProof.Rows L2

/-- pure data; an instance by its class's name, its attributes' names and their data -/
inductive D where
  | non | bl (b : Bool) | int (i : Int) | str (x : Str) | lst (ds : List D) | tup (ds : List D)
  | ins (c : Str) (ns : List Str) (ds : List D)
  | dK (ks : List Key) (ds : List D) | dT (ks : List (List Key)) (ds : List D)
  deriving Inhabited
/-- what is one's own: data at the leaves -/
inductive T where
  | dat (d : D) | lst (ts : List T) | ins (c : Str) (ns : List Str) (ts : List T) | dK (ks : List Key) (ts : List T) | dT (ks : List (List Key)) (ts : List T)
  deriving Inhabited

/-- the written part, and where the classes stand -/
structure Gx where
  K : PySem.W.Frag
  cn : Str → Addr

mutual
def Rep (G : Gx) (H : Hp) : D → V → Prop
  | .non, v => v = .non
  | .bl b, v => v = .bl b
  | .int i, v => v = .int i
  | .str x, v => v = .str x ∧ x.length ≤ sizeLine
  | .lst ds, v => ∃ a xs, v = .ref a ∧ H a = some (.lst xs) ∧ RepAll G H ds xs
  | .tup ds, v => ∃ a xs, v = .ref a ∧ SqT G.K H a xs ∧ RepAll G H ds xs
  | .ins c ns ds, v => ∃ a dx xs, v = .ref a ∧ H a = some (.ins (G.cn c) dx (ns.zip xs)) ∧ RepAll G H ds xs
  | .dK ks ds, v => ∃ a xs, v = .ref a ∧ H a = some (.dK (ks.zip xs)) ∧ ks.length = ds.length ∧ RepAll G H ds xs
  | .dT ks ds, v => ∃ a xs, v = .ref a ∧ H a = some (.dT (ks.zip xs)) ∧ ks.length = ds.length ∧ RepAll G H ds xs
def RepAll (G : Gx) (H : Hp) : List D → List V → Prop
  | [], vs => vs = []
  | d :: ds, vs => ∃ v r, vs = v :: r ∧ Rep G H d v ∧ RepAll G H ds r
end

theorem Same.sqL {K : PySem.W.Frag} {H H' : Hp} {a : Addr} {xs : List V} (e : Same H H') (h : SqL K H a xs) : SqL K H' a xs := e.seq h
theorem Same.sqT {K : PySem.W.Frag} {H H' : Hp} {a : Addr} {xs : List V} (e : Same H H') (h : SqT K H a xs) : SqT K H' a xs := by
  rcases h with (h | ⟨o, h⟩) | h
  · exact .inl (.inl (e _ _ h))
  · exact .inl (.inr ⟨o, e _ _ h⟩)
  · exact .inr h

section
variable {G : Gx} {H H' : Hp}
mutual
theorem Rep.mono (e : Same H H') : ∀ (d : D) {v : V}, Rep G H d v → Rep G H' d v
  | .non, _, h => h
  | .bl _, _, h => h
  | .int _, _, h => h
  | .str _, _, h => h
  | .lst ds, _, ⟨a, xs, h1, h2, h3⟩ => ⟨a, xs, h1, e _ _ h2, RepAll.mono e ds h3⟩
  | .tup ds, _, ⟨a, xs, h1, h2, h3⟩ => ⟨a, xs, h1, Same.sqT e h2, RepAll.mono e ds h3⟩
  | .ins c ns ds, _, ⟨a, dx, xs, h1, h2, h3⟩ => ⟨a, dx, xs, h1, e _ _ h2, RepAll.mono e ds h3⟩
  | .dK ks ds, _, ⟨a, xs, h1, h2, h4, h3⟩ => ⟨a, xs, h1, e _ _ h2, h4, RepAll.mono e ds h3⟩
  | .dT ks ds, _, ⟨a, xs, h1, h2, h4, h3⟩ => ⟨a, xs, h1, e _ _ h2, h4, RepAll.mono e ds h3⟩
theorem RepAll.mono (e : Same H H') : ∀ (ds : List D) {vs : List V}, RepAll G H ds vs → RepAll G H' ds vs
  | [], _, h => h
  | d :: ds, _, ⟨v, r, h1, h2, h3⟩ => ⟨v, r, h1, Rep.mono e d h2, RepAll.mono e ds h3⟩
end
theorem RepAll.length : ∀ {ds : List D} {vs : List V}, RepAll G H ds vs → vs.length = ds.length
  | [], _, h => by
    have h : _ = [] := h
    rw [h]; rfl
  | d :: ds, _, ⟨v, r, h1, h2, h3⟩ => by
    rw [h1, List.length_cons, List.length_cons, RepAll.length h3]
theorem RepAll.get : ∀ {ds : List D} {vs : List V} {i : Nat} {v : V}, RepAll G H ds vs → vs[i]? = some v → ∃ d, ds[i]? = some d ∧ Rep G H d v
  | [], _, i, v, h, e => by
    have h : _ = [] := h
    rw [h] at e; simp at e
  | d :: ds, _, 0, v, ⟨u, r, h1, h2, h3⟩, e => by
    rw [h1] at e
    simp at e
    exact ⟨d, rfl, e ▸ h2⟩
  | d :: ds, _, i + 1, v, ⟨u, r, h1, h2, h3⟩, e => by
    rw [h1] at e
    simp at e
    simpa using RepAll.get h3 e
theorem RepAll.getD : ∀ {ds : List D} {vs : List V} {i : Nat} {d : D}, RepAll G H ds vs → ds[i]? = some d → ∃ v, vs[i]? = some v ∧ Rep G H d v
  | [], _, i, d, h, e => by simp at e
  | d :: ds, _, 0, d', ⟨u, r, h1, h2, h3⟩, e => by
    simp at e
    subst e; subst h1
    exact ⟨u, rfl, h2⟩
  | d :: ds, _, i + 1, d', ⟨u, r, h1, h2, h3⟩, e => by
    simp at e
    subst h1
    simpa using RepAll.getD h3 e
theorem RepAll.append : ∀ {ds es : List D} {vs us : List V}, RepAll G H ds vs → RepAll G H es us → RepAll G H (ds ++ es) (vs ++ us)
  | [], es, vs, us, h, k => by
    have h : vs = [] := h
    subst h; exact k
  | d :: ds, es, vs, us, ⟨v, r, h1, h2, h3⟩, k => by
    subst h1
    exact ⟨v, r ++ us, rfl, h2, RepAll.append h3 k⟩
theorem RepAll.one {d : D} {v : V} (h : Rep G H d v) : RepAll G H [d] [v] := ⟨v, [], rfl, h, rfl⟩
theorem RepAll.set : ∀ {ds : List D} {vs : List V} {i : Nat} {d : D} {v : V}, RepAll G H ds vs → Rep G H d v → RepAll G H (ds.set i d) (vs.set i v)
  | [], vs, i, d, v, h, k => by
    have h : vs = [] := h
    subst h; exact (rfl : ([] : List V) = [])
  | e :: ds, vs, 0, d, v, ⟨u, r, h1, h2, h3⟩, k => by
    subst h1
    exact ⟨v, r, rfl, k, h3⟩
  | e :: ds, vs, i + 1, d, v, ⟨u, r, h1, h2, h3⟩, k => by
    subst h1
    exact ⟨u, r.set i v, rfl, h2, RepAll.set h3 k⟩
theorem RepAll.take : ∀ {ds : List D} {vs : List V} (n : Nat), RepAll G H ds vs → RepAll G H (ds.take n) (vs.take n)
  | _, _, 0, _ => (rfl : ([] : List V) = [])
  | [], vs, n + 1, h => by
    have h : vs = [] := h
    subst h; exact (rfl : ([] : List V) = [])
  | d :: ds, vs, n + 1, ⟨u, r, h1, h2, h3⟩ => by
    subst h1
    exact ⟨u, r.take n, rfl, h2, RepAll.take n h3⟩
theorem RepAll.drop : ∀ {ds : List D} {vs : List V} (n : Nat), RepAll G H ds vs → RepAll G H (ds.drop n) (vs.drop n)
  | _, _, 0, h => h
  | [], vs, n + 1, h => by
    have h : vs = [] := h
    subst h; exact (rfl : ([] : List V) = [])
  | d :: ds, vs, n + 1, ⟨u, r, h1, h2, h3⟩ => by
    subst h1
    exact RepAll.drop n h3
theorem RepAll.flat : ∀ {d : D} {n : Nat} {v : V}, Rep G H d v → RepAll G H (List.replicate n d) (List.replicate n v)
  | _, 0, _, _ => (rfl : ([] : List V) = [])
  | d, n + 1, v, h => ⟨v, List.replicate n v, rfl, h, RepAll.flat h⟩
end

/-! ### hidden objects -/
def hid (hd : Addr → Bool) (H : Hp) : Hp := fun a => if hd a = true then none else H a
theorem hid_some {hd : Addr → Bool} {H : Hp} {a : Addr} {o : HO} : hid hd H a = some o ↔ hd a = false ∧ H a = some o := by
  unfold hid
  cases h : hd a <;> simp
theorem hid_same {hd : Addr → Bool} {H H' : Hp} (e : ∀ a o, hd a = false → H a = some o → H' a = some o) : Same (hid hd H) (hid hd H') := fun a o h => by
  obtain ⟨h1, h2⟩ := hid_some.mp h
  exact hid_some.mpr ⟨h1, e a o h1 h2⟩
theorem hid_le {hd hd' : Addr → Bool} {H : Hp} (e : ∀ a o, H a = some o → hd a = false → hd' a = false) : Same (hid hd H) (hid hd' H) := fun a o h => by
  obtain ⟨h1, h2⟩ := hid_some.mp h
  exact hid_some.mpr ⟨e a o h2 h1, h2⟩
theorem hid_self {hd : Addr → Bool} {H : Hp} : Same (hid hd H) H := fun a o h => (hid_some.mp h).2

/-! ### the world: what is known of objects that calls may change -/
structure Wd (M : Type) where
  A : Addr → Bool
  R : M → Hp → Prop
  hs : List V
  fr : ∀ m H H', (∀ a, A a = true → H' a = H a) → R m H → R m H'
  al : ∀ m H a, A a = true → R m H → H a ≠ none
/-- no world -/
def wd0 : Wd Unit := ⟨fun _ => false, fun _ _ => True, [], fun _ _ _ _ h => h, fun _ _ _ h => by cases h⟩

/-- an exception: its class's name, its attributes -/
structure Exn where
  c : Str
  ns : List Str
  ds : List D
/-- what comes of an expression: data, an exception, or nothing that is known -/
inductive Rs (M α : Type) where
  | ok (a : α) (m : M) | exc (x : Exn) (m : M) | bad
def Rs.bind {M α β : Type} (r : Rs M α) (f : α → M → Rs M β) : Rs M β := match r with
  | .ok a m => f a m
  | .exc x m => .exc x m
  | .bad => .bad
/-- what a slot holds: nothing that is known, data, what is one's own, a handle of the world -/
inductive Sl where
  | un | dat (d : D) | own (t : T) | hnd (n : Nat)
  deriving Inhabited
abbrev Sls := List Sl
abbrev Fe (M : Type) := Sls → M → Rs M D
abbrev Ft (M : Type) := Sls → M → Rs M Bool
abbrev Fa (M : Type) := Sls → M → Rs M (List D)

section
variable {M : Type}
/-- all but the world's objects stand -/
def Stp (W : Wd M) (H H2 : Hp) : Prop := ∀ a o, W.A a = false → H a = some o → H2 a = some o
theorem Stp.refl {W : Wd M} {H : Hp} : Stp W H H := fun _ _ _ h => h
theorem Stp.trans {W : Wd M} {H H1 H2 : Hp} (a : Stp W H H1) (b : Stp W H1 H2) : Stp W H H2 := fun x o w h => b x o w (a x o w h)
theorem Stp.of {W : Wd M} {H H2 : Hp} (e : Same H H2) : Stp W H H2 := fun a o _ h => e a o h
theorem Wd.keep {W : Wd M} {m : M} {H H2 : Hp} (r : W.R m H) (e : Same H H2) : W.R m H2 := W.fr m H H2 (fun a ha => by
  cases h : H a with
  | none => exact absurd h (W.al m H a ha r)
  | some o => exact e a o h) r

mutual
/-- t lies at v, in the objects fp -/
def OwnAt (G : Gx) (hd : Addr → Bool) (H : Hp) : T → V → List Addr → Prop
  | .dat d, v, fp => fp = [] ∧ Rep G (hid hd H) d v
  | .lst ts, v, fp => ∃ a xs fs, v = .ref a ∧ H a = some (.lst xs) ∧ fp = a :: fs ∧ OwnAll G hd H ts xs fs
  | .ins c ns ts, v, fp => ∃ a dx xs fs, v = .ref a ∧ H a = some (.ins (G.cn c) dx (ns.zip xs)) ∧ ns.length = ts.length ∧ fp = a :: fs ∧ OwnAll G hd H ts xs fs
  | .dK ks ts, v, fp => ∃ a xs fs, v = .ref a ∧ H a = some (.dK (ks.zip xs)) ∧ ks.length = ts.length ∧ fp = a :: fs ∧ OwnAll G hd H ts xs fs
  | .dT ks ts, v, fp => ∃ a xs fs, v = .ref a ∧ H a = some (.dT (ks.zip xs)) ∧ ks.length = ts.length ∧ fp = a :: fs ∧ OwnAll G hd H ts xs fs
def OwnAll (G : Gx) (hd : Addr → Bool) (H : Hp) : List T → List V → List Addr → Prop
  | [], vs, fp => vs = [] ∧ fp = []
  | t :: ts, vs, fp => ∃ v r f1 f2, vs = v :: r ∧ fp = f1 ++ f2 ∧ OwnAt G hd H t v f1 ∧ OwnAll G hd H ts r f2
end
section
variable {G : Gx} {hd hd2 : Addr → Bool} {H H2 : Hp}
mutual
/-- one's own stands as long as its objects stand -/
theorem OwnAt.mono (e : Same (hid hd H) (hid hd2 H2)) : ∀ (t : T) {v : V} {fp : List Addr}, (∀ a ∈ fp, ∀ o, H a = some o → H2 a = some o) → OwnAt G hd H t v fp → OwnAt G hd2 H2 t v fp
  | .dat d, _, _, _, ⟨h1, h2⟩ => ⟨h1, Rep.mono e d h2⟩
  | .lst ts, _, _, k, ⟨a, xs, fs, h1, h2, h3, h4⟩ => by
    subst h3
    exact ⟨a, xs, fs, h1, k a (List.mem_cons_self ..) _ h2, rfl, OwnAll.mono e ts (fun b hb => k b (List.mem_cons_of_mem _ hb)) h4⟩
  | .ins c ns ts, _, _, k, ⟨a, dx, xs, fs, h1, h2, hl, h3, h4⟩ => by
    subst h3
    exact ⟨a, dx, xs, fs, h1, k a (List.mem_cons_self ..) _ h2, hl, rfl, OwnAll.mono e ts (fun b hb => k b (List.mem_cons_of_mem _ hb)) h4⟩
  | .dK ks ts, _, _, k, ⟨a, xs, fs, h1, h2, hl, h3, h4⟩ => by
    subst h3
    exact ⟨a, xs, fs, h1, k a (List.mem_cons_self ..) _ h2, hl, rfl, OwnAll.mono e ts (fun b hb => k b (List.mem_cons_of_mem _ hb)) h4⟩
  | .dT ks ts, _, _, k, ⟨a, xs, fs, h1, h2, hl, h3, h4⟩ => by
    subst h3
    exact ⟨a, xs, fs, h1, k a (List.mem_cons_self ..) _ h2, hl, rfl, OwnAll.mono e ts (fun b hb => k b (List.mem_cons_of_mem _ hb)) h4⟩
theorem OwnAll.mono (e : Same (hid hd H) (hid hd2 H2)) : ∀ (ts : List T) {vs : List V} {fp : List Addr}, (∀ a ∈ fp, ∀ o, H a = some o → H2 a = some o) → OwnAll G hd H ts vs fp → OwnAll G hd2 H2 ts vs fp
  | [], _, _, _, h => h
  | t :: ts, _, _, k, ⟨v, r, f1, f2, h1, h2, h3, h4⟩ => by
    subst h2
    exact ⟨v, r, f1, f2, h1, rfl, OwnAt.mono e t (fun b hb => k b (List.mem_append_left _ hb)) h3, OwnAll.mono e ts (fun b hb => k b (List.mem_append_right _ hb)) h4⟩
end
theorem OwnAll.length : ∀ {ts : List T} {vs : List V} {fp : List Addr}, OwnAll G hd H ts vs fp → vs.length = ts.length
  | [], _, _, ⟨h, _⟩ => by rw [h]; rfl
  | t :: ts, _, _, ⟨v, r, f1, f2, h1, h2, h3, h4⟩ => by rw [h1, List.length_cons, List.length_cons, OwnAll.length h4]
end

def SlOk (G : Gx) (W : Wd M) (hd ow : Addr → Bool) (H : Hp) : Sl → Option V → Prop
  | .un, _ => True
  | .dat d, v => ∃ x, v = some x ∧ Rep G (hid hd H) d x
  | .own _, v => ∃ x, v = some x
  | .hnd n, v => ∃ x, v = some x ∧ W.hs[n]? = some x

/-- the slots' values are what δ says; hb: hidden by callers, ow: this frame's own -/
structure EnvOk (G : Gx) (W : Wd M) (hb ow : Addr → Bool) (σ : L2.St) (H : Hp) (δ : Sls) : Prop where
  len : δ.length = σ.length
  wa : ∀ a, W.A a = true → hb a = true
  sep : ∀ a, ow a = true → hb a = false
  al : ∀ a, hb a = true ∨ ow a = true → H a ≠ none
  sl : ∀ (i : Nat) s, δ[i]? = some s → ∃ v, σ[i]? = some v ∧ SlOk G W (fun a => hb a || ow a) ow H s v
  fp : ∃ φ : Nat → List Addr, (∀ i t x, δ[i]? = some (.own t) → σ[i]? = some (some x) → OwnAt G (fun a => hb a || ow a) H t x (φ i) ∧ (φ i).Nodup ∧ ∀ a ∈ φ i, ow a = true) ∧
    ∀ i j t u, δ[i]? = some (.own t) → δ[j]? = some (.own u) → i ≠ j → ∀ a ∈ φ i, a ∉ φ j

def hdOf (hb ow : Addr → Bool) : Addr → Bool := fun a => hb a || ow a

section
variable {G : Gx} {W : Wd M} {hb ow ow2 : Addr → Bool} {σ : L2.St} {H H2 : Hp} {δ : Sls} {m : M}
theorem SlOk.step {hd : Addr → Bool} (hwa : ∀ a, W.A a = true → hd a = true) (how : ∀ a, ow a = true → W.A a = false) (e : Stp W H H2) : ∀ {s : Sl} {v : Option V}, SlOk G W hd ow H s v → SlOk G W hd ow H2 s v := by
  have hs : Same (hid hd H) (hid hd H2) := hid_same fun a o h1 h2 => by
    refine e a o ?_ h2
    cases q : W.A a with
    | false => rfl
    | true => rw [hwa a q] at h1; cases h1
  intro s v h
  cases s with
  | un => trivial
  | dat d =>
    obtain ⟨x, h1, h2⟩ := h
    exact ⟨x, h1, Rep.mono hs d h2⟩
  | own t => exact h
  | hnd n => exact h
theorem EnvOk.how (E : EnvOk G W hb ow σ H δ) : ∀ a, ow a = true → W.A a = false := fun a h => by
  cases q : W.A a with
  | false => rfl
  | true =>
    have h1 := E.wa a q
    rw [E.sep a h] at h1
    cases h1
theorem EnvOk.step (E : EnvOk G W hb ow σ H δ) (e : Stp W H H2) (r : W.R m H2) : EnvOk G W hb ow σ H2 δ := by
  refine ⟨E.len, E.wa, E.sep, fun a h => ?_, fun i s hs => ?_, ?_⟩
  · cases q : W.A a with
    | true => exact W.al m H2 a q r
    | false =>
      cases q2 : H a with
      | none => exact absurd q2 (E.al a h)
      | some o =>
        rw [e a o q q2]
        simp
  · obtain ⟨v, h1, h2⟩ := E.sl i s hs
    exact ⟨v, h1, SlOk.step (fun a h => by rw [E.wa a h]; rfl) E.how e h2⟩
  · obtain ⟨φ, h1, h2⟩ := E.fp
    have hs : Same (hid (fun a => hb a || ow a) H) (hid (fun a => hb a || ow a) H2) := hid_same fun a o q1 q2 => by
      refine e a o ?_ q2
      cases q : W.A a with
      | false => rfl
      | true => rw [E.wa a q] at q1; cases q1
    refine ⟨φ, fun i t x q1 q2 => ?_, h2⟩
    obtain ⟨k1, k2, k3⟩ := h1 i t x q1 q2
    exact ⟨OwnAt.mono hs t (fun a ha o ho => e a o (E.how a (k3 a ha)) ho) k1, k2, k3⟩
end

/-- how an exception lies: its class, its own dict's attributes -/
def ExcOk (G : Gx) (H : Hp) (x : Exn) (cls : Value) (dd : Option Addr) : Prop :=
  cls = .ref (G.cn x.c) ∧ ∃ d xs, dd = some d ∧ H d = some (.xd (x.ns.zip xs)) ∧ RepAll G H x.ds xs
theorem ExcOk.mono {G : Gx} {H H' : Hp} {x : Exn} {cls : Value} {dd : Option Addr} (e : Same H H') (h : ExcOk G H x cls dd) : ExcOk G H' x cls dd := by
  obtain ⟨h1, d, xs, h2, h3, h4⟩ := h
  exact ⟨h1, d, xs, h2, e _ _ h3, RepAll.mono e _ h4⟩

/-- what is wanted behind a result -/
def Post (G : Gx) (W : Wd M) (hd : Addr → Bool) (E : XK) (H : Hp) (Q : VK) : Rs M D → Prop
  | .ok d m => ∀ v H2, Stp W H H2 → W.R m H2 → Rep G (hid hd H2) d v → Q v H2
  | .exc x m => ∀ cls dd H2, Stp W H H2 → W.R m H2 → ExcOk G (hid hd H2) x cls dd → E cls dd H2
  | .bad => False
def PostT (G : Gx) (W : Wd M) (hd : Addr → Bool) (E : XK) (H : Hp) (Q : Bool → Hp → Prop) : Rs M Bool → Prop
  | .ok b m => ∀ H2, Stp W H H2 → W.R m H2 → Q b H2
  | .exc x m => ∀ cls dd H2, Stp W H H2 → W.R m H2 → ExcOk G (hid hd H2) x cls dd → E cls dd H2
  | .bad => False
def PostA (G : Gx) (W : Wd M) (hd : Addr → Bool) (E : XK) (H : Hp) (Q : List V → Hp → Prop) : Rs M (List D) → Prop
  | .ok ds m => ∀ vs H2, Stp W H H2 → W.R m H2 → RepAll G (hid hd H2) ds vs → Q vs H2
  | .exc x m => ∀ cls dd H2, Stp W H H2 → W.R m H2 → ExcOk G (hid hd H2) x cls dd → E cls dd H2
  | .bad => False

/-- the state at hand -/
structure At (G : Gx) (𝒲 : Wd M → Prop) (W : Wd M) (hb ow : Addr → Bool) (σ : L2.St) (H : Hp) (δ : Sls) (m : M) : Prop where
  w : 𝒲 W
  env : EnvOk G W hb ow σ H δ
  r : W.R m H

/-- the readings: an expression's, a test's, an argument list's -/
def tD (G : Gx) (𝒲 : Wd M → Prop) (E : XK) (f : Fe M) : TE := fun σ H Q => ∃ W hb ow δ m, At G 𝒲 W hb ow σ H δ m ∧ Post G W (hdOf hb ow) E H Q (f δ m)
def tDT (G : Gx) (𝒲 : Wd M → Prop) (E : XK) (f : Ft M) : TT := fun σ H Q => ∃ W hb ow δ m, At G 𝒲 W hb ow σ H δ m ∧ PostT G W (hdOf hb ow) E H Q (f δ m)
def tDA (G : Gx) (𝒲 : Wd M → Prop) (E : XK) (f : Fa M) : TA := fun σ H Q => ∃ W hb ow δ m, At G 𝒲 W hb ow σ H δ m ∧ PostA G W (hdOf hb ow) E H Q (f δ m)

section
variable {G : Gx} {𝒲 : Wd M → Prop} {W : Wd M} {hb ow : Addr → Bool} {σ : L2.St} {H H2 : Hp} {δ : Sls} {m m2 : M} {E : XK}
theorem At.step (a : At G 𝒲 W hb ow σ H δ m) (e : Stp W H H2) (r : W.R m2 H2) : At G 𝒲 W hb ow σ H2 δ m2 := ⟨a.w, a.env.step e r, r⟩
/-- carried over a step -/
theorem At.same (a : At G 𝒲 W hb ow σ H δ m) (e : Stp W H H2) : Same (hid (hdOf hb ow) H) (hid (hdOf hb ow) H2) := hid_same fun b o h1 h2 => by
  refine e b o ?_ h2
  cases q : W.A b with
  | false => rfl
  | true =>
    unfold hdOf at h1
    rw [a.env.wa b q] at h1
    cases h1
theorem Post.from_ {hd : Addr → Bool} {Q : VK} {r : Rs M D} (e : Stp W H H2) (h : Post G W hd E H Q r) : Post G W hd E H2 Q r := by
  cases r with
  | ok d m => exact fun v H3 s => h v H3 (e.trans s)
  | exc x m => exact fun c dd H3 s => h c dd H3 (e.trans s)
  | bad => exact h
theorem PostT.from_ {hd : Addr → Bool} {Q : Bool → Hp → Prop} {r : Rs M Bool} (e : Stp W H H2) (h : PostT G W hd E H Q r) : PostT G W hd E H2 Q r := by
  cases r with
  | ok d m => exact fun H3 s => h H3 (e.trans s)
  | exc x m => exact fun c dd H3 s => h c dd H3 (e.trans s)
  | bad => exact h
theorem PostA.from_ {hd : Addr → Bool} {Q : List V → Hp → Prop} {r : Rs M (List D)} (e : Stp W H H2) (h : PostA G W hd E H Q r) : PostA G W hd E H2 Q r := by
  cases r with
  | ok d m => exact fun v H3 s => h v H3 (e.trans s)
  | exc x m => exact fun c dd H3 s => h c dd H3 (e.trans s)
  | bad => exact h
/-- an address that is new is not hidden -/
theorem EnvOk.fresh (e : EnvOk G W hb ow σ H δ) {p : Addr} (hp : H p = none) : hdOf hb ow p = false := by
  unfold hdOf
  cases h1 : hb p with
  | true => exact absurd hp (e.al p (.inl h1))
  | false =>
    cases h2 : ow p with
    | true => exact absurd hp (e.al p (.inr h2))
    | false => rfl
end
end

theorem PE.imp {X : Cx} {e : Expr} {t t' : TE} (h : PE X e t) (k : ∀ σ H Q, t' σ H Q → t σ H Q) : PE X e t' := ⟨fun pins s σ H Q I q => h.run pins s σ H Q I (k σ H Q q)⟩
theorem PT.imp {X : Cx} {e : Expr} {t t' : TT} (h : PT X e t) (k : ∀ σ H Q, t' σ H Q → t σ H Q) : PT X e t' := ⟨fun pins s σ H Q I q => h.run pins s σ H Q I (k σ H Q q)⟩
theorem PW.imp {X : Cx} {e : Expr} {t t' : TT} (h : PW X e t) (k : ∀ σ H Q, t' σ H Q → t σ H Q) : PW X e t' := ⟨fun wh pins s σ H Q I q => h.run wh pins s σ H Q I (k σ H Q q)⟩
theorem PA.imp {X : Cx} {e : List Expr} {t t' : TA} (h : PA X e t) (k : ∀ σ H Q, t' σ H Q → t σ H Q) : PA X e t' := ⟨fun pos pins s σ H Q I q => h.run pos pins s σ H Q I (k σ H Q q)⟩
theorem PS.imp {X : Cx} {e : Stmt} {t t' : TS} (h : PS X e t) (k : ∀ D σ H, t' D σ H → t D σ H) : PS X e t' := ⟨fun pins s σ H D I q => h.run pins s σ H D I (k D σ H q)⟩
theorem PSs.imp {X : Cx} {e : List Stmt} {t t' : TS} (h : PSs X e t) (k : ∀ D σ H, t' D σ H → t D σ H) : PSs X e t' := ⟨fun pins s σ H D I q => h.run pins s σ H D I (k D σ H q)⟩

end DL

/-! Expressions over data: one rule for each construct. -/
namespace DL
open PySem PySem.Spec PyProof.Rows L2

/-! ### combinators -/
section
variable {M : Type}
def fVar (i : Nat) : Fe M := fun δ m => match δ[i]? with
  | some (.dat d) => .ok d m
  | _ => .bad
def fC (d : D) : Fe M := fun _ m => .ok d m
def ofO (m : M) : Option D → Rs M D
  | some d => .ok d m
  | none => .bad
def f1 (o : D → Option D) (f : Fe M) : Fe M := fun δ m => (f δ m).bind fun x m1 => ofO m1 (o x)
def f2 (o : D → D → Option D) (f g : Fe M) : Fe M := fun δ m => (f δ m).bind fun x m1 => (g δ m1).bind fun y m2 => ofO m2 (o x y)
def tru : D → Option Bool
  | .non => some false
  | .bl b => some b
  | .int i => some (i != 0)
  | .str x => some ((x.length : Int) != 0)
  | .lst ds => some (!ds.isEmpty)
  | .tup ds => some (!ds.isEmpty)
  | .dK _ _ => none
  | .dT _ _ => none
  | .ins _ _ _ => none
/-- a value as a test: a bool -/
def fB (f : Fe M) : Ft M := fun δ m => (f δ m).bind fun x m1 => match x with
  | .bl b => .ok b m1
  | _ => .bad
/-- a value's truth -/
def fTr (f : Fe M) : Ft M := fun δ m => (f δ m).bind fun x m1 => match tru x with
  | some b => .ok b m1
  | none => .bad
def fNot (f : Ft M) : Ft M := fun δ m => (f δ m).bind fun b m1 => .ok (!b) m1
def fAnd (f g : Ft M) : Ft M := fun δ m => (f δ m).bind fun b m1 => if b = true then g δ m1 else .ok false m1
def fOr (f g : Ft M) : Ft M := fun δ m => (f δ m).bind fun b m1 => if b = true then .ok true m1 else g δ m1
def fIf (t : Ft M) (f g : Fe M) : Fe M := fun δ m => (t δ m).bind fun b m1 => if b = true then f δ m1 else g δ m1
def fNotV (f : Fe M) : Fe M := fun δ m => (f δ m).bind fun x m1 => match x with
  | .bl b => .ok (.bl (!b)) m1
  | _ => .bad
def fAndV (f g : Fe M) : Fe M := fun δ m => (f δ m).bind fun x m1 => match x with
  | .bl true => g δ m1
  | .bl false => .ok (.bl false) m1
  | _ => .bad
def fOrV (f g : Fe M) : Fe M := fun δ m => (f δ m).bind fun x m1 => match x with
  | .bl false => g δ m1
  | .bl true => .ok (.bl true) m1
  | _ => .bad
def fNil : Fa M := fun _ m => .ok [] m
def fCons (f : Fe M) (g : Fa M) : Fa M := fun δ m => (f δ m).bind fun x m1 => (g δ m1).bind fun xs m2 => .ok (x :: xs) m2
def fTup (g : Fa M) : Fe M := fun δ m => (g δ m).bind fun xs m1 => if xs.length ≤ sizeLine then .ok (.tup xs) m1 else .bad
def fLst (g : Fa M) : Fe M := fun δ m => (g δ m).bind fun xs m1 => if xs.length ≤ sizeLine then .ok (.lst xs) m1 else .bad
/-- a call of a built-in by its values -/
def fCB (o : List D → Option D) (g : Fa M) : Fe M := fun δ m => (g δ m).bind fun xs m1 => ofO m1 (o xs)
/-- two comparisons in a row -/
def fChain (o o' : D → D → Option D) (f g h : Fe M) : Fe M := fun δ m => (f δ m).bind fun x m1 => (g δ m1).bind fun y m2 => match o x y with
  | some (.bl true) => (h δ m2).bind fun z m3 => ofO m3 (o' y z)
  | some (.bl false) => .ok (.bl false) m2
  | _ => .bad
end

/-! ### operators on data -/
mutual
def D.py : D → Option PyData
  | .non => some .none
  | .bl b => some (.bool b)
  | .int i => some (.int i)
  | .str x => some (.str x)
  | .lst ds => (D.pyAll ds).map .list
  | .tup ds => (D.pyAll ds).map .tuple
  | .dK _ _ => none
  | .dT _ _ => none
  | .ins _ _ _ => none
def D.pyAll : List D → Option (List PyData)
  | [] => some []
  | d :: ds => (D.py d).bind fun x => (D.pyAll ds).map fun xs => x :: xs
end
def oEq (x y : D) : Option D := (D.py x).bind fun a => (D.py y).bind fun b => if SeqAt.shaped a = true ∧ SeqAt.shaped b = true then some (.bl (PyData.eqv a b)) else none
def oNe (x y : D) : Option D := (D.py x).bind fun a => (D.py y).bind fun b => if SeqAt.shaped a = true ∧ SeqAt.shaped b = true then some (.bl (!PyData.eqv a b)) else none
def oAdd : D → D → Option D
  | .int i, .int j => some (.int (i + j))
  | .str a, .str b => if a.length + b.length ≤ sizeLine then some (.str (a ++ b)) else none
  | .lst a, .lst b => if a.length + b.length ≤ sizeLine then some (.lst (a ++ b)) else none
  | .tup a, .tup b => if a.length + b.length ≤ sizeLine then some (.tup (a ++ b)) else none
  | _, _ => none
def oSub : D → D → Option D
  | .int i, .int j => some (.int (i - j))
  | _, _ => none
def oMul : D → D → Option D
  | .int i, .int j => if (-(2 ^ 64) < i ∧ i < 2 ^ 64) ∨ (-(2 ^ 64) < j ∧ j < 2 ^ 64) then some (.int (i * j)) else none
  | .lst a, .int k => if -(2 ^ 63) ≤ k ∧ k < 2 ^ 63 ∧ a.length * k.toNat ≤ sizeLine then some (.lst (List.replicate k.toNat a).flatten) else none
  | _, _ => none
def oMod : D → D → Option D
  | .int i, .int j => if 0 < j then some (.int (i % j)) else none
  | _, _ => none
def oFdiv : D → D → Option D
  | .int i, .int j => if 0 < j ∧ j < 1073741824 then some (.int (i / j)) else none
  | _, _ => none
def oPow : D → D → Option D
  | .int i, .int j => if 0 ≤ j ∧ j ≤ 1000000 ∧ i.natAbs < 2 ^ 64 then some (.int (i ^ j.toNat)) else none
  | _, _ => none
def oLt : D → D → Option D
  | .int i, .int j => some (.bl (decide (i < j)))
  | .str a, .str b => some (.bl (decide (a.cps.toList < b.cps.toList)))
  | _, _ => none
def oLe : D → D → Option D
  | .int i, .int j => some (.bl (decide (i ≤ j)))
  | _, _ => none
def oGt : D → D → Option D
  | .int i, .int j => some (.bl (decide (j < i)))
  | _, _ => none
def oGe : D → D → Option D
  | .int i, .int j => some (.bl (decide (j ≤ i)))
  | _, _ => none
def oIsN : D → Option D
  | .non => some (.bl true)
  | _ => some (.bl false)
def oNotN : D → Option D
  | .non => some (.bl false)
  | _ => some (.bl true)
def oNeg : D → Option D
  | .int i => some (.int (-i))
  | _ => none
/-- flat data -/
def D.flat : D → Bool
  | .non | .bl _ | .int _ | .str _ => true
  | _ => false
def D.eqF : D → D → Bool
  | .non, .non => true
  | .bl a, .bl b => a == b
  | .bl a, .int j => (if a then 1 else 0) == j
  | .int i, .bl b => i == (if b then 1 else 0)
  | .int i, .int j => i == j
  | .str x, .str y => x == y
  | _, _ => false
def oIn : D → D → Option D
  | .str c, .str z => if h : c.cps.size = 1 then some (.bl (decide (c.cps[0] ∈ z.cps.toList))) else some (.bl (!(Builtin.Str.occurrences z c 0 z.length 1).isEmpty))
  | x, .lst ys => if x.flat = true ∧ ys.all D.flat = true then some (.bl (ys.any fun y => D.eqF y x)) else none
  | x, .tup ys => if x.flat = true ∧ ys.all D.flat = true then some (.bl (ys.any fun y => D.eqF y x)) else none
  | _, _ => none
def neg1 : Option D → Option D
  | some (.bl b) => some (.bl (!b))
  | _ => none
def oNotIn (x y : D) : Option D := neg1 (oIn x y)
/-- an item by its place -/
def oIx : D → D → Option D
  | .lst ds, .int i => atI ds i
  | .tup ds, .int i => atI ds i
  | .str z, .int i => (atI z.cps.toList i).map fun c => .str ⟨#[c]⟩
  | _, _ => none
def oLen : List D → Option D
  | [.lst ds] => some (.int ds.length)
  | [.tup ds] => some (.int ds.length)
  | [.str z] => some (.int z.length)
  | _ => none
def oInt : List D → Option D
  | [.int i] => some (.int i)
  | [.bl b] => some (.int (if b then 1 else 0))
  | _ => none
def oAbs : List D → Option D
  | [.int i] => some (.int (if i < 0 then -i else i))
  | _ => none
def signsOf (z : Str) : List D := z.cps.toList.map fun c => .str ⟨#[c]⟩
def oList : List D → Option D
  | [.lst ds] => some (.lst ds)
  | [.tup ds] => some (.lst ds)
  | _ => none
def oTuple : List D → Option D
  | [.lst ds] => some (.tup ds)
  | [.tup ds] => some (.tup ds)
  | _ => none
def boolsOf : List D → Option (List Bool)
  | [] => some []
  | .bl b :: ds => (boolsOf ds).map fun bs => b :: bs
  | _ :: _ => none
def oAll : List D → Option D
  | [.lst ds] => (boolsOf ds).map fun bs => .bl (bs.all id)
  | _ => none
def oAny : List D → Option D
  | [.lst ds] => (boolsOf ds).map fun bs => .bl (bs.any id)
  | _ => none
def intsOf : List D → Option (List Int)
  | [] => some []
  | .int b :: ds => (intsOf ds).map fun bs => b :: bs
  | _ :: _ => none

/-! ### what a rule by values must keep -/
def RD1 (G : Gx) (r : V → Hp → VK → Prop) (o : D → Option D) : Prop := ∀ (hd : Addr → Bool) (H : Hp) (x d : D) (v : V) (Q : VK), (∀ p, H p = none → hd p = false) →
  Rep G (hid hd H) x v → o x = some d → (∀ w H2, Same H H2 → Rep G (hid hd H2) d w → Q w H2) → r v H Q
def RD2 (G : Gx) (r : R2) (o : D → D → Option D) : Prop := ∀ (hd : Addr → Bool) (H : Hp) (x y d : D) (v u : V) (Q : VK), (∀ p, H p = none → hd p = false) →
  Rep G (hid hd H) x v → Rep G (hid hd H) y u → o x y = some d → (∀ w H2, Same H H2 → Rep G (hid hd H2) d w → Q w H2) → r v u H Q
def RDA (G : Gx) (r : List V → Hp → VK → Prop) (o : List D → Option D) : Prop := ∀ (hd : Addr → Bool) (H : Hp) (xs : List D) (d : D) (vs : List V) (Q : VK), (∀ p, H p = none → hd p = false) →
  RepAll G (hid hd H) xs vs → o xs = some d → (∀ w H2, Same H H2 → Rep G (hid hd H2) d w → Q w H2) → r vs H Q

section
variable {M : Type} {G : Gx} {𝒲 : Wd M → Prop} {E : XK} {σ : L2.St} {H : Hp} {Q : VK}
theorem At.new {W : Wd M} {hb ow : Addr → Bool} {δ : Sls} {m : M} (a : At G 𝒲 W hb ow σ H δ m) : ∀ p, H p = none → hdOf hb ow p = false := fun _ hp => a.env.fresh hp
theorem At.kept {W : Wd M} {hb ow : Addr → Bool} {δ : Sls} {m : M} {H2 : Hp} (a : At G 𝒲 W hb ow σ H δ m) (e : Same H H2) : Stp W H H2 ∧ W.R m H2 := ⟨Stp.of e, W.keep a.r e⟩
theorem post_of {W : Wd M} {hd : Addr → Bool} {m : M} {d : D} {H1 H2 : Hp} (s1 : Stp W H H1) (r1 : W.R m H1) (p : Post G W hd E H Q (.ok d m)) (e : Same H1 H2) {w : V} (rw_ : Rep G (hid hd H2) d w) : Q w H2 :=
  p w H2 (s1.trans (Stp.of e)) (W.keep r1 e) rw_
theorem lift2 {r : R2} {o : D → D → Option D} {f g : Fe M} (hr : RD2 G r o) (h : tD G 𝒲 E (f2 o f g) σ H Q) : tOp r (tD G 𝒲 E f) (tD G 𝒲 E g) σ H Q := by
  obtain ⟨W, hb, ow, δ, m, at0, p⟩ := h
  refine ⟨W, hb, ow, δ, m, at0, ?_⟩
  unfold f2 at p
  cases hf : f δ m with
  | bad => rw [hf] at p; exact p
  | exc x m1 => rw [hf] at p; exact p
  | ok x m1 =>
    rw [hf] at p
    intro v H1 s1 r1 rx
    have a1 := at0.step s1 r1
    refine ⟨W, hb, ow, δ, m1, a1, ?_⟩
    replace p := Post.from_ s1 p
    simp only [Rs.bind] at p
    cases hg : g δ m1 with
    | bad => rw [hg] at p; exact p
    | exc x2 m2 => rw [hg] at p; exact p
    | ok y m2 =>
      rw [hg] at p
      intro u H2 s2 r2 ry
      have a2 := a1.step s2 r2
      simp only at p
      cases ho : o x y with
      | none => rw [ho] at p; exact False.elim p
      | some d =>
        rw [ho] at p
        exact hr _ H2 x y d v u Q a2.new (Rep.mono (a1.same s2) x rx) ry ho fun w H3 e rw_ => post_of s2 r2 p e rw_
theorem lift1 {r : V → Hp → VK → Prop} {o : D → Option D} {f : Fe M} (hr : RD1 G r o) (h : tD G 𝒲 E (f1 o f) σ H Q) : tUn r (tD G 𝒲 E f) σ H Q := by
  obtain ⟨W, hb, ow, δ, m, at0, p⟩ := h
  refine ⟨W, hb, ow, δ, m, at0, ?_⟩
  unfold f1 at p
  cases hf : f δ m with
  | bad => rw [hf] at p; exact p
  | exc x m1 => rw [hf] at p; exact p
  | ok x m1 =>
    rw [hf] at p
    intro v H1 s1 r1 rx
    have a1 := at0.step s1 r1
    simp only [Rs.bind] at p
    cases ho : o x with
    | none => rw [ho] at p; exact False.elim p
    | some d =>
      rw [ho] at p
      exact hr _ H1 x d v Q a1.new rx ho fun w H3 e rw_ => post_of s1 r1 p e rw_
theorem liftA {r : List V → Hp → VK → Prop} {o : List D → Option D} {g : Fa M} (hr : RDA G r o) (h : tD G 𝒲 E (fCB o g) σ H Q) : tCB r (tDA G 𝒲 E g) σ H Q := by
  obtain ⟨W, hb, ow, δ, m, at0, p⟩ := h
  refine ⟨W, hb, ow, δ, m, at0, ?_⟩
  unfold fCB at p
  cases hf : g δ m with
  | bad => rw [hf] at p; exact p
  | exc x m1 => rw [hf] at p; exact p
  | ok xs m1 =>
    rw [hf] at p
    intro vs H1 s1 r1 rx
    have a1 := at0.step s1 r1
    simp only [Rs.bind] at p
    cases ho : o xs with
    | none => rw [ho] at p; exact False.elim p
    | some d =>
      rw [ho] at p
      exact hr _ H1 xs d vs Q a1.new rx ho fun w H3 e rw_ => post_of s1 r1 p e rw_
theorem lift_cons {f : Fe M} {g : Fa M} {Q : List V → Hp → Prop} (h : tDA G 𝒲 E (fCons f g) σ H Q) : tCons (tD G 𝒲 E f) (tDA G 𝒲 E g) σ H Q := by
  obtain ⟨W, hb, ow, δ, m, at0, p⟩ := h
  refine ⟨W, hb, ow, δ, m, at0, ?_⟩
  unfold fCons at p
  cases hf : f δ m with
  | bad => rw [hf] at p; exact p
  | exc x m1 => rw [hf] at p; exact p
  | ok x m1 =>
    rw [hf] at p
    intro v H1 s1 r1 rx
    have a1 := at0.step s1 r1
    refine ⟨W, hb, ow, δ, m1, a1, ?_⟩
    replace p := PostA.from_ s1 p
    simp only [Rs.bind] at p
    cases hg : g δ m1 with
    | bad => rw [hg] at p; exact p
    | exc x2 m2 => rw [hg] at p; exact p
    | ok y m2 =>
      rw [hg] at p
      intro vs H2 s2 r2 ry
      exact p (v :: vs) H2 s2 r2 ⟨v, vs, rfl, Rep.mono (a1.same s2) x rx, ry⟩
theorem lift_nil {Q : List V → Hp → Prop} (h : tDA G 𝒲 E (fNil : Fa M) σ H Q) : tNil σ H Q := by
  obtain ⟨W, hb, ow, δ, m, at0, p⟩ := h
  exact p [] H Stp.refl at0.r rfl
/-- a new object -/
theorem rep_lst {hd : Addr → Bool} {p : Addr} {xs : List V} {ds : List D} (hp : H p = none) (hf : hd p = false) (r : RepAll G (hid hd H) ds xs) : Rep G (hid hd (upd H p (.lst xs))) (.lst ds) (.ref p) :=
  ⟨p, xs, rfl, hid_some.mpr ⟨hf, upd_same⟩, RepAll.mono (hid_same fun a o _ h => by rw [upd_ne (ne_of_none h hp)]; exact h) ds r⟩
theorem rep_tup {hd : Addr → Bool} {p : Addr} {xs : List V} {ds : List D} (hp : H p = none) (hf : hd p = false) (r : RepAll G (hid hd H) ds xs) : Rep G (hid hd (upd H p (.tup xs))) (.tup ds) (.ref p) :=
  ⟨p, xs, rfl, .inl (.inl (hid_some.mpr ⟨hf, upd_same⟩)), RepAll.mono (hid_same fun a o _ h => by rw [upd_ne (ne_of_none h hp)]; exact h) ds r⟩
theorem same_new {p : Addr} {o : HO} (hp : H p = none) : Same H (upd H p o) := fun a u h => by
  rw [upd_ne (ne_of_none h hp)]
  exact h
theorem lift_tup {g : Fa M} (h : tD G 𝒲 E (fTup g) σ H Q) : tTup (tDA G 𝒲 E g) σ H Q := by
  obtain ⟨W, hb, ow, δ, m, at0, p⟩ := h
  refine ⟨W, hb, ow, δ, m, at0, ?_⟩
  unfold fTup at p
  cases hf : g δ m with
  | bad => rw [hf] at p; exact p
  | exc x m1 => rw [hf] at p; exact p
  | ok xs m1 =>
    rw [hf] at p
    intro vs H1 s1 r1 rx
    have a1 := at0.step s1 r1
    simp only [Rs.bind] at p
    by_cases hl : xs.length ≤ sizeLine
    · rw [if_pos hl] at p
      exact ⟨by rw [RepAll.length rx]; exact hl, fun q hq => post_of s1 r1 p (same_new hq) (rep_tup hq (a1.new q hq) rx)⟩
    · rw [if_neg hl] at p
      exact False.elim p
theorem lift_lst {g : Fa M} (h : tD G 𝒲 E (fLst g) σ H Q) : tLst (tDA G 𝒲 E g) σ H Q := by
  obtain ⟨W, hb, ow, δ, m, at0, p⟩ := h
  refine ⟨W, hb, ow, δ, m, at0, ?_⟩
  unfold fLst at p
  cases hf : g δ m with
  | bad => rw [hf] at p; exact p
  | exc x m1 => rw [hf] at p; exact p
  | ok xs m1 =>
    rw [hf] at p
    intro vs H1 s1 r1 rx
    have a1 := at0.step s1 r1
    simp only [Rs.bind] at p
    by_cases hl : xs.length ≤ sizeLine
    · rw [if_pos hl] at p
      exact ⟨by rw [RepAll.length rx]; exact hl, fun q hq => post_of s1 r1 p (same_new hq) (rep_lst hq (a1.new q hq) rx)⟩
    · rw [if_neg hl] at p
      exact False.elim p
/-- a value, then what its data say -/
theorem lift_b {f : Fe M} {Q : Bool → Hp → Prop} (h : tDT G 𝒲 E (fB f) σ H Q) : tD G 𝒲 E f σ H fun x H' => ∃ k, x = .bl k ∧ Q k H' := by
  obtain ⟨W, hb, ow, δ, m, at0, p⟩ := h
  refine ⟨W, hb, ow, δ, m, at0, ?_⟩
  unfold fB at p
  cases hf : f δ m with
  | bad => rw [hf] at p; exact p
  | exc x m1 => rw [hf] at p; exact p
  | ok x m1 =>
    rw [hf] at p
    intro v H1 s1 r1 rx
    cases x with
    | bl b => exact ⟨b, rx, p H1 s1 r1⟩
    | _ => exact False.elim p
theorem truV_of {K : PySem.W.Frag} {x : D} {b : Bool} {v : V} {cn : Str → Addr} (r : Rep ⟨K, cn⟩ H x v) (h : tru x = some b) : TruV K v H b := by
  cases x with
  | non => obtain rfl : v = .non := r; exact (Option.some.inj h).symm
  | bl c => obtain rfl : v = .bl c := r; exact (Option.some.inj h).symm
  | int i => obtain rfl : v = .int i := r; exact (Option.some.inj h).symm
  | str z => obtain ⟨rfl, hz⟩ := r; exact ⟨hz, (Option.some.inj h).symm⟩
  | lst ds =>
    obtain ⟨a, xs, rfl, h1, h2⟩ := r
    refine .inl ⟨xs, .inl (.inl h1), ?_⟩
    have e := RepAll.length h2
    rw [← Option.some.inj h]
    cases ds <;> cases xs <;> simp_all
  | tup ds =>
    obtain ⟨a, xs, rfl, h1, h2⟩ := r
    refine .inr (.inl ⟨xs, h1, ?_⟩)
    have e := RepAll.length h2
    rw [← Option.some.inj h]
    cases ds <;> cases xs <;> simp_all
  | ins c ns ds => cases h
  | dK ks ds => cases h
  | dT ks ds => cases h
theorem lift_tr {K : PySem.W.Frag} {cn : Str → Addr} {f : Fe M} {Q : Bool → Hp → Prop} (h : tDT ⟨K, cn⟩ 𝒲 E (fTr f) σ H Q) : tD ⟨K, cn⟩ 𝒲 E f σ H fun x H' => ∃ k, TruV K x H' k ∧ Q k H' := by
  obtain ⟨W, hb, ow, δ, m, at0, p⟩ := h
  refine ⟨W, hb, ow, δ, m, at0, ?_⟩
  unfold fTr at p
  cases hf : f δ m with
  | bad => rw [hf] at p; exact p
  | exc x m1 => rw [hf] at p; exact p
  | ok x m1 =>
    rw [hf] at p
    intro v H1 s1 r1 rx
    simp only [Rs.bind] at p
    cases ht : tru x with
    | none => rw [ht] at p; exact False.elim p
    | some b =>
      rw [ht] at p
      exact ⟨b, truV_of (Rep.mono hid_self x rx) ht, p H1 s1 r1⟩
theorem lift_not {t : Ft M} {Q : Bool → Hp → Prop} (h : tDT G 𝒲 E (fNot t) σ H Q) : tNot (tDT G 𝒲 E t) σ H Q := by
  obtain ⟨W, hb, ow, δ, m, at0, p⟩ := h
  refine ⟨W, hb, ow, δ, m, at0, ?_⟩
  unfold fNot at p
  cases hf : t δ m with
  | bad => rw [hf] at p; exact p
  | exc x m1 => rw [hf] at p; exact p
  | ok x m1 => rw [hf] at p; exact fun H1 s1 r1 => p H1 s1 r1
theorem lift_and {t u : Ft M} {Q : Bool → Hp → Prop} (h : tDT G 𝒲 E (fAnd t u) σ H Q) : tAnd (tDT G 𝒲 E t) (tDT G 𝒲 E u) σ H Q := by
  obtain ⟨W, hb, ow, δ, m, at0, p⟩ := h
  refine ⟨W, hb, ow, δ, m, at0, ?_⟩
  unfold fAnd at p
  cases hf : t δ m with
  | bad => rw [hf] at p; exact p
  | exc x m1 => rw [hf] at p; exact p
  | ok x m1 =>
    rw [hf] at p
    intro H1 s1 r1
    cases x with
    | true =>
      rw [if_pos rfl]
      exact ⟨W, hb, ow, δ, m1, at0.step s1 r1, PostT.from_ s1 p⟩
    | false =>
      rw [if_neg Bool.false_ne_true]
      exact p H1 s1 r1
theorem lift_or {t u : Ft M} {Q : Bool → Hp → Prop} (h : tDT G 𝒲 E (fOr t u) σ H Q) : tOr (tDT G 𝒲 E t) (tDT G 𝒲 E u) σ H Q := by
  obtain ⟨W, hb, ow, δ, m, at0, p⟩ := h
  refine ⟨W, hb, ow, δ, m, at0, ?_⟩
  unfold fOr at p
  cases hf : t δ m with
  | bad => rw [hf] at p; exact p
  | exc x m1 => rw [hf] at p; exact p
  | ok x m1 =>
    rw [hf] at p
    intro H1 s1 r1
    cases x with
    | false =>
      rw [if_neg Bool.false_ne_true]
      exact ⟨W, hb, ow, δ, m1, at0.step s1 r1, PostT.from_ s1 p⟩
    | true =>
      rw [if_pos rfl]
      exact p H1 s1 r1
theorem lift_if {t : Ft M} {f g : Fe M} (h : tD G 𝒲 E (fIf t f g) σ H Q) : tIf (tDT G 𝒲 E t) (tD G 𝒲 E f) (tD G 𝒲 E g) σ H Q := by
  obtain ⟨W, hb, ow, δ, m, at0, p⟩ := h
  refine ⟨W, hb, ow, δ, m, at0, ?_⟩
  unfold fIf at p
  cases hf : t δ m with
  | bad => rw [hf] at p; exact p
  | exc x m1 => rw [hf] at p; exact p
  | ok x m1 =>
    rw [hf] at p
    intro H1 s1 r1
    cases x with
    | true =>
      rw [if_pos rfl]
      exact ⟨W, hb, ow, δ, m1, at0.step s1 r1, Post.from_ s1 p⟩
    | false =>
      rw [if_neg Bool.false_ne_true]
      exact ⟨W, hb, ow, δ, m1, at0.step s1 r1, Post.from_ s1 p⟩
theorem lift_andV {f g : Fe M} (h : tD G 𝒲 E (fAndV f g) σ H Q) : tAndV (tD G 𝒲 E f) (tD G 𝒲 E g) σ H Q := by
  obtain ⟨W, hb, ow, δ, m, at0, p⟩ := h
  refine ⟨W, hb, ow, δ, m, at0, ?_⟩
  unfold fAndV at p
  cases hf : f δ m with
  | bad => rw [hf] at p; exact p
  | exc x m1 => rw [hf] at p; exact p
  | ok x m1 =>
    rw [hf] at p
    intro v H1 s1 r1 rx
    cases x with
    | bl b =>
      refine ⟨b, rx, ?_⟩
      cases b with
      | true =>
        rw [if_pos rfl]
        exact ⟨W, hb, ow, δ, m1, at0.step s1 r1, Post.from_ s1 p⟩
      | false =>
        rw [if_neg Bool.false_ne_true]
        exact p _ H1 s1 r1 rfl
    | _ => exact False.elim p
theorem lift_orV {f g : Fe M} (h : tD G 𝒲 E (fOrV f g) σ H Q) : tOrV (tD G 𝒲 E f) (tD G 𝒲 E g) σ H Q := by
  obtain ⟨W, hb, ow, δ, m, at0, p⟩ := h
  refine ⟨W, hb, ow, δ, m, at0, ?_⟩
  unfold fOrV at p
  cases hf : f δ m with
  | bad => rw [hf] at p; exact p
  | exc x m1 => rw [hf] at p; exact p
  | ok x m1 =>
    rw [hf] at p
    intro v H1 s1 r1 rx
    cases x with
    | bl b =>
      refine ⟨b, rx, ?_⟩
      cases b with
      | false =>
        rw [if_neg Bool.false_ne_true]
        exact ⟨W, hb, ow, δ, m1, at0.step s1 r1, Post.from_ s1 p⟩
      | true =>
        rw [if_pos rfl]
        exact p _ H1 s1 r1 rfl
    | _ => exact False.elim p
theorem lift_notV {f : Fe M} (h : tD G 𝒲 E (fNotV f) σ H Q) : tNotV (tD G 𝒲 E f) σ H Q := by
  obtain ⟨W, hb, ow, δ, m, at0, p⟩ := h
  refine ⟨W, hb, ow, δ, m, at0, ?_⟩
  unfold fNotV at p
  cases hf : f δ m with
  | bad => rw [hf] at p; exact p
  | exc x m1 => rw [hf] at p; exact p
  | ok x m1 =>
    rw [hf] at p
    intro v H1 s1 r1 rx
    cases x with
    | bl b => exact ⟨b, rx, p _ H1 s1 r1 rfl⟩
    | _ => exact False.elim p
theorem lift_chain {r r' : R2} {o o' : D → D → Option D} {f g h : Fe M} (hr : RD2 G r o) (hr' : RD2 G r' o') (h0 : tD G 𝒲 E (fChain o o' f g h) σ H Q) : tChain r r' (tD G 𝒲 E f) (tD G 𝒲 E g) (tD G 𝒲 E h) σ H Q := by
  obtain ⟨W, hb, ow, δ, m, at0, p⟩ := h0
  refine ⟨W, hb, ow, δ, m, at0, ?_⟩
  unfold fChain at p
  cases hf : f δ m with
  | bad => rw [hf] at p; exact p
  | exc x m1 => rw [hf] at p; exact p
  | ok x m1 =>
    rw [hf] at p
    intro v H1 s1 r1 rx
    have a1 := at0.step s1 r1
    refine ⟨W, hb, ow, δ, m1, a1, ?_⟩
    replace p := Post.from_ s1 p
    simp only [Rs.bind] at p
    cases hg : g δ m1 with
    | bad => rw [hg] at p; exact p
    | exc x2 m2 => rw [hg] at p; exact p
    | ok y m2 =>
      rw [hg] at p
      intro u H2 s2 r2 ry
      have a2 := a1.step s2 r2
      simp only at p
      replace p := Post.from_ s2 p
      cases ho : o x y with
      | none => rw [ho] at p; exact False.elim p
      | some d =>
        rw [ho] at p
        refine hr _ H2 x y d v u _ a2.new (Rep.mono (a1.same s2) x rx) ry ho fun w H3 e rw_ => ?_
        cases d with
        | bl b =>
          have a3 : At G 𝒲 W hb ow σ H3 δ m2 := a2.step (Stp.of e) (W.keep a2.r e)
          refine ⟨b, rw_, ?_⟩
          replace p := Post.from_ (Stp.of e) p
          cases b with
          | false =>
            rw [if_neg Bool.false_ne_true]
            exact p _ H3 Stp.refl a3.r rfl
          | true =>
            rw [if_pos rfl]
            refine ⟨W, hb, ow, δ, m2, a3, ?_⟩
            simp only at p
            cases hh : h δ m2 with
            | bad => rw [hh] at p; exact p
            | exc x2 m3 => rw [hh] at p; exact p
            | ok z m3 =>
              rw [hh] at p
              intro t H4 s4 r4 rz
              have a4 := a3.step s4 r4
              simp only at p
              cases ho' : o' y z with
              | none => rw [ho'] at p; exact False.elim p
              | some d' =>
                rw [ho'] at p
                exact hr' _ H4 y z d' u t Q a4.new (Rep.mono (a3.same s4) y (Rep.mono (a2.same (Stp.of e)) y ry)) rz ho' fun w' H5 e' rw' => post_of s4 r4 p e' rw'
        | _ => exact False.elim p
end

/-! ### the operators' rules keep data -/
section
variable {G : Gx}
theorem rd_add : RD2 G (fun x y H Q => rI0 (fun i j => .int (i + j)) x y H Q ∨ (∃ i j, x = .str i ∧ y = .str j ∧ i.length + j.length ≤ sizeLine ∧ Q (.str (i ++ j)) H) ∨ rCat x y H Q ∨ rCatA G.K x y H Q) oAdd := by
  intro hd H x y d v u Q hn rx ry ho k
  cases x <;> cases y <;> simp only [oAdd] at ho <;> (try contradiction)
  · rename_i i j
    obtain rfl : v = .int i := rx
    obtain rfl : u = .int j := ry
    cases ho
    exact .inl ⟨i, j, rfl, rfl, k _ H (Same.refl H) rfl⟩
  · rename_i a b
    obtain ⟨rfl, h1⟩ := rx
    obtain ⟨rfl, h2⟩ := ry
    by_cases hl : a.length + b.length ≤ sizeLine
    · rw [if_pos hl] at ho
      cases ho
      refine .inr (.inl ⟨a, b, rfl, rfl, hl, k _ H (Same.refl H) ⟨rfl, ?_⟩⟩)
      rw [Str.length_append]
      exact hl
    · rw [if_neg hl] at ho; cases ho
  · rename_i a b
    obtain ⟨p, xs, rfl, h1, h2⟩ := rx
    obtain ⟨q, ys, rfl, h3, h4⟩ := ry
    by_cases hl : a.length + b.length ≤ sizeLine
    · rw [if_pos hl] at ho
      cases ho
      refine .inr (.inr (.inl ⟨p, q, xs, ys, rfl, rfl, (hid_some.mp h1).2, (hid_some.mp h3).2, by rw [RepAll.length h2, RepAll.length h4]; exact hl, fun l hl' => k _ _ (same_new hl') ?_⟩))
      exact rep_lst hl' (hn l hl') (RepAll.append h2 h4)
    · rw [if_neg hl] at ho; cases ho
  · rename_i a b
    obtain ⟨p, xs, rfl, h1, h2⟩ := rx
    obtain ⟨q, ys, rfl, h3, h4⟩ := ry
    by_cases hl : a.length + b.length ≤ sizeLine
    · rw [if_pos hl] at ho
      cases ho
      refine .inr (.inr (.inr ⟨p, q, xs, ys, rfl, rfl, Same.sqT hid_self h1, Same.sqT hid_self h3, by rw [RepAll.length h2, RepAll.length h4]; exact hl, fun e => ?_, fun _ e => ?_, fun _ _ l hl' => k _ _ (same_new hl') ?_⟩))
      · subst e
        have : a = [] := by
          have := RepAll.length h2
          cases a with
          | nil => rfl
          | cons _ _ => cases this
        subst this
        exact k _ H (Same.refl H) ⟨q, ys, rfl, h3, h4⟩
      · subst e
        have : b = [] := by
          have := RepAll.length h4
          cases b with
          | nil => rfl
          | cons _ _ => cases this
        subst this
        rw [List.append_nil] at *
        exact k _ H (Same.refl H) ⟨p, xs, rfl, h1, h2⟩
      · exact rep_tup hl' (hn l hl') (RepAll.append h2 h4)
    · rw [if_neg hl] at ho; cases ho
theorem rd_sub : RD2 G (rI0 fun i j => .int (i - j)) oSub := by
  intro hd H x y d v u Q hn rx ry ho k
  cases x <;> cases y <;> simp only [oSub] at ho <;> (try contradiction)
  rename_i i j
  obtain rfl : v = .int i := rx
  obtain rfl : u = .int j := ry
  cases ho
  exact ⟨i, j, rfl, rfl, k _ H (Same.refl H) rfl⟩
theorem RepAll.rep {H : Hp} : ∀ {n : Nat} {ds : List D} {vs : List V}, RepAll G H ds vs → RepAll G H (List.replicate n ds).flatten (List.replicate n vs).flatten
  | 0, _, _, _ => (rfl : ([] : List V) = [])
  | n + 1, ds, vs, h => by
    rw [List.replicate_succ, List.replicate_succ, List.flatten_cons, List.flatten_cons]
    exact RepAll.append h (RepAll.rep h)
theorem rd_mul : RD2 G (fun x y H Q => rI CMul (fun i j => .int (i * j)) x y H Q ∨ rRep x y H Q) oMul := by
  intro hd H x y d v u Q hn rx ry ho k
  cases x <;> cases y <;> simp only [oMul] at ho <;> (try contradiction)
  · rename_i i j
    obtain rfl : v = .int i := rx
    obtain rfl : u = .int j := ry
    by_cases hl : (-(2 ^ 64) < i ∧ i < 2 ^ 64) ∨ (-(2 ^ 64) < j ∧ j < 2 ^ 64)
    · rw [if_pos hl] at ho
      cases ho
      exact .inl ⟨i, j, rfl, rfl, hl, k _ H (Same.refl H) rfl⟩
    · rw [if_neg hl] at ho; cases ho
  · rename_i a j
    obtain ⟨p, xs, rfl, h1, h2⟩ := rx
    obtain rfl : u = .int j := ry
    by_cases hl : -(2 ^ 63) ≤ j ∧ j < 2 ^ 63 ∧ a.length * j.toNat ≤ sizeLine
    · rw [if_pos hl] at ho
      cases ho
      refine .inr ⟨p, j, xs, rfl, rfl, (hid_some.mp h1).2, hl.1, hl.2.1, by rw [RepAll.length h2]; exact hl.2.2, fun l hl' => k _ _ (same_new hl') ?_⟩
      exact rep_lst hl' (hn l hl') (RepAll.rep h2)
    · rw [if_neg hl] at ho; cases ho
theorem rd_mod : RD2 G (rI (fun _ j => 0 < j) fun i j => .int (i % j)) oMod := by
  intro hd H x y d v u Q hn rx ry ho k
  cases x <;> cases y <;> simp only [oMod] at ho <;> (try contradiction)
  rename_i i j
  obtain rfl : v = .int i := rx
  obtain rfl : u = .int j := ry
  by_cases hl : 0 < j
  · rw [if_pos hl] at ho
    cases ho
    exact ⟨i, j, rfl, rfl, hl, k _ H (Same.refl H) rfl⟩
  · rw [if_neg hl] at ho; cases ho
theorem rd_fdiv : RD2 G (rI CDiv fun i j => .int (i / j)) oFdiv := by
  intro hd H x y d v u Q hn rx ry ho k
  cases x <;> cases y <;> simp only [oFdiv] at ho <;> (try contradiction)
  rename_i i j
  obtain rfl : v = .int i := rx
  obtain rfl : u = .int j := ry
  by_cases hl : 0 < j ∧ j < 1073741824
  · rw [if_pos hl] at ho
    cases ho
    exact ⟨i, j, rfl, rfl, hl, k _ H (Same.refl H) rfl⟩
  · rw [if_neg hl] at ho; cases ho
theorem rd_pow : RD2 G (rI CPow fun i j => .int (i ^ j.toNat)) oPow := by
  intro hd H x y d v u Q hn rx ry ho k
  cases x <;> cases y <;> simp only [oPow] at ho <;> (try contradiction)
  rename_i i j
  obtain rfl : v = .int i := rx
  obtain rfl : u = .int j := ry
  by_cases hl : 0 ≤ j ∧ j ≤ 1000000 ∧ i.natAbs < 2 ^ 64
  · rw [if_pos hl] at ho
    cases ho
    exact ⟨i, j, rfl, rfl, hl, k _ H (Same.refl H) rfl⟩
  · rw [if_neg hl] at ho; cases ho
theorem rd_neg : RD1 G (rU fun i => .int (-i)) oNeg := by
  intro hd H x d v Q hn rx ho k
  cases x <;> simp only [oNeg] at ho <;> (try contradiction)
  rename_i i
  obtain rfl : v = .int i := rx
  cases ho
  exact ⟨i, rfl, k _ H (Same.refl H) rfl⟩
/-- a comparison of ints -/
theorem rd_int {p : Int → Int → Bool} {o : D → D → Option D} (h : ∀ x y d, o x y = some d → ∃ i j, x = .int i ∧ y = .int j ∧ d = .bl (p i j)) : RD2 G (rI0 fun i j => .bl (p i j)) o := by
  intro hd H x y d v u Q hn rx ry ho k
  obtain ⟨i, j, rfl, rfl, rfl⟩ := h x y d ho
  obtain rfl : v = .int i := rx
  obtain rfl : u = .int j := ry
  exact ⟨i, j, rfl, rfl, k _ H (Same.refl H) rfl⟩
theorem rd_le : RD2 G (rI0 fun i j => .bl (decide (i ≤ j))) oLe := rd_int fun x y d h => by
  cases x <;> cases y <;> simp only [oLe] at h <;> (try contradiction)
  exact ⟨_, _, rfl, rfl, (Option.some.inj h).symm⟩
theorem rd_gt : RD2 G (rI0 fun i j => .bl (decide (j < i))) oGt := rd_int fun x y d h => by
  cases x <;> cases y <;> simp only [oGt] at h <;> (try contradiction)
  exact ⟨_, _, rfl, rfl, (Option.some.inj h).symm⟩
theorem rd_ge : RD2 G (rI0 fun i j => .bl (decide (j ≤ i))) oGe := rd_int fun x y d h => by
  cases x <;> cases y <;> simp only [oGe] at h <;> (try contradiction)
  exact ⟨_, _, rfl, rfl, (Option.some.inj h).symm⟩
theorem rd_lt : RD2 G (fun x y H Q => rI0 (fun i j => .bl (decide (i < j))) x y H Q ∨ (∃ i j, x = .str i ∧ y = .str j ∧ Q (.bl (decide (i.cps.toList < j.cps.toList))) H)) oLt := by
  intro hd H x y d v u Q hn rx ry ho k
  cases x <;> cases y <;> simp only [oLt] at ho <;> (try contradiction)
  · rename_i i j
    obtain rfl : v = .int i := rx
    obtain rfl : u = .int j := ry
    cases ho
    exact .inl ⟨i, j, rfl, rfl, k _ H (Same.refl H) rfl⟩
  · rename_i a b
    obtain ⟨rfl, h1⟩ := rx
    obtain ⟨rfl, h2⟩ := ry
    cases ho
    exact .inr ⟨a, b, rfl, rfl, k _ H (Same.refl H) rfl⟩
mutual
theorem rep_dp {H : Hp} : ∀ (d : D) {v : V} {e : PyData}, Rep G H d v → D.py d = some e → Dp G.K H v e
  | .non, v, e, r, h => by
    obtain rfl : v = .non := r
    cases h; exact .non
  | .bl b, v, e, r, h => by
    obtain rfl : v = .bl b := r
    cases h; exact .bl b
  | .int i, v, e, r, h => by
    obtain rfl : v = .int i := r
    cases h; exact .int i
  | .str x, v, e, r, h => by
    obtain ⟨rfl, _⟩ := r
    cases h; exact .str x
  | .lst ds, v, e, ⟨a, xs, h1, h2, h3⟩, h => by
    subst h1
    simp only [D.py] at h
    cases q : D.pyAll ds with
    | none => rw [q] at h; cases h
    | some es =>
      rw [q] at h
      cases h
      exact .lst (.inl (.inl h2)) (rep_dpAll ds h3 q)
  | .tup ds, v, e, ⟨a, xs, h1, h2, h3⟩, h => by
    subst h1
    simp only [D.py] at h
    cases q : D.pyAll ds with
    | none => rw [q] at h; cases h
    | some es =>
      rw [q] at h
      cases h
      exact .tup h2 (rep_dpAll ds h3 q)
  | .ins c ns ds, v, e, r, h => by cases h
theorem rep_dpAll {H : Hp} : ∀ (ds : List D) {vs : List V} {es : List PyData}, RepAll G H ds vs → D.pyAll ds = some es → DpAll G.K H vs es
  | [], vs, es, r, h => by
    obtain rfl : vs = [] := r
    cases h; exact .nil
  | d :: ds, vs, es, ⟨v, r, h1, h2, h3⟩, h => by
    subst h1
    simp only [D.pyAll] at h
    cases q : D.py d with
    | none => rw [q] at h; cases h
    | some e =>
      rw [q] at h
      cases q2 : D.pyAll ds with
      | none => rw [q2] at h; cases h
      | some es2 =>
        rw [q2] at h
        cases h
        exact .cons (rep_dp d h2 q) (rep_dpAll ds h3 q2)
end
theorem rd_eq : RD2 G (rEqD G.K) oEq := by
  intro hd H x y d v u Q hn rx ry ho k
  unfold oEq at ho
  cases q : D.py x with
  | none => rw [q] at ho; cases ho
  | some a =>
    cases q2 : D.py y with
    | none => rw [q, q2] at ho; cases ho
    | some b =>
      rw [q, q2] at ho
      simp only [Option.bind_some] at ho
      by_cases hs : SeqAt.shaped a = true ∧ SeqAt.shaped b = true
      · rw [if_pos hs] at ho
        cases ho
        exact ⟨a, b, rep_dp x (Rep.mono hid_self x rx) q, rep_dp y (Rep.mono hid_self y ry) q2, hs.1, hs.2, k _ H (Same.refl H) rfl⟩
      · rw [if_neg hs] at ho; cases ho
theorem rd_ne : RD2 G (rNeD G.K) oNe := by
  intro hd H x y d v u Q hn rx ry ho k
  unfold oNe at ho
  cases q : D.py x with
  | none => rw [q] at ho; cases ho
  | some a =>
    cases q2 : D.py y with
    | none => rw [q, q2] at ho; cases ho
    | some b =>
      rw [q, q2] at ho
      simp only [Option.bind_some] at ho
      by_cases hs : SeqAt.shaped a = true ∧ SeqAt.shaped b = true
      · rw [if_pos hs] at ho
        cases ho
        exact ⟨a, b, rep_dp x (Rep.mono hid_self x rx) q, rep_dp y (Rep.mono hid_self y ry) q2, hs.1, hs.2, k _ H (Same.refl H) rfl⟩
      · rw [if_neg hs] at ho; cases ho
end
end DL

/-! Statements, loops, comprehensions over data. -/
namespace DL
open PySem PySem.Spec PyProof.Rows L2

/-- what comes of a statement -/
inductive Fl (M : Type) where
  | nx (δ : Sls) (m : M) | rt (d : D) (m : M) | bk (δ : Sls) (m : M) | ct (δ : Sls) (m : M) | exc (x : Exn) (m : M) | bad
abbrev Fs (M : Type) := Sls → M → Fl M

section
variable {M : Type}
/-- all stands but the world's and one's own -/
def Keep (W : Wd M) (ow : Addr → Bool) (H : Hp) (ow2 : Addr → Bool) (H2 : Hp) : Prop := ∀ a o, W.A a = false → ow a = false → H a = some o → H2 a = some o ∧ ow2 a = false
theorem Keep.refl {W : Wd M} {ow : Addr → Bool} {H : Hp} : Keep W ow H ow H := fun _ _ _ h1 h2 => ⟨h2, h1⟩
theorem Keep.trans {W : Wd M} {o1 o2 o3 : Addr → Bool} {H1 H2 H3 : Hp} (a : Keep W o1 H1 o2 H2) (b : Keep W o2 H2 o3 H3) : Keep W o1 H1 o3 H3 := fun x o w h1 h2 => by
  obtain ⟨h3, h4⟩ := a x o w h1 h2
  exact b x o w h4 h3
theorem Keep.of {W : Wd M} {ow : Addr → Bool} {H H2 : Hp} (s : Stp W H H2) : Keep W ow H ow H2 := fun a o w h1 h2 => ⟨s a o w h2, h1⟩

def PostS (G : Gx) (W : Wd M) (hb : Addr → Bool) (E : XK) (ow : Addr → Bool) (H : Hp) (Dn : Ends) : Fl M → Prop
  | .nx δ m => ∀ ow2 σ2 H2, Keep W ow H ow2 H2 → EnvOk G W hb ow2 σ2 H2 δ → W.R m H2 → Dn.nx σ2 H2
  | .bk δ m => ∀ ow2 σ2 H2, Keep W ow H ow2 H2 → EnvOk G W hb ow2 σ2 H2 δ → W.R m H2 → Dn.bk σ2 H2
  | .ct δ m => ∀ ow2 σ2 H2, Keep W ow H ow2 H2 → EnvOk G W hb ow2 σ2 H2 δ → W.R m H2 → Dn.ct σ2 H2
  | .rt d m => ∀ ow2 v H2, Keep W ow H ow2 H2 → W.R m H2 → Rep G (hid hb H2) d v → Dn.rt v H2
  | .exc x m => ∀ ow2 cls dd H2, Keep W ow H ow2 H2 → W.R m H2 → ExcOk G (hid hb H2) x cls dd → E cls dd H2
  | .bad => False
def tS (G : Gx) (𝒲 : Wd M → Prop) (E : XK) (g : Fs M) : TS := fun Dn σ H => ∃ W hb ow δ m, At G 𝒲 W hb ow σ H δ m ∧ PostS G W hb E ow H Dn (g δ m)

theorem PostS.from_ {G : Gx} {W : Wd M} {hb : Addr → Bool} {E : XK} {o1 o2 : Addr → Bool} {H H2 : Hp} {Dn : Ends} {r : Fl M} (k : Keep W o1 H o2 H2) (h : PostS G W hb E o1 H Dn r) : PostS G W hb E o2 H2 Dn r := by
  cases r with
  | nx δ m => exact fun o3 σ3 H3 s => h o3 σ3 H3 (k.trans s)
  | bk δ m => exact fun o3 σ3 H3 s => h o3 σ3 H3 (k.trans s)
  | ct δ m => exact fun o3 σ3 H3 s => h o3 σ3 H3 (k.trans s)
  | rt d m => exact fun o3 v H3 s => h o3 v H3 (k.trans s)
  | exc x m => exact fun o3 c dd H3 s => h o3 c dd H3 (k.trans s)
  | bad => exact h
/-- what is not hidden stays, not hidden -/
theorem Keep.same {G : Gx} {W : Wd M} {hb o1 o2 : Addr → Bool} {H H2 : Hp} (hwa : ∀ a, W.A a = true → hb a = true) (k : Keep W o1 H o2 H2) : Same (hid (hdOf hb o1) H) (hid (hdOf hb o2) H2) := fun a o h => by
  obtain ⟨h1, h2⟩ := hid_some.mp h
  unfold hdOf at h1
  have hb0 : hb a = false := by
    cases q : hb a with
    | false => rfl
    | true => rw [q] at h1; cases h1
  have ho : o1 a = false := by
    rw [hb0] at h1
    exact h1
  have hw : W.A a = false := by
    cases q : W.A a with
    | false => rfl
    | true => rw [hwa a q] at hb0; cases hb0
  obtain ⟨h3, h4⟩ := k a o hw ho h2
  exact hid_some.mpr ⟨by unfold hdOf; rw [hb0, h4]; rfl, h3⟩
theorem hid_base {G : Gx} {hb ow : Addr → Bool} {H : Hp} : Same (hid (hdOf hb ow) H) (hid hb H) := hid_le fun a o _ h => by
  unfold hdOf at h
  cases q : hb a with
  | false => rfl
  | true => rw [q] at h; cases h

/-! ### a slot is set -/
section
variable {G : Gx} {𝒲 : Wd M → Prop} {W : Wd M} {hb ow : Addr → Bool} {σ : L2.St} {H H2 : Hp} {δ : Sls} {m : M} {E : XK}
/-- a slot that isn't one's own takes the place of another -/
theorem fp_set {G : Gx} {hd ow : Addr → Bool} {σ : L2.St} {H : Hp} {δ : Sls} {i : Nat} {s : Sl} {v : Option V} (ns : ∀ t, s ≠ .own t)
    (e : ∃ φ : Nat → List Addr, (∀ i t x, δ[i]? = some (.own t) → σ[i]? = some (some x) → OwnAt G hd H t x (φ i) ∧ (φ i).Nodup ∧ ∀ a ∈ φ i, ow a = true) ∧ ∀ i j t u, δ[i]? = some (.own t) → δ[j]? = some (.own u) → i ≠ j → ∀ a ∈ φ i, a ∉ φ j) :
    ∃ φ : Nat → List Addr, (∀ j t x, (δ.set i s)[j]? = some (.own t) → (σ.set i v)[j]? = some (some x) → OwnAt G hd H t x (φ j) ∧ (φ j).Nodup ∧ ∀ a ∈ φ j, ow a = true) ∧ ∀ j k t u, (δ.set i s)[j]? = some (.own t) → (δ.set i s)[k]? = some (.own u) → j ≠ k → ∀ a ∈ φ j, a ∉ φ k := by
  obtain ⟨φ, h1, h2⟩ := e
  have key : ∀ (j : Nat) (t : T), (δ.set i s)[j]? = some (.own t) → i ≠ j ∧ δ[j]? = some (.own t) := fun j t h => by
    by_cases hj : i = j
    · subst hj
      have hl : i < δ.length := by
        have := (List.getElem?_eq_some_iff.mp h).1
        simpa using this
      rw [List.getElem?_set_self hl] at h
      exact absurd (Option.some.inj h) (ns t)
    · rw [List.getElem?_set_ne hj] at h
      exact ⟨hj, h⟩
  refine ⟨φ, fun j t x q1 q2 => ?_, fun j k t u q1 q2 ne => h2 j k t u (key j t q1).2 (key k u q2).2 ne⟩
  rw [List.getElem?_set_ne (key j t q1).1] at q2
  exact h1 j t x (key j t q1).2 q2
theorem EnvOk.set (e : EnvOk G W hb ow σ H δ) (i : Nat) {d : D} {v : V} (r : Rep G (hid (hdOf hb ow) H) d v) : EnvOk G W hb ow (σ.set i (some v)) H (δ.set i (.dat d)) := by
  refine ⟨by rw [List.length_set, List.length_set]; exact e.len, e.wa, e.sep, e.al, fun j s hs => ?_, fp_set (fun t h => by cases h) e.fp⟩
  by_cases hj : i = j
  · subst hj
    have hl : i < δ.length := by
      have := (List.getElem?_eq_some_iff.mp hs).1
      simpa using this
    rw [List.getElem?_set_self hl] at hs
    cases hs
    exact ⟨some v, by rw [List.getElem?_set_self (by rw [← e.len]; exact hl)], v, rfl, r⟩
  · rw [List.getElem?_set_ne hj] at hs ⊢
    exact e.sl j s hs
theorem At.rep_base (a : At G 𝒲 W hb ow σ H δ m) {d : D} {v : V} (r : Rep G (hid (hdOf hb ow) H2) d v) : Rep G (hid hb H2) d v := Rep.mono (hid_base (G := G)) d r

/-! ### combinators -/
def sNx : Fs M := fun δ m => .nx δ m
def sBk : Fs M := fun δ m => .bk δ m
def sCt : Fs M := fun δ m => .ct δ m
def sRet (f : Fe M) : Fs M := fun δ m => match f δ m with
  | .ok d m1 => .rt d m1
  | .exc x m1 => .exc x m1
  | .bad => .bad
def sRetN : Fs M := fun _ m => .rt .non m
def sSet (i : Nat) (f : Fe M) : Fs M := fun δ m => match f δ m with
  | .ok d m1 => .nx (δ.set i (.dat d)) m1
  | .exc x m1 => .exc x m1
  | .bad => .bad
def sDrop (f : Fe M) : Fs M := fun δ m => match f δ m with
  | .ok _ m1 => .nx δ m1
  | .exc x m1 => .exc x m1
  | .bad => .bad
def sSeq (g h : Fs M) : Fs M := fun δ m => match g δ m with
  | .nx δ1 m1 => h δ1 m1
  | r => r
def sIf (t : Ft M) (g h : Fs M) : Fs M := fun δ m => match t δ m with
  | .ok b m1 => if b = true then g δ m1 else h δ m1
  | .exc x m1 => .exc x m1
  | .bad => .bad
def sNever : Fs M := fun _ _ => .bad

theorem liftS_nx {Dn : Ends} (h : tS G 𝒲 E sNx Dn σ H) : tNext Dn σ H := by
  obtain ⟨W, hb, ow, δ, m, a, p⟩ := h
  exact p ow σ H Keep.refl a.env a.r
theorem liftS_bk {Dn : Ends} (h : tS G 𝒲 E sBk Dn σ H) : tBreak Dn σ H := by
  obtain ⟨W, hb, ow, δ, m, a, p⟩ := h
  exact p ow σ H Keep.refl a.env a.r
theorem liftS_ct {Dn : Ends} (h : tS G 𝒲 E sCt Dn σ H) : tCont Dn σ H := by
  obtain ⟨W, hb, ow, δ, m, a, p⟩ := h
  exact p ow σ H Keep.refl a.env a.r
theorem liftS_ret {Dn : Ends} {f : Fe M} (h : tS G 𝒲 E (sRet f) Dn σ H) : tRet (tD G 𝒲 E f) Dn σ H := by
  obtain ⟨W, hb, ow, δ, m, a, p⟩ := h
  refine ⟨W, hb, ow, δ, m, a, ?_⟩
  unfold sRet at p
  cases hf : f δ m with
  | bad => rw [hf] at p; exact p
  | exc x m1 =>
    rw [hf] at p
    exact fun c dd H2 s r x => p ow c dd H2 (Keep.of s) r (ExcOk.mono (hid_base (G := G)) x)
  | ok d m1 =>
    rw [hf] at p
    exact fun v H2 s r x => p ow v H2 (Keep.of s) r (a.rep_base x)
theorem liftS_retN {Dn : Ends} (h : tS G 𝒲 E sRetN Dn σ H) : tRetN Dn σ H := by
  obtain ⟨W, hb, ow, δ, m, a, p⟩ := h
  exact p ow .non H Keep.refl a.r rfl
theorem liftS_set {Dn : Ends} {i : Nat} {f : Fe M} (h : tS G 𝒲 E (sSet i f) Dn σ H) : tAsg (tD G 𝒲 E f) (gName i) Dn σ H := by
  obtain ⟨W, hb, ow, δ, m, a, p⟩ := h
  refine ⟨W, hb, ow, δ, m, a, ?_⟩
  unfold sSet at p
  cases hf : f δ m with
  | bad => rw [hf] at p; exact p
  | exc x m1 =>
    rw [hf] at p
    exact fun c dd H2 s r x => p ow c dd H2 (Keep.of s) r (ExcOk.mono (hid_base (G := G)) x)
  | ok d m1 =>
    rw [hf] at p
    exact fun v H2 s r x => p ow _ H2 (Keep.of s) (EnvOk.set (a.env.step s r) i x) r
theorem liftS_drop {Dn : Ends} {f : Fe M} (h : tS G 𝒲 E (sDrop f) Dn σ H) : tDrop (tD G 𝒲 E f) Dn σ H := by
  obtain ⟨W, hb, ow, δ, m, a, p⟩ := h
  refine ⟨W, hb, ow, δ, m, a, ?_⟩
  unfold sDrop at p
  cases hf : f δ m with
  | bad => rw [hf] at p; exact p
  | exc x m1 =>
    rw [hf] at p
    exact fun c dd H2 s r x => p ow c dd H2 (Keep.of s) r (ExcOk.mono (hid_base (G := G)) x)
  | ok d m1 =>
    rw [hf] at p
    exact fun v H2 s r x => p ow _ H2 (Keep.of s) (a.env.step s r) r
theorem liftS_seq {Dn : Ends} {g h : Fs M} (k : tS G 𝒲 E (sSeq g h) Dn σ H) : tSeq (tS G 𝒲 E g) (tS G 𝒲 E h) Dn σ H := by
  obtain ⟨W, hb, ow, δ, m, a, p⟩ := k
  refine ⟨W, hb, ow, δ, m, a, ?_⟩
  unfold sSeq at p
  cases hf : g δ m with
  | nx δ1 m1 =>
    rw [hf] at p
    exact fun o2 σ2 H2 kp e r => ⟨W, hb, o2, δ1, m1, ⟨a.w, e, r⟩, PostS.from_ kp p⟩
  | bk δ1 m1 => rw [hf] at p; exact p
  | ct δ1 m1 => rw [hf] at p; exact p
  | rt d m1 => rw [hf] at p; exact p
  | exc x m1 => rw [hf] at p; exact p
  | bad => rw [hf] at p; exact p
theorem liftS_if {Dn : Ends} {t : Ft M} {g h : Fs M} (k : tS G 𝒲 E (sIf t g h) Dn σ H) : tIfS (tDT G 𝒲 E t) (tS G 𝒲 E g) (tS G 𝒲 E h) Dn σ H := by
  obtain ⟨W, hb, ow, δ, m, a, p⟩ := k
  refine ⟨W, hb, ow, δ, m, a, ?_⟩
  unfold sIf at p
  cases hf : t δ m with
  | bad => rw [hf] at p; exact p
  | exc x m1 =>
    rw [hf] at p
    exact fun c dd H2 s r x => p ow c dd H2 (Keep.of s) r (ExcOk.mono (hid_base (G := G)) x)
  | ok b m1 =>
    rw [hf] at p
    intro H1 s1 r1
    have a1 := a.step s1 r1
    replace p := PostS.from_ (Keep.of s1) p
    cases b with
    | true =>
      rw [if_pos rfl]
      exact ⟨W, hb, ow, δ, m1, a1, p⟩
    | false =>
      rw [if_neg Bool.false_ne_true]
      exact ⟨W, hb, ow, δ, m1, a1, p⟩
end

/-! ### what is walked -/
section
variable {G : Gx} {𝒲 : Wd M → Prop} {E : XK} {σ : L2.St} {H H2 : Hp}
/-- a walk that gives the data ds, whatever is done with what is one's own -/
structure Wk (G : Gx) (W : Wd M) (hb ow : Addr → Bool) (H : Hp) (J : It) (ds : List D) : Prop where
  ex : ∃ (Gd : Hp → Prop) (Y : Nat → Hp → V → Hp → Prop), Walk J ds.length Gd Y ∧ (∀ o2 H2, Keep W ow H o2 H2 → Gd H2) ∧
    ∀ i H2 x H3 o2 hd2, i < ds.length → Keep W ow H o2 H2 → Same (hid (hdOf hb ow) H) (hid hd2 H2) → (∀ p, H2 p = none → hd2 p = false) → Y i H2 x H3 → Same H2 H3 ∧ ∃ d, ds[i]? = some d ∧ Rep G (hid hd2 H3) d x
def PostI (G : Gx) (W : Wd M) (hb ow : Addr → Bool) (E : XK) (H : Hp) (R : It → Hp → Prop) : Rs M (List D) → Prop
  | .ok ds m => ∀ J H2, Stp W H H2 → W.R m H2 → Wk G W hb ow H2 J ds → R J H2
  | .exc x m => ∀ cls dd H2, Stp W H H2 → W.R m H2 → ExcOk G (hid (hdOf hb ow) H2) x cls dd → E cls dd H2
  | .bad => False
def tDI (G : Gx) (𝒲 : Wd M → Prop) (E : XK) (f : Fa M) : TI := fun σ H R => ∃ W hb ow δ m, At G 𝒲 W hb ow σ H δ m ∧ PostI G W hb ow E H R (f δ m)
/-- a target -/
abbrev Ftg := D → Sls → Option Sls
def TgOk (G : Gx) (g : TG) (t : Ftg) (ts : List Nat) : Prop := ∀ {M : Type} (W : Wd M) (hb ow : Addr → Bool) (σ : L2.St) (H : Hp) (δ δ2 : Sls) (d : D) (v : V) (Q : L2.St → Hp → Prop),
  EnvOk G W hb ow σ H δ → Rep G (hid (hdOf hb ow) H) d v → t d δ = some δ2 → (∀ σ2, EnvOk G W hb ow σ2 H δ2 → wipe σ2 ts = wipe σ ts → Q σ2 H) → g v σ H Q
theorem wipe_set (σ : L2.St) (i : Nat) (x : Option V) : ∀ ts : List Nat, (wipe (σ.set i x) ts).set i none = (wipe σ ts).set i none
  | [] => by simp [wipe]
  | t :: ts => by
    simp only [wipe]
    by_cases h : t = i
    · subst h
      rw [List.set_set, List.set_set]
      exact wipe_set σ t x ts
    · rw [List.set_comm _ _ h, wipe_set σ i x ts, List.set_comm _ _ h]
theorem wipe_wipe (σ : L2.St) : ∀ ts us : List Nat, (∀ t ∈ ts, t ∈ us) → wipe (wipe σ ts) us = wipe σ us
  | [], us, _ => rfl
  | t :: ts, us, h => by
    have ht : t ∈ us := h t (by simp)
    have ih := wipe_wipe σ ts us fun x hx => h x (by simp [hx])
    rw [← ih]
    show wipe ((wipe σ ts).set t none) us = wipe (wipe σ ts) us
    have key : ∀ (τ : L2.St) (us : List Nat), t ∈ us → wipe (τ.set t none) us = wipe τ us := by
      intro τ us
      induction us with
      | nil => intro h; cases h
      | cons u us ihu =>
        intro hm
        by_cases he : u = t
        · subst he
          exact wipe_set τ u none us
        · have hm' : t ∈ us := by
            rcases List.mem_cons.mp hm with h | h
            · exact absurd h.symm he
            · exact h
          show (wipe (τ.set t none) us).set u none = (wipe τ us).set u none
          rw [ihu hm']
    exact key _ us ht
def gN (i : Nat) : Ftg := fun d δ => some (δ.set i (.dat d))
theorem tg_name {i : Nat} : TgOk G (gName i) (gN i) [i] := fun W hb ow σ H δ δ2 d v Q e r h k => by
  cases h
  exact k _ (e.set i r) (wipe_set σ i (some v) [])
/-- several -/
def TgsOk (G : Gx) (g : TGs) (t : List D → Sls → Option Sls) (ts : List Nat) : Prop := ∀ {M : Type} (W : Wd M) (hb ow : Addr → Bool) (σ : L2.St) (H : Hp) (δ δ2 : Sls) (ds : List D) (vs : List V) (Q : L2.St → Hp → Prop),
  EnvOk G W hb ow σ H δ → RepAll G (hid (hdOf hb ow) H) ds vs → t ds δ = some δ2 → (∀ σ2, EnvOk G W hb ow σ2 H δ2 → wipe σ2 ts = wipe σ ts → Q σ2 H) → g vs σ H Q
def gsNil : List D → Sls → Option Sls
  | [], δ => some δ
  | _, _ => none
def gsCons (t : Ftg) (u : List D → Sls → Option Sls) : List D → Sls → Option Sls
  | d :: ds, δ => (t d δ).bind fun δ2 => u ds δ2
  | [], _ => none
def gT (u : List D → Sls → Option Sls) : Ftg
  | .tup ds, δ => u ds δ
  | _, _ => none
theorem tgs_nil : TgsOk G gNil gsNil [] := fun W hb ow σ H δ δ2 ds vs Q e r h k => by
  cases ds with
  | nil =>
    cases h
    exact ⟨r, k σ e rfl⟩
  | cons d ds => cases h
theorem wipe_append (σ : L2.St) (us : List Nat) : ∀ ts : List Nat, wipe σ (ts ++ us) = wipe (wipe σ us) ts
  | [] => rfl
  | t :: ts => by
    show (wipe σ (ts ++ us)).set t none = (wipe (wipe σ us) ts).set t none
    rw [wipe_append σ us ts]
theorem wipe_comm (σ : L2.St) (us : List Nat) : ∀ ts : List Nat, wipe (wipe σ us) ts = wipe (wipe σ ts) us
  | [] => rfl
  | t :: ts => by
    show (wipe (wipe σ us) ts).set t none = wipe ((wipe σ ts).set t none) us
    rw [wipe_comm σ us ts]
    have key : ∀ (τ : L2.St) (us : List Nat), (wipe τ us).set t none = wipe (τ.set t none) us := by
      intro τ us
      induction us with
      | nil => rfl
      | cons u us ih =>
        show ((wipe τ us).set u none).set t none = (wipe (τ.set t none) us).set u none
        rw [← ih]
        by_cases h : u = t
        · subst h; rfl
        · rw [List.set_comm _ _ h]
    exact key _ us
theorem tgs_cons {g : TG} {gs : TGs} {t : Ftg} {u : List D → Sls → Option Sls} {ts us : List Nat} (h1 : TgOk G g t ts) (h2 : TgsOk G gs u us) : TgsOk G (gCons g gs) (gsCons t u) (ts ++ us) := fun W hb ow σ H δ δ2 ds vs Q e r h k => by
  cases ds with
  | nil => cases h
  | cons d ds =>
    obtain ⟨v, vr, rfl, r1, r2⟩ := r
    simp only [gsCons] at h
    cases ht : t d δ with
    | none => rw [ht] at h; cases h
    | some δ1 =>
      rw [ht] at h
      exact ⟨v, vr, rfl, h1 W hb ow σ H δ δ1 d v _ e r1 ht fun σ1 e1 w1 => h2 W hb ow σ1 H δ1 δ2 ds vr Q e1 r2 h fun σ2 e2 w2 => k σ2 e2 (by
        rw [wipe_append, w2, ← wipe_append, wipe_append, wipe_comm, w1, wipe_comm, ← wipe_append])⟩
theorem pyLen_ok {u : List D → Sls → Option Sls} {n : Nat} (hn : ∀ ds δ δ2, u ds δ = some δ2 → ds.length = n) {gs : TGs} {ts : List Nat} (h : TgsOk G gs u ts) : TgOk G (gTup G.K n gs) (gT u) ts := fun W hb ow σ H δ δ2 d v Q e r ht k => by
  cases d with
  | tup ds =>
    obtain ⟨a, xs, rfl, h1, h2⟩ := r
    refine ⟨a, xs, rfl, Same.sqT hid_self h1, by rw [RepAll.length h2]; exact hn ds δ δ2 ht, h W hb ow σ H δ δ2 ds xs Q e h2 ht k⟩
  | _ => cases ht
theorem gsNil_len : ∀ ds δ δ2, gsNil ds δ = some δ2 → ds.length = 0 := fun ds δ δ2 h => by
  cases ds with
  | nil => rfl
  | cons d ds => cases h
theorem gsCons_len {t : Ftg} {u : List D → Sls → Option Sls} {n : Nat} (hn : ∀ ds δ δ2, u ds δ = some δ2 → ds.length = n) : ∀ ds δ δ2, gsCons t u ds δ = some δ2 → ds.length = n + 1 := fun ds δ δ2 h => by
  cases ds with
  | nil => cases h
  | cons d ds =>
    simp only [gsCons] at h
    cases ht : t d δ with
    | none => rw [ht] at h; cases h
    | some δ1 =>
      rw [ht] at h
      rw [List.length_cons, hn ds δ1 δ2 h]

/-! ### for -/
def forL (t : Ftg) (g : Fs M) : List D → Sls → M → Fl M
  | [], δ, m => .nx δ m
  | d :: ds, δ, m => match t d δ with
    | none => .bad
    | some δ1 => match g δ1 m with
      | .nx δ2 m2 => forL t g ds δ2 m2
      | .ct δ2 m2 => forL t g ds δ2 m2
      | .bk δ2 m2 => .nx δ2 m2
      | .rt d m2 => .rt d m2
      | .exc x m2 => .exc x m2
      | .bad => .bad
def sFor (f : Fa M) (t : Ftg) (g : Fs M) : Fs M := fun δ m => match f δ m with
  | .ok ds m1 => forL t g ds δ m1
  | .exc x m1 => .exc x m1
  | .bad => .bad
theorem liftS_for {Dn : Ends} {f : Fa M} {tg : TG} {t : Ftg} {g : Fs M} {ts : List Nat} (ht : TgOk G tg t ts) (h : tS G 𝒲 E (sFor f t g) Dn σ H) : tFor (tDI G 𝒲 E f) tg (tS G 𝒲 E g) Dn σ H := by
  obtain ⟨W, hb, ow, δ, m, a, p⟩ := h
  refine ⟨W, hb, ow, δ, m, a, ?_⟩
  unfold sFor at p
  cases hf : f δ m with
  | bad => rw [hf] at p; exact p
  | exc x m1 =>
    rw [hf] at p
    exact fun c dd H2 s r x => p ow c dd H2 (Keep.of s) r (ExcOk.mono (hid_base (G := G)) x)
  | ok ds m1 =>
    rw [hf] at p
    intro J H1 s1 r1 wk
    have a1 := a.step s1 r1
    replace p := PostS.from_ (Keep.of s1) p
    obtain ⟨Gd, Y, wlk, hG, hY⟩ := wk.ex
    refine for_it wlk (fun i σ' H' => ∃ o2 δ2 m2, Keep W ow H1 o2 H' ∧ At G 𝒲 W hb o2 σ' H' δ2 m2 ∧ PostS G W hb E o2 H' Dn (forL t g (ds.drop i) δ2 m2)) ⟨ow, δ, m1, Keep.refl, a1, p⟩ (fun i σ' H' _ ⟨o2, _, _, kp, _, _⟩ => hG o2 H' kp) ?_ ?_
    · rintro i x σ' H' H3 hi ⟨o2, δ2, m2, kp, a2, p2⟩ y
      obtain ⟨sm, d, hd, rd⟩ := hY i H' x H3 o2 (hdOf hb o2) hi kp (Keep.same (G := G) a.env.wa kp) a2.new y
      have a3 : At G 𝒲 W hb o2 σ' H3 δ2 m2 := a2.step (Stp.of sm) (W.keep a2.r sm)
      replace p2 := PostS.from_ (Keep.of (Stp.of sm)) p2
      have kp3 : Keep W ow H1 o2 H3 := kp.trans (Keep.of (Stp.of sm))
      have hdrop : ds.drop i = d :: ds.drop (i + 1) := by
        obtain ⟨hlt, e⟩ := List.getElem?_eq_some_iff.mp hd
        rw [List.drop_eq_getElem_cons hlt, e]
      rw [hdrop] at p2
      simp only [forL] at p2
      cases htd : t d δ2 with
      | none => rw [htd] at p2; exact False.elim p2
      | some δ3 =>
        rw [htd] at p2
        refine ht W hb o2 σ' H3 δ2 δ3 d x _ a3.env rd htd fun σ3 e3 _ => ?_
        refine ⟨W, hb, o2, δ3, m2, ⟨a3.w, e3, a3.r⟩, ?_⟩
        simp only at p2
        cases hg : g δ3 m2 with
        | nx δ4 m4 =>
          rw [hg] at p2
          exact fun o4 σ4 H4 kp4 e4 r4 => ⟨o4, δ4, m4, kp3.trans kp4, ⟨a3.w, e4, r4⟩, PostS.from_ kp4 p2⟩
        | ct δ4 m4 =>
          rw [hg] at p2
          exact fun o4 σ4 H4 kp4 e4 r4 => ⟨o4, δ4, m4, kp3.trans kp4, ⟨a3.w, e4, r4⟩, PostS.from_ kp4 p2⟩
        | bk δ4 m4 =>
          rw [hg] at p2
          exact fun o4 σ4 H4 kp4 e4 r4 => p2 o4 σ4 H4 kp4 e4 r4
        | rt d' m4 => rw [hg] at p2; exact p2
        | exc x' m4 => rw [hg] at p2; exact p2
        | bad => rw [hg] at p2; exact p2
    · rintro σ' H' ⟨o2, δ2, m2, kp, a2, p2⟩
      rw [List.drop_length] at p2
      exact p2 o2 σ' H' Keep.refl a2.env a2.r

/-! ### while -/
def whF (t : Ft M) (g : Fs M) : Nat → Sls → M → Fl M
  | 0, _, _ => .bad
  | n + 1, δ, m => match t δ m with
    | .ok true m1 => (match g δ m1 with
      | .nx δ2 m2 => whF t g n δ2 m2
      | .ct δ2 m2 => whF t g n δ2 m2
      | .bk δ2 m2 => .nx δ2 m2
      | .rt d m2 => .rt d m2
      | .exc x m2 => .exc x m2
      | .bad => .bad)
    | .ok false m1 => .nx δ m1
    | .exc x m1 => .exc x m1
    | .bad => .bad
def sWhile (n : Sls → M → Nat) (t : Ft M) (g : Fs M) : Fs M := fun δ m => whF t g (n δ m) δ m
theorem liftS_while {Dn : Ends} {n : Sls → M → Nat} {t : Ft M} {g : Fs M} (h : tS G 𝒲 E (sWhile n t g) Dn σ H) : tWhile (tDT G 𝒲 E t) (tS G 𝒲 E g) Dn σ H := by
  obtain ⟨W, hb, ow, δ, m, a, p⟩ := h
  refine ⟨fun k σ' H' => ∃ o2 δ2 m2, At G 𝒲 W hb o2 σ' H' δ2 m2 ∧ PostS G W hb E o2 H' Dn (whF t g k δ2 m2), ⟨n δ m, ow, δ, m, a, p⟩, ?_⟩
  rintro k σ' H' ⟨o2, δ2, m2, a2, p2⟩
  cases k with
  | zero => exact False.elim p2
  | succ k =>
    refine ⟨W, hb, o2, δ2, m2, a2, ?_⟩
    simp only [whF] at p2
    cases ht : t δ2 m2 with
    | bad => rw [ht] at p2; exact p2
    | exc x m3 =>
      rw [ht] at p2
      exact fun c dd H3 s r x => p2 o2 c dd H3 (Keep.of s) r (ExcOk.mono (hid_base (G := G)) x)
    | ok b m3 =>
      rw [ht] at p2
      intro H3 s3 r3
      have a3 := a2.step s3 r3
      replace p2 := PostS.from_ (Keep.of s3) p2
      cases b with
      | false =>
        rw [if_neg Bool.false_ne_true]
        exact p2 o2 σ' H3 Keep.refl a3.env a3.r
      | true =>
        rw [if_pos rfl]
        refine ⟨fun σ4 H4 => ∃ o4 δ4 m4, At G 𝒲 W hb o4 σ4 H4 δ4 m4 ∧ PostS G W hb E o4 H4 Dn (whF t g k δ4 m4), fun σ4 H4 q => ⟨k, Nat.lt_succ_self k, q⟩, W, hb, o2, δ2, m3, a3, ?_⟩
        simp only at p2
        cases hg : g δ2 m3 with
        | nx δ4 m4 =>
          rw [hg] at p2
          exact fun o4 σ4 H4 kp4 e4 r4 => ⟨o4, δ4, m4, ⟨a3.w, e4, r4⟩, PostS.from_ kp4 p2⟩
        | ct δ4 m4 =>
          rw [hg] at p2
          exact fun o4 σ4 H4 kp4 e4 r4 => ⟨o4, δ4, m4, ⟨a3.w, e4, r4⟩, PostS.from_ kp4 p2⟩
        | bk δ4 m4 =>
          rw [hg] at p2
          exact fun o4 σ4 H4 kp4 e4 r4 => p2 o4 σ4 H4 kp4 e4 r4
        | rt d' m4 => rw [hg] at p2; exact p2
        | exc x' m4 => rw [hg] at p2; exact p2
        | bad => rw [hg] at p2; exact p2
end
end
end DL

/-! Comprehensions, what is walked, defs and their calls, over data. -/
namespace DL
open PySem PySem.Spec PyProof.Rows L2

def lend : Sl → Sl
  | .own _ => .un
  | s => s
def wipeD (δ : Sls) : List Nat → Sls
  | [] => δ
  | v :: vs => (wipeD δ vs).set v .un
section
variable {M : Type}
def lcL (t : Ftg) (tt : Ft M) (te : Fe M) (δ0 : Sls) : List D → M → Rs M (List D)
  | [], m => .ok [] m
  | d :: ds, m => match t d δ0 with
    | none => .bad
    | some δ1 => match tt δ1 m with
      | .ok true m1 => (match te δ1 m1 with
        | .ok y m2 => (lcL t tt te δ0 ds m2).bind fun ys m3 => .ok (y :: ys) m3
        | _ => .bad)
      | .ok false m1 => lcL t tt te δ0 ds m1
      | _ => .bad
def fLc (fi : Fa M) (t : Ftg) (tt : Ft M) (te : Fe M) (vs : List Nat) : Fe M := fun δ m => (fi δ m).bind fun ds m1 =>
  if ds.length < sizeLine then (match lcL t tt te (wipeD (δ.map lend) vs) ds m1 with
    | .ok ys m2 => .ok (.lst ys) m2
    | _ => .bad) else .bad
def fYes : Ft M := fun _ m => .ok true m

section
variable {G : Gx} {𝒲 : Wd M → Prop} {E : XK} {σ : L2.St} {H H2 : Hp} {W : Wd M} {hb ow : Addr → Bool} {δ : Sls} {m : M}
theorem wipeD_len (δ : Sls) : ∀ vs : List Nat, (wipeD δ vs).length = δ.length
  | [] => rfl
  | v :: vs => by
    simp only [wipeD]
    rw [List.length_set, wipeD_len δ vs]
theorem wipeD_some {δ : Sls} {i : Nat} {s : Sl} : ∀ {vs : List Nat}, (wipeD δ vs)[i]? = some s → (s = .un) ∨ (δ[i]? = some s ∧ i ∉ vs)
  | [], h => .inr ⟨h, by simp⟩
  | v :: vs, h => by
    simp only [wipeD] at h
    by_cases hv : v = i
    · subst hv
      have hl : v < (wipeD δ vs).length := by
        have := (List.getElem?_eq_some_iff.mp h).1
        simpa using this
      rw [List.getElem?_set_self hl] at h
      cases h
      exact .inl rfl
    · rw [List.getElem?_set_ne hv] at h
      rcases wipeD_some (vs := vs) h with h1 | ⟨h1, h2⟩
      · exact .inl h1
      · exact .inr ⟨h1, fun z => by
          rcases List.mem_cons.mp z with z | z
          · exact hv z.symm
          · exact h2 z⟩
theorem wipe_out' {σ : L2.St} {i : Nat} : ∀ {vs : List Nat}, i ∉ vs → (wipe σ vs)[i]? = σ[i]? := fun h => wipe_out h
/-- within a comprehension: what is one's own is lent, the new list is hidden -/
theorem EnvOk.block (e : EnvOk G W hb ow σ H δ) (vs : List Nat) {p : Addr} {hd : Addr → Bool} (hhd : ∀ a, hd a = (hdOf hb ow a || a == p)) (hp : H p = none) (k : ∀ a o, W.A a = false → H a = some o → H2 a = some o) (r : W.R m H2) (hp2 : H2 p ≠ none) :
    EnvOk G W hd (fun _ => false) (wipe σ vs) H2 (wipeD (δ.map lend) vs) := by
  have hs : Same (hid (hdOf hb ow) H) (hid hd H2) := fun a o h => by
    obtain ⟨h1, h2⟩ := hid_some.mp h
    have hw : W.A a = false := by
      cases q : W.A a with
      | false => rfl
      | true =>
        unfold hdOf at h1
        rw [e.wa a q] at h1; cases h1
    refine hid_some.mpr ⟨?_, k a o hw h2⟩
    rw [hhd, h1]
    have : a ≠ p := fun z => by rw [z, hp] at h2; cases h2
    simp [this]
  have hs' : Same (hid (hdOf hb ow) H) (hid (fun a => hd a || false) H2) := by
    have : (fun a => hd a || false) = hd := by funext a; simp
    rw [this]; exact hs
  have noown : ∀ (i : Nat) (t : T), (wipeD (δ.map lend) vs)[i]? = some (.own t) → False := fun i t h1 => by
    rcases wipeD_some h1 with h1 | ⟨h1, _⟩
    · cases h1
    · rw [List.getElem?_map] at h1
      cases q : δ[i]? with
      | none => rw [q] at h1; cases h1
      | some s0 => rw [q] at h1; cases s0 <;> cases h1
  refine ⟨by rw [wipeD_len, List.length_map, wipe_length]; exact e.len, fun a h => by rw [hhd]; unfold hdOf; rw [e.wa a h]; rfl, fun a h => (by cases h), fun a h => ?_, fun i s hs1 => ?_, ⟨fun _ => [], fun i t x h1 => (noown i t h1).elim, fun i j t u h1 => (noown i t h1).elim⟩⟩
  · rcases h with h | h
    · rw [hhd] at h
      cases q : a == p with
      | true =>
        have : a = p := by simpa using q
        rw [this]; exact hp2
      | false =>
        rw [q, Bool.or_false] at h
        unfold hdOf at h
        have h' : hb a = true ∨ ow a = true := by
          cases z : hb a with
          | true => exact .inl rfl
          | false => rw [z] at h; exact .inr h
        cases q2 : W.A a with
        | true => exact W.al m H2 a q2 r
        | false =>
          cases q3 : H a with
          | none => exact absurd q3 (e.al a h')
          | some o => rw [k a o q2 q3]; simp
    · cases h
  · have hl : i < (wipe σ vs).length := by
      have := (List.getElem?_eq_some_iff.mp hs1).1
      rw [wipeD_len, List.length_map, e.len] at this
      rw [wipe_length]; exact this
    rcases wipeD_some hs1 with h1 | ⟨h1, h2⟩
    · subst h1
      exact ⟨(wipe σ vs)[i], List.getElem?_eq_getElem hl, trivial⟩
    · rw [List.getElem?_map] at h1
      cases q : δ[i]? with
      | none => rw [q] at h1; cases h1
      | some s0 =>
        rw [q] at h1
        cases h1
        obtain ⟨v, h3, h4⟩ := e.sl i s0 q
        refine ⟨v, by rw [wipe_out h2]; exact h3, ?_⟩
        cases s0 with
        | un => trivial
        | dat d =>
          obtain ⟨x, h5, h6⟩ := h4
          exact ⟨x, h5, Rep.mono hs' d h6⟩
        | own t => trivial
        | hnd n => exact h4
theorem lift_lc {Q : VK} {fi : Fa M} {tg : TG} {t : Ftg} {tt : Ft M} {te : Fe M} {vs : List Nat} (ht : TgOk G tg t vs) (h : tD G 𝒲 E (fLc fi t tt te vs) σ H Q) : tLc (tDI G 𝒲 E fi) tg (tDT G 𝒲 E0 tt) (tD G 𝒲 E0 te) vs σ H Q := by
  obtain ⟨W, hb, ow, δ, m, a, p⟩ := h
  refine ⟨W, hb, ow, δ, m, a, ?_⟩
  unfold fLc at p
  cases hf : fi δ m with
  | bad => rw [hf] at p; exact p
  | exc x m1 => rw [hf] at p; exact p
  | ok ds m1 =>
    rw [hf] at p
    simp only [Rs.bind] at p
    intro J H1 s1 r1 wk Dl hD
    have a1 := a.step s1 r1
    replace p := Post.from_ s1 p
    by_cases hsz : ds.length < sizeLine
    · rw [if_pos hsz] at p
      obtain ⟨Gd, Y, wlk, hG, hY⟩ := wk.ex
      have hDf : hdOf hb ow Dl = false := a1.new Dl hD
      have hDA : W.A Dl = false := by
        cases q : W.A Dl with
        | false => rfl
        | true => exact absurd hD (W.al m1 H1 Dl q r1)
      obtain ⟨hd, hhd⟩ : ∃ hd : Addr → Bool, ∀ b, hd b = (hdOf hb ow b || b == Dl) := ⟨fun b => hdOf hb ow b || b == Dl, fun _ => rfl⟩
      generalize hδ0 : wipeD (δ.map lend) vs = δ0 at p
      cases hall : lcL t tt te δ0 ds m1 with
      | bad => rw [hall] at p; exact False.elim p
      | exc x m2 => rw [hall] at p; exact False.elim p
      | ok zs0 mz =>
        rw [hall] at p
        simp only at p
        refine lc_it wlk (fun i H' => ∃ acc ys m', (∀ b o, W.A b = false → H1 b = some o → H' b = some o) ∧ W.R m' H' ∧ H' Dl = some (.lst acc) ∧ RepAll G (hid hd H') ys acc ∧ ys.length ≤ i ∧
          ∃ zs, lcL t tt te δ0 (ds.drop i) m' = .ok zs mz ∧ ys ++ zs = zs0) ?_ ?_ ?_ ?_
        · refine ⟨[], [], m1, fun b o _ h => by rw [upd_ne (ne_of_none h hD)]; exact h, W.keep r1 (same_new hD), upd_same, rfl, Nat.le_refl _, zs0, by simpa using hall, rfl⟩
        · rintro i H' _ ⟨acc, ys, m', k1, _⟩
          exact hG ow H' fun b o h1 h2 h3 => ⟨k1 b o h1 h3, h2⟩
        · rintro i x H' H3 hi ⟨acc, ys, m', k1, k2, k3, k4, k5, zs, k6, k7⟩ y
          have kp : Keep W ow H1 ow H' := fun b o h1 h2 h3 => ⟨k1 b o h1 h3, h2⟩
          have fr' : ∀ q, H' q = none → hdOf hb ow q = false := fun q hq => by
            cases z : hdOf hb ow q with
            | false => rfl
            | true =>
              exfalso
              have z' : hb q = true ∨ ow q = true := by
                unfold hdOf at z
                cases z2 : hb q with
                | true => exact .inl rfl
                | false => rw [z2] at z; exact .inr z
              cases w : W.A q with
              | true => exact absurd hq (W.al m' H' q w k2)
              | false =>
                cases z3 : H1 q with
                | none => exact a1.env.al q z' z3
                | some o => rw [k1 q o w z3] at hq; cases hq
          have sm0 : Same (hid (hdOf hb ow) H1) (hid hd H') := fun b o h => by
            obtain ⟨h1, h2⟩ := hid_some.mp h
            have hw : W.A b = false := by
              cases q : W.A b with
              | false => rfl
              | true =>
                unfold hdOf at h1
                rw [a.env.wa b q] at h1; cases h1
            refine hid_some.mpr ⟨?_, k1 b o hw h2⟩
            rw [hhd, h1]
            have : b ≠ Dl := fun z => by rw [z, hD] at h2; cases h2
            simp [this]
          have frd : ∀ q, H' q = none → hd q = false := fun q hq => by
            rw [hhd, fr' q hq]
            have : q ≠ Dl := fun z => by rw [z, k3] at hq; cases hq
            simp [this]
          obtain ⟨sm, d, hdd, rd⟩ := hY i H' x H3 ow hd hi kp sm0 frd y
          have hdrop : ds.drop i = d :: ds.drop (i + 1) := by
            obtain ⟨hlt, e⟩ := List.getElem?_eq_some_iff.mp hdd
            rw [List.drop_eq_getElem_cons hlt, e]
          rw [hdrop] at k6
          simp only [lcL] at k6
          have k1' : ∀ b o, W.A b = false → H1 b = some o → H3 b = some o := fun b o h1 h2 => sm b o (k1 b o h1 h2)
          have k2' : W.R m' H3 := W.keep k2 sm
          have k3' : H3 Dl = some (.lst acc) := sm _ _ k3
          have e3 : EnvOk G W hd (fun _ => false) (wipe σ vs) H3 δ0 := by
            rw [← hδ0]
            exact EnvOk.block (m := m') a1.env vs hhd hD k1' k2' (by rw [k3']; simp)
          have k4' : RepAll G (hid hd H3) ys acc := RepAll.mono (hid_same fun b o _ h => sm b o h) ys k4
          have hdf : hdOf hd (fun _ => false) = hd := by funext b; unfold hdOf; simp
          cases htd : t d δ0 with
          | none => rw [htd] at k6; cases k6
          | some δ1 =>
            rw [htd] at k6
            simp only at k6
            refine ht W hd (fun _ => false) (wipe σ vs) H3 δ0 δ1 d x _ e3 (by rw [hdf]; exact rd) htd fun σ2 e2 w2 => ⟨by rw [w2, wipe_wipe σ vs vs fun _ h => h], W, hd, fun _ => false, δ1, m', ⟨a.w, e2, k2'⟩, ?_⟩
            cases htt : tt δ1 m' with
            | bad => rw [htt] at k6; cases k6
            | exc xx m3 => rw [htt] at k6; cases k6
            | ok b m3 =>
              rw [htt] at k6
              intro H4 s4 r4
              have k1'' : ∀ b o, W.A b = false → H1 b = some o → H4 b = some o := fun b o h1 h2 => s4 b o h1 (k1' b o h1 h2)
              have k3'' : H4 Dl = some (.lst acc) := s4 Dl _ hDA k3'
              have smx : ∀ {Ha Hb : Hp}, Stp W Ha Hb → Same (hid hd Ha) (hid hd Hb) := fun s => hid_same fun b o h1 h2 => by
                refine s b o ?_ h2
                cases q : W.A b with
                | false => rfl
                | true =>
                  rw [hhd] at h1
                  unfold hdOf at h1
                  rw [a.env.wa b q] at h1; cases h1
              have k4'' : RepAll G (hid hd H4) ys acc := RepAll.mono (smx s4) ys k4'
              cases b with
              | false =>
                rw [if_neg Bool.false_ne_true]
                exact ⟨acc, ys, m3, k1'', r4, k3'', k4'', Nat.le_succ_of_le k5, zs, k6, k7⟩
              | true =>
                rw [if_pos rfl]
                refine ⟨W, hd, fun _ => false, δ1, m3, ⟨a.w, e2.step s4 r4, r4⟩, ?_⟩
                simp only at k6
                cases hte : te δ1 m3 with
                | bad => rw [hte] at k6; cases k6
                | exc xx m4 => rw [hte] at k6; cases k6
                | ok yd m4 =>
                  rw [hte] at k6
                  intro v H5 s5 r5 rv
                  rw [hdf] at rv
                  simp only [Rs.bind] at k6
                  have hlen : acc.length = ys.length := RepAll.length k4
                  refine ⟨acc, s5 Dl _ hDA k3'', by omega, ?_⟩
                  cases hlc : lcL t tt te δ0 (ds.drop (i + 1)) m4 with
                  | bad => rw [hlc] at k6; cases k6
                  | exc xx m5 => rw [hlc] at k6; cases k6
                  | ok zs1 m5 =>
                    rw [hlc] at k6
                    simp only at k6
                    cases k6
                    have hup : ∀ b, b ≠ Dl → (upd H5 Dl (.lst (acc ++ [v]))) b = H5 b := fun b hb => upd_ne hb
                    have smu : Same (hid hd H5) (hid hd (upd H5 Dl (.lst (acc ++ [v])))) := hid_same fun b o h1 h2 => by
                      rw [hup b ?_]
                      · exact h2
                      · intro z
                        rw [hhd, z] at h1
                        simp at h1
                    refine ⟨acc ++ [v], ys ++ [yd], m4, fun b o h1 h2 => ?_, ?_, upd_same, ?_, by rw [List.length_append]; simp; omega, zs1, hlc, by simpa using k7⟩
                    · have hb : b ≠ Dl := fun z => by rw [z, hD] at h2; cases h2
                      rw [hup b hb]
                      exact s5 b o h1 (k1'' b o h1 h2)
                    · exact W.fr m4 H5 _ (fun b hb => hup b fun z => by rw [z, hDA] at hb; cases hb) r5
                    · exact RepAll.append (RepAll.mono smu ys (RepAll.mono (smx s5) ys k4'')) (RepAll.one (Rep.mono smu yd rv))
        · rintro H' ⟨acc, ys, m', k1, k2, k3, k4, k5, zs, k6, k7⟩
          rw [List.drop_length] at k6
          simp only [lcL] at k6
          cases k6
          rw [List.append_nil] at k7
          subst k7
          exact p (.ref Dl) H' k1 k2 ⟨Dl, acc, rfl, hid_some.mpr ⟨hDf, k3⟩, RepAll.mono (hid_le fun b o _ h => by
            rw [hhd] at h
            cases z : hdOf hb ow b with
            | false => rfl
            | true => rw [z] at h; cases h) ys k4⟩
    · rw [if_neg hsz] at p
      exact False.elim p
end
end
end DL

/-! Defs over data: their bodies as functions, their calls. -/
namespace DL
open PySem PySem.Spec PyProof.Rows L2

section
variable {M : Type}
/-- a body run on arguments: n slots -/
def runF (n : Nat) (g : Fs M) : Sls → M → Rs M D := fun as m => match g (as ++ List.replicate (n - as.length) .un) m with
  | .rt d m1 => .ok d m1
  | .nx _ m1 => .ok .non m1
  | .exc x m1 => .exc x m1
  | _ => .bad
/-- a promise by a function on data -/
def spD (G : Gx) (𝒲 : Wd M → Prop) (n : Nat) (F : Sls → M → Rs M D) : Sp := fun vs H Q E => vs.length = n ∧ ∃ W hb as m, At G 𝒲 W hb (fun _ => false) (vs.map some) H as m ∧ Post G W hb E H Q (F as m)
theorem hdOf_false (hb : Addr → Bool) : hdOf hb (fun _ => false) = hb := by funext a; unfold hdOf; simp
theorem stp_of_keep {W : Wd M} {H H2 : Hp} {ow2 : Addr → Bool} (k : Keep W (fun _ => false) H ow2 H2) : Stp W H H2 := fun a o h1 h2 => (k a o h1 rfl h2).1
theorem EnvOk.more {G : Gx} {W : Wd M} {hb ow : Addr → Bool} {σ : L2.St} {H : Hp} {δ : Sls} (e : EnvOk G W hb ow σ H δ) (n : Nat) : EnvOk G W hb ow (σ ++ List.replicate n none) H (δ ++ List.replicate n .un) := by
  refine ⟨by simp [e.len], e.wa, e.sep, e.al, fun i s hs => ?_, ?_⟩
  · by_cases hi : i < δ.length
    · rw [List.getElem?_append_left hi] at hs
      rw [List.getElem?_append_left (by rw [← e.len]; exact hi)]
      exact e.sl i s hs
    · rw [List.getElem?_append_right (by omega)] at hs
      rw [List.getElem?_append_right (by rw [← e.len]; omega)]
      have hlt := (List.getElem?_eq_some_iff.mp hs).1
      rw [List.length_replicate] at hlt
      rw [List.getElem?_replicate_of_lt hlt] at hs
      cases hs
      rw [List.getElem?_replicate_of_lt (by rw [← e.len]; exact hlt)]
      exact ⟨none, rfl, trivial⟩
  · have key : ∀ (i : Nat) (t : T), (δ ++ List.replicate n Sl.un)[i]? = some (.own t) → δ[i]? = some (.own t) ∧ i < δ.length := fun i t h => by
      by_cases hi : i < δ.length
      · rw [List.getElem?_append_left hi] at h
        exact ⟨h, hi⟩
      · rw [List.getElem?_append_right (by omega)] at h
        have hlt := (List.getElem?_eq_some_iff.mp h).1
        rw [List.length_replicate] at hlt
        rw [List.getElem?_replicate_of_lt hlt] at h
        cases h
    obtain ⟨φ, h1, h2⟩ := e.fp
    refine ⟨φ, fun i t x q1 q2 => ?_, fun i j t u q1 q2 => h2 i j t u (key i t q1).1 (key j u q2).1⟩
    have hi := (key i t q1).2
    rw [List.getElem?_append_left (by rw [← e.len]; exact hi)] at q2
    exact h1 i t x (key i t q1).1 q2
theorem post_body {G : Gx} {W : Wd M} {hb : Addr → Bool} {E : XK} {H : Hp} {Q : VK} {n : Nat} {g : Fs M} {as : Sls} {m : M} (p : Post G W hb E H Q (runF n g as m)) :
    PostS G W hb E (fun _ => false) H { nx := fun _ H' => Q .non H', rt := Q } (g (as ++ List.replicate (n - as.length) .un) m) := by
  unfold runF at p
  cases hg : g (as ++ List.replicate (n - as.length) .un) m with
  | nx δ m1 => rw [hg] at p; exact fun ow2 σ2 H2 k e r => p .non H2 (stp_of_keep k) r rfl
  | rt d m1 => rw [hg] at p; exact fun ow2 v H2 k r x => p v H2 (stp_of_keep k) r x
  | exc x m1 => rw [hg] at p; exact fun ow2 c dd H2 k r y => p c dd H2 (stp_of_keep k) r y
  | bk δ m1 => rw [hg] at p; exact False.elim p
  | ct δ m1 => rw [hg] at p; exact False.elim p
  | bad => rw [hg] at p; exact False.elim p
theorem body_start {G : Gx} {𝒲 : Wd M → Prop} {E : XK} {H : Hp} {Q : VK} {N : List Str} {g : Fs M} {vs : List V} {n : Nat} (h : spD G 𝒲 n (runF N.length g) vs H Q E) :
    tS G 𝒲 E g { nx := fun _ H' => Q .non H', rt := Q } (start N vs) H := by
  obtain ⟨hl, W, hb, as, m, a, p⟩ := h
  have hlen : as.length = vs.length := by have := a.env.len; simpa using this
  refine ⟨W, hb, fun _ => false, as ++ List.replicate (N.length - as.length) .un, m, ⟨a.w, ?_, a.r⟩, post_body p⟩
  have e := EnvOk.more a.env (N.length - vs.length)
  unfold L2.start
  rw [hlen]
  exact e
section
variable {P : Program} {w : World} {K : PySem.W.Frag} {mg : Str → Option Value} {base : Heap}
/-- THE RULE for a def: its body is a function on data -/
theorem fn_ok {x qual : Str} {st : Stmt} {f : Addr} {fd : FuncData} {N ps : List Str} {k : Nat} {cn : Str → Addr} {𝒲 : Wd M → Prop} {g : Fs M} (F : Fun K x qual st f fd) (S : FnScope N ps (defScope st))
    (hb : ∀ (cdv : Value) (A : Around) (outer : List Env) (s : Shared) (H : Hp) (E : XK), Room k (A.deeper (envOfC qual (defScope st) s.heap.objs.size f cdv)) →
      PSs (cxOf (L2.CX P w) P w K mg base N qual (defScope st) f cdv A outer s H E) (defBody st) (tS ⟨K, cn⟩ 𝒲 E g)) :
    FnOk P w K mg base (L2.CX P w) (k + 1) f fd ps (spD ⟨K, cn⟩ 𝒲 ps.length (runF N.length g)) :=
  F.okX S (fun vs H Q E h => h.1) fun cdv A outer s H vs Q E hr h => ⟨_, hb cdv A outer s H E hr, body_start h⟩
/-- a promise by another function that does as well -/
theorem FnOk.to {k : Nat} {f : Addr} {fd : FuncData} {ps : List Str} {CX : CXT} {G : Gx} {𝒲 : Wd M → Prop} {n : Nat} {F F' : Sls → M → Rs M D} (h : FnOk P w K mg base CX k f fd ps (spD G 𝒲 n F)) (e : ∀ as m, as.length = n → F' as m = .bad ∨ F as m = F' as m) :
    FnOk P w K mg base CX k f fd ps (spD G 𝒲 n F') := h.imp fun vs H Q E ⟨hl, W, hb, as, m, a, p⟩ => ⟨hl, W, hb, as, m, a, by
  have hlen : as.length = n := by have := a.env.len; rw [List.length_map] at this; omega
  rcases e as m hlen with h | h
  · rw [h] at p; exact False.elim p
  · rw [h]; exact p⟩
end

/-! ### arguments: data, lent lists, handles -/
abbrev Fsl (M : Type) := Sls → M → Rs M (List Sl)
def PostAS (G : Gx) (𝒲 : Wd M → Prop) (W : Wd M) (hd : Addr → Bool) (E : XK) (H : Hp) (Q : List V → Hp → Prop) : Rs M (List Sl) → Prop
  | .ok as m => ∀ vs H2, Stp W H H2 → At G 𝒲 W hd (fun _ => false) (vs.map some) H2 as m → Q vs H2
  | .exc x m => ∀ cls dd H2, Stp W H H2 → W.R m H2 → ExcOk G (hid hd H2) x cls dd → E cls dd H2
  | .bad => False
def tDAS (G : Gx) (𝒲 : Wd M → Prop) (E : XK) (f : Fsl M) : TA := fun σ H Q => ∃ W hb ow δ m, At G 𝒲 W hb ow σ H δ m ∧ PostAS G 𝒲 W (hdOf hb ow) E H Q (f δ m)
def saNil : Fsl M := fun _ m => .ok [] m
def saD (f : Fe M) (g : Fsl M) : Fsl M := fun δ m => (f δ m).bind fun d m1 => (g δ m1).bind fun as m2 => .ok (.dat d :: as) m2
def saV (i : Nat) (g : Fsl M) : Fsl M := fun δ m => match δ[i]? with
  | some (.hnd n) => (g δ m).bind fun as m2 => .ok (.hnd n :: as) m2
  | _ => .bad
section
variable {G : Gx} {𝒲 : Wd M → Prop} {E : XK} {σ : L2.St} {H H2 : Hp} {W : Wd M} {hb ow : Addr → Bool} {δ : Sls} {m m2 : M}
theorem PostAS.from_ {hd : Addr → Bool} {Q : List V → Hp → Prop} {r : Rs M (List Sl)} (e : Stp W H H2) (h : PostAS G 𝒲 W hd E H Q r) : PostAS G 𝒲 W hd E H2 Q r := by
  cases r with
  | ok d m => exact fun v H3 s => h v H3 (e.trans s)
  | exc x m => exact fun c dd H3 s => h c dd H3 (e.trans s)
  | bad => exact h
theorem hd_al (a : At G 𝒲 W hb ow σ H δ m) : ∀ b, hdOf hb ow b = true ∨ False → H b ≠ none := fun b h => by
  rcases h with h | h
  · refine a.env.al b ?_
    unfold hdOf at h
    cases z : hb b with
    | true => exact .inl rfl
    | false => rw [z] at h; exact .inr h
  · exact h.elim
theorem at_nil (a : At G 𝒲 W hb ow σ H δ m) : At G 𝒲 W (hdOf hb ow) (fun _ => false) ([] : L2.St) H ([] : Sls) m :=
  ⟨a.w, ⟨rfl, fun b h => by unfold hdOf; rw [a.env.wa b h]; rfl, fun b h => (by cases h), fun b h => hd_al a b (by simpa using h), fun i s h => (by simp at h), ⟨fun _ => [], fun i t x h => (by simp at h), fun i j t u h => (by simp at h)⟩⟩, a.r⟩
theorem at_cons {hd : Addr → Bool} {τ : L2.St} {as : Sls} {s : Sl} {v : Option V} (a : At G 𝒲 W hd (fun _ => false) τ H as m) (nown : ∀ t, s ≠ .own t) (h : SlOk G W (fun b => hd b || false) (fun _ => false) H s v) : At G 𝒲 W hd (fun _ => false) (v :: τ) H (s :: as) m := by
  refine ⟨a.w, ⟨by simp [a.env.len], a.env.wa, a.env.sep, a.env.al, fun i s' hs => ?_, ?_⟩, a.r⟩
  · cases i with
    | zero =>
      simp at hs
      subst hs
      exact ⟨v, rfl, h⟩
    | succ i =>
      simp at hs
      simpa using a.env.sl i s' hs
  · obtain ⟨φ, h1, h2⟩ := a.env.fp
    refine ⟨fun i => φ (i - 1), fun i t x q1 q2 => ?_, fun i j t u q1 q2 ne => ?_⟩
    · cases i with
      | zero => simp at q1; exact absurd q1 (nown t)
      | succ i => exact h1 i t x (by simpa using q1) (by simpa using q2)
    · cases i with
      | zero => simp at q1; exact absurd q1 (nown t)
      | succ i =>
        cases j with
        | zero => simp at q2; exact absurd q2 (nown u)
        | succ j => exact h2 i j t u (by simpa using q1) (by simpa using q2) (by omega)
theorem lift_saNil {Q : List V → Hp → Prop} (h : tDAS G 𝒲 E (saNil : Fsl M) σ H Q) : tNil σ H Q := by
  obtain ⟨W, hb, ow, δ, m, a, p⟩ := h
  exact p [] H Stp.refl (at_nil a)
theorem lift_saD {f : Fe M} {g : Fsl M} {Q : List V → Hp → Prop} (h : tDAS G 𝒲 E (saD f g) σ H Q) : tCons (tD G 𝒲 E f) (tDAS G 𝒲 E g) σ H Q := by
  obtain ⟨W, hb, ow, δ, m, at0, p⟩ := h
  refine ⟨W, hb, ow, δ, m, at0, ?_⟩
  unfold saD at p
  cases hf : f δ m with
  | bad => rw [hf] at p; exact p
  | exc x m1 => rw [hf] at p; exact p
  | ok x m1 =>
    rw [hf] at p
    intro v H1 s1 r1 rx
    have a1 := at0.step s1 r1
    refine ⟨W, hb, ow, δ, m1, a1, ?_⟩
    replace p := PostAS.from_ s1 p
    simp only [Rs.bind] at p
    cases hg : g δ m1 with
    | bad => rw [hg] at p; exact p
    | exc x2 m2 => rw [hg] at p; exact p
    | ok as m2 =>
      rw [hg] at p
      intro vs H2 s2 a2
      refine p (v :: vs) H2 s2 (at_cons a2 (fun t h => by cases h) ⟨v, rfl, ?_⟩)
      have e : (fun b => hdOf hb ow b || false) = hdOf hb ow := by funext b; simp
      rw [e]
      exact Rep.mono (a1.same s2) x rx
theorem lift_saV {i : Nat} {g : Fsl M} {Q : List V → Hp → Prop} (h : tDAS G 𝒲 E (saV i g) σ H Q) : tCons (tVar i) (tDAS G 𝒲 E g) σ H Q := by
  obtain ⟨W, hb, ow, δ, m, at0, p⟩ := h
  unfold saV at p
  have e0 : (fun b => hdOf hb ow b || false) = hdOf hb ow := by funext b; simp
  cases hs : δ[i]? with
  | none => rw [hs] at p; exact False.elim p
  | some s =>
    rw [hs] at p
    obtain ⟨v, hv, ok⟩ := at0.env.sl i s hs
    cases s with
    | un => exact False.elim p
    | dat d => exact False.elim p
    | own ds => exact False.elim p
    | hnd n =>
      obtain ⟨x, e1, h1⟩ := ok
      subst e1
      refine ⟨x, hv, W, hb, ow, δ, m, at0, ?_⟩
      cases hg : g δ m with
      | bad => rw [hg] at p; exact p
      | exc x2 m2 => rw [hg] at p; exact p
      | ok as m2 =>
        rw [hg] at p
        intro vs H2 s2 a2
        exact p (x :: vs) H2 s2 (at_cons a2 (fun t h => by cases h) ⟨x, rfl, h1⟩)

/-! ### calls -/
/-- a call in the same world -/
def fCall (F : Sls → M → Rs M D) (g : Fsl M) : Fe M := fun δ m => (g δ m).bind fun as m1 => F as m1
/-- a call of a def that knows no world -/
def fCallP (F : Sls → Unit → Rs Unit D) (g : Fsl M) : Fe M := fun δ m => (g δ m).bind fun as m1 => match F as () with
  | .ok d _ => .ok d m1
  | .exc x _ => .exc x m1
  | .bad => .bad
/-- the worlds of a def that knows none -/
def w0 : Wd Unit → Prop := fun W => W.A = (fun _ => false) ∧ W.R = fun _ _ => True
theorem lift_call {n : Nat} {F : Sls → M → Rs M D} {g : Fsl M} {Q : VK} (hn : ∀ δ m as m1, g δ m = .ok as m1 → as.length = n) (h : tD G 𝒲 E (fCall F g) σ H Q) : tCall (spD G 𝒲 n F) [] E (tDAS G 𝒲 E g) σ H Q := by
  obtain ⟨W, hb, ow, δ, m, at0, p⟩ := h
  refine ⟨W, hb, ow, δ, m, at0, ?_⟩
  unfold fCall at p
  cases hf : g δ m with
  | bad => rw [hf] at p; exact p
  | exc x m1 => rw [hf] at p; exact p
  | ok as m1 =>
    rw [hf] at p
    intro vs H1 s1 a1
    have hl : vs.length = n := by
      have := a1.env.len
      rw [hn δ m as m1 hf, List.length_map] at this
      exact this.symm
    show spD G 𝒲 n F (vs ++ []) H1 Q E
    rw [List.append_nil]
    exact ⟨hl, W, hdOf hb ow, as, m1, a1, Post.from_ s1 p⟩
theorem unworld (a : At G 𝒲 W hb ow σ H δ m) (hh : ∀ (i : Nat) n, δ[i]? ≠ some (.hnd n)) : At G w0 wd0 hb ow σ H δ () := by
  refine ⟨⟨rfl, rfl⟩, ⟨a.env.len, fun b h => (by cases h), a.env.sep, a.env.al, fun i s hs => ?_, a.env.fp⟩, trivial⟩
  obtain ⟨v, h1, h2⟩ := a.env.sl i s hs
  refine ⟨v, h1, ?_⟩
  cases s with
  | un => trivial
  | dat d => exact h2
  | own ds => exact h2
  | hnd n => exact absurd hs (hh i n)
theorem lift_callP {n : Nat} {F : Sls → Unit → Rs Unit D} {g : Fsl M} {Q : VK} (hn : ∀ δ m as m1, g δ m = .ok as m1 → as.length = n) (hh : ∀ δ m as m1, g δ m = .ok as m1 → ∀ (i : Nat) n, as[i]? ≠ some (.hnd n)) (h : tD G 𝒲 E (fCallP F g) σ H Q) :
    tCall (spD G w0 n F) [] E (tDAS G 𝒲 E g) σ H Q := by
  obtain ⟨W, hb, ow, δ, m, at0, p⟩ := h
  refine ⟨W, hb, ow, δ, m, at0, ?_⟩
  unfold fCallP at p
  cases hf : g δ m with
  | bad => rw [hf] at p; exact p
  | exc x m1 => rw [hf] at p; exact p
  | ok as m1 =>
    rw [hf] at p
    intro vs H1 s1 a1
    have hl : vs.length = n := by
      have := a1.env.len
      rw [hn δ m as m1 hf, List.length_map] at this
      exact this.symm
    show spD G w0 n F (vs ++ []) H1 Q E
    rw [List.append_nil]
    refine ⟨hl, wd0, hdOf hb ow, as, (), unworld a1 (hh δ m as m1 hf), ?_⟩
    simp only [Rs.bind] at p
    have st : ∀ {H2 : Hp}, Stp wd0 H1 H2 → Same H1 H2 := fun s b o e => s b o rfl e
    cases hF : F as () with
    | bad => rw [hF] at p; exact p
    | exc x m2 =>
      rw [hF] at p
      exact fun c dd H2 s2 _ x => p c dd H2 (s1.trans (Stp.of (st s2))) (W.keep a1.r (st s2)) x
    | ok d m2 =>
      rw [hF] at p
      exact fun v H2 s2 _ x => p v H2 (s1.trans (Stp.of (st s2))) (W.keep a1.r (st s2)) x
end
end
end DL

/-! The rules, one for a construct: a piece of Python and the function on data that it is. -/
namespace DL
open PySem PySem.Spec PyProof.Rows L2

section
variable {M : Type} {X : Cx} {cn : Str → Addr} {𝒲 : Wd M → Prop} {E : XK}
abbrev DE (X : Cx) (cn : Str → Addr) (𝒲 : Wd M → Prop) (E : XK) (e : Expr) (f : Fe M) : Prop := PE X e (tD ⟨X.K, cn⟩ 𝒲 E f)
abbrev DT (X : Cx) (cn : Str → Addr) (𝒲 : Wd M → Prop) (E : XK) (e : Expr) (f : Ft M) : Prop := PT X e (tDT ⟨X.K, cn⟩ 𝒲 E f)
abbrev DW (X : Cx) (cn : Str → Addr) (𝒲 : Wd M → Prop) (E : XK) (e : Expr) (f : Ft M) : Prop := PW X e (tDT ⟨X.K, cn⟩ 𝒲 E f)
abbrev DA (X : Cx) (cn : Str → Addr) (𝒲 : Wd M → Prop) (E : XK) (e : List Expr) (f : Fa M) : Prop := PA X e (tDA ⟨X.K, cn⟩ 𝒲 E f)
abbrev DAS (X : Cx) (cn : Str → Addr) (𝒲 : Wd M → Prop) (E : XK) (e : List Expr) (f : Fsl M) : Prop := PA X e (tDAS ⟨X.K, cn⟩ 𝒲 E f)
abbrev DI (X : Cx) (cn : Str → Addr) (𝒲 : Wd M → Prop) (E : XK) (tg e : Expr) (f : Fa M) : Prop := PI X tg e (tDI ⟨X.K, cn⟩ 𝒲 E f)
abbrev DS (X : Cx) (cn : Str → Addr) (𝒲 : Wd M → Prop) (E : XK) (s : Stmt) (g : Fs M) : Prop := PS X s (tS ⟨X.K, cn⟩ 𝒲 E g)
abbrev DSs (X : Cx) (cn : Str → Addr) (𝒲 : Wd M → Prop) (E : XK) (s : List Stmt) (g : Fs M) : Prop := PSs X s (tS ⟨X.K, cn⟩ 𝒲 E g)

theorem lift_var {G : Gx} {σ : L2.St} {H : Hp} {Q : VK} {i : Nat} (h : tD G 𝒲 E (fVar i) σ H Q) : tVar i σ H Q := by
  obtain ⟨W, hb, ow, δ, m, a, p⟩ := h
  unfold fVar at p
  cases hs : δ[i]? with
  | none => rw [hs] at p; exact False.elim p
  | some s =>
    rw [hs] at p
    obtain ⟨v, hv, ok⟩ := a.env.sl i s hs
    cases s with
    | dat d =>
      obtain ⟨x, rfl, r⟩ := ok
      exact ⟨x, hv, p x H Stp.refl a.r r⟩
    | _ => exact False.elim p
theorem lift_c {G : Gx} {σ : L2.St} {H : Hp} {Q : VK} {d : D} {v : V} (hr : ∀ H, Rep G H d v) (h : tD G 𝒲 E (fC d) σ H Q) : tC v σ H Q := by
  obtain ⟨W, hb, ow, δ, m, a, p⟩ := h
  exact p v H Stp.refl a.r (hr _)

/-! ### names, constants -/
theorem de_var (i : Nat) {x : Str} {pos : Pos} (hN : X.N[i]? = some x := by rfl) (hv : Vis X.env.scope x := by first | exact Or.inl rfl | exact Or.inr (Or.inl rfl) | exact Or.inr (Or.inr rfl)) (hd : (x == ("__debug__" : Str)) = false := by decide)
    (hcd : (x == ("__classdict__" : Str)) = false := by decide) : DE X cn 𝒲 E (.Name x pos) (fVar i) := PE.imp (pe_var hN hv hd hcd) fun _ _ _ => lift_var
theorem de_int {i : Int} {j pos} : DE X cn 𝒲 E (.Constant (.int i) j pos) (fC (.int i)) := PE.imp pe_int fun _ _ _ => lift_c fun _ => rfl
theorem de_bl {b : Bool} {j pos} : DE X cn 𝒲 E (.Constant (.bool b) j pos) (fC (.bl b)) := PE.imp pe_bl fun _ _ _ => lift_c fun _ => rfl
theorem de_non {j pos} : DE X cn 𝒲 E (.Constant .none j pos) (fC .non) := PE.imp pe_non fun _ _ _ => lift_c fun _ => rfl
theorem de_str {x : Str} {j pos} (hl : x.length ≤ sizeLine := by decide +kernel) : DE X cn 𝒲 E (.Constant (.str x) j pos) (fC (.str x)) := PE.imp pe_str fun _ _ _ => lift_c fun _ => ⟨rfl, hl⟩
/-- a module's constant -/
theorem de_glob {x : Str} {v : V} {u : Value} {d : D} {pos : Pos} (hg : Gl X x) (hm : X.mg x = some u) (r : RelV v u) (hr : ∀ H, Rep ⟨X.K, cn⟩ H d v) (hd : (x == ("__debug__" : Str)) = false := by decide) : DE X cn 𝒲 E (.Name x pos) (fC d) :=
  PE.imp (pe_glob hg hm r hd) fun _ _ _ => lift_c hr

/-! ### operators -/
section
variable {a b c : Expr} {f g h : Fe M} {pos : Pos}
theorem de_add (ha : DE X cn 𝒲 E a f) (hb : DE X cn 𝒲 E b g) : DE X cn 𝒲 E (.BinOp a .Add b pos) (f2 oAdd f g) := PE.imp (pe_op (op_add.or (op_add_str.or (op_cat.or op_catA))) ha hb) fun _ _ _ => lift2 rd_add
theorem de_sub (ha : DE X cn 𝒲 E a f) (hb : DE X cn 𝒲 E b g) : DE X cn 𝒲 E (.BinOp a .Sub b pos) (f2 oSub f g) := PE.imp (pe_op op_sub ha hb) fun _ _ _ => lift2 rd_sub
theorem de_mul (ha : DE X cn 𝒲 E a f) (hb : DE X cn 𝒲 E b g) : DE X cn 𝒲 E (.BinOp a .Mult b pos) (f2 oMul f g) := PE.imp (pe_op (op_mul.or op_rep) ha hb) fun _ _ _ => lift2 rd_mul
theorem de_mod (ha : DE X cn 𝒲 E a f) (hb : DE X cn 𝒲 E b g) : DE X cn 𝒲 E (.BinOp a .Mod b pos) (f2 oMod f g) := PE.imp (pe_op op_mod ha hb) fun _ _ _ => lift2 rd_mod
theorem de_fdiv (ha : DE X cn 𝒲 E a f) (hb : DE X cn 𝒲 E b g) : DE X cn 𝒲 E (.BinOp a .FloorDiv b pos) (f2 oFdiv f g) := PE.imp (pe_op op_fdiv ha hb) fun _ _ _ => lift2 rd_fdiv
theorem de_pow (ha : DE X cn 𝒲 E a f) (hb : DE X cn 𝒲 E b g) : DE X cn 𝒲 E (.BinOp a .Pow b pos) (f2 oPow f g) := PE.imp (pe_op op_pow ha hb) fun _ _ _ => lift2 rd_pow
theorem de_neg (ha : DE X cn 𝒲 E a f) : DE X cn 𝒲 E (.UnaryOp .USub a pos) (f1 oNeg f) := PE.imp (pe_un un_neg ha) fun _ _ _ => lift1 rd_neg
theorem de_not (ha : DE X cn 𝒲 E a f) : DE X cn 𝒲 E (.UnaryOp .Not a pos) (fNotV f) := PE.imp (pe_not ha) fun _ _ _ => lift_notV
theorem de_and {rest : List Expr} (ha : DE X cn 𝒲 E a f) (hb : DE X cn 𝒲 E (.BoolOp .And (b :: rest) pos) g) : DE X cn 𝒲 E (.BoolOp .And (a :: b :: rest) pos) (fAndV f g) := PE.imp (pe_and ha hb) fun _ _ _ => lift_andV
theorem de_or {rest : List Expr} (ha : DE X cn 𝒲 E a f) (hb : DE X cn 𝒲 E (.BoolOp .Or (b :: rest) pos) g) : DE X cn 𝒲 E (.BoolOp .Or (a :: b :: rest) pos) (fOrV f g) := PE.imp (pe_or ha hb) fun _ _ _ => lift_orV
theorem de_one {op} (ha : DE X cn 𝒲 E a f) : DE X cn 𝒲 E (.BoolOp op [a] pos) f := pe_one ha
theorem de_if {t : Ft M} (hc : DT X cn 𝒲 E c t) (ha : DE X cn 𝒲 E a f) (hb : DE X cn 𝒲 E b g) : DE X cn 𝒲 E (.IfExp c a b pos) (fIf t f g) := PE.imp (pe_ifExp hc ha hb) fun _ _ _ => lift_if
/-- comparisons: by their rule on values -/
structure Cm (X : Cx) (cn : Str → Addr) (op : CmpOp) (o : D → D → Option D) : Prop where
  ex : ∃ r, OpR X (compareOp op) r ∧ RD2 ⟨X.K, cn⟩ r o
theorem cm_lt : Cm X cn .Lt oLt := ⟨⟨_, op_lt.or op_lt_str, rd_lt⟩⟩
theorem cm_le : Cm X cn .LtE oLe := ⟨⟨_, op_le, rd_le⟩⟩
theorem cm_gt : Cm X cn .Gt oGt := ⟨⟨_, op_gt, rd_gt⟩⟩
theorem cm_ge : Cm X cn .GtE oGe := ⟨⟨_, op_ge, rd_ge⟩⟩
theorem cm_eq {k : Nat} (hr : Room k X.A) : Cm X cn .Eq oEq := ⟨⟨_, op_eqD hr.units, rd_eq⟩⟩
theorem cm_ne {k : Nat} (hr : Room k X.A) : Cm X cn .NotEq oNe := ⟨⟨_, op_neD hr.units, rd_ne⟩⟩
theorem de_cmp {op : CmpOp} {o : D → D → Option D} (k : Cm X cn op o) (ha : DE X cn 𝒲 E a f) (hb : DE X cn 𝒲 E b g) (hm : behindInMarks op b = false := by first | exact nomark _ | rfl) : DE X cn 𝒲 E (.Compare a [op] [b] pos) (f2 o f g) := by
  obtain ⟨r, h1, h2⟩ := k.ex
  exact PE.imp (pe_cmpR h1 ha hb hm) fun _ _ _ => lift2 h2
theorem dt_cmp {op : CmpOp} {o : D → D → Option D} (k : Cm X cn op o) (ha : DE X cn 𝒲 E a f) (hb : DE X cn 𝒲 E b g) (hm : behindInMarks op b = false := by first | exact nomark _ | rfl) : DT X cn 𝒲 E (.Compare a [op] [b] pos) (fB (f2 o f g)) := by
  obtain ⟨r, h1, h2⟩ := k.ex
  refine PT.imp (pt_cmpR h1 ha hb hm) fun σ H Q h => ?_
  exact (show tTest (tOp r _ _) σ H Q from (lift2 h2 (lift_b h)))
theorem de_chain {op op' : CmpOp} {o o' : D → D → Option D} (k : Cm X cn op o) (k' : Cm X cn op' o') (ha : DE X cn 𝒲 E a f) (hb : DE X cn 𝒲 E b g) (hc : DE X cn 𝒲 E c h)
    (hm : behindInMarks op' c = false := by first | exact nomark _ | rfl) : DE X cn 𝒲 E (.Compare a [op, op'] [b, c] pos) (fChain o o' f g h) := by
  obtain ⟨r, h1, h2⟩ := k.ex
  obtain ⟨r', h1', h2'⟩ := k'.ex
  exact PE.imp (pe_chain h1 h1' ha hb hc hm) fun _ _ _ => lift_chain h2 h2'
theorem dt_chain {op op' : CmpOp} {o o' : D → D → Option D} (k : Cm X cn op o) (k' : Cm X cn op' o') (ha : DE X cn 𝒲 E a f) (hb : DE X cn 𝒲 E b g) (hc : DE X cn 𝒲 E c h)
    (hm : behindInMarks op' c = false := by first | exact nomark _ | rfl) : DT X cn 𝒲 E (.Compare a [op, op'] [b, c] pos) (fB (fChain o o' f g h)) := by
  obtain ⟨r, h1, h2⟩ := k.ex
  obtain ⟨r', h1', h2'⟩ := k'.ex
  refine PT.imp (pt_chain h1 h1' ha hb hc hm) fun σ H Q h => ?_
  exact lift_chain h2 h2' (lift_b h)
theorem rd_isN {G : Gx} : RD2 G (fun x y H Q => y = .non ∧ Q (.bl (decide (x = .non))) H) (fun x y => match y with | .non => oIsN x | _ => none) := by
  intro hd H x y d v u Q hn rx ry ho k
  cases y <;> simp only at ho <;> (try contradiction)
  refine ⟨ry, k _ H (Same.refl H) ?_⟩
  cases x with
  | non =>
    obtain rfl : v = .non := rx
    cases ho; rfl
  | bl b =>
    obtain rfl : v = .bl b := rx
    cases ho; rfl
  | int i =>
    obtain rfl : v = .int i := rx
    cases ho; rfl
  | str z =>
    obtain ⟨rfl, _⟩ := rx
    cases ho; rfl
  | lst ds =>
    obtain ⟨p, xs, rfl, _⟩ := rx
    cases ho; rfl
  | tup ds =>
    obtain ⟨p, xs, rfl, _⟩ := rx
    cases ho; rfl
  | ins c ns ds =>
    obtain ⟨p, dx, xs, rfl, _⟩ := rx
    cases ho; rfl
  | dK ks ds =>
    obtain ⟨p, xs, rfl, _⟩ := rx
    cases ho; rfl
  | dT ks ds =>
    obtain ⟨p, xs, rfl, _⟩ := rx
    cases ho; rfl
theorem rd_notN {G : Gx} : RD2 G (fun x y H Q => y = .non ∧ Q (.bl (!decide (x = .non))) H) (fun x y => match y with | .non => oNotN x | _ => none) := by
  intro hd H x y d v u Q hn rx ry ho k
  cases y <;> simp only at ho <;> (try contradiction)
  refine ⟨ry, k _ H (Same.refl H) ?_⟩
  cases x with
  | non =>
    obtain rfl : v = .non := rx
    cases ho; rfl
  | bl b =>
    obtain rfl : v = .bl b := rx
    cases ho; rfl
  | int i =>
    obtain rfl : v = .int i := rx
    cases ho; rfl
  | str z =>
    obtain ⟨rfl, _⟩ := rx
    cases ho; rfl
  | lst ds =>
    obtain ⟨p, xs, rfl, _⟩ := rx
    cases ho; rfl
  | tup ds =>
    obtain ⟨p, xs, rfl, _⟩ := rx
    cases ho; rfl
  | ins c ns ds =>
    obtain ⟨p, dx, xs, rfl, _⟩ := rx
    cases ho; rfl
  | dK ks ds =>
    obtain ⟨p, xs, rfl, _⟩ := rx
    cases ho; rfl
  | dT ks ds =>
    obtain ⟨p, xs, rfl, _⟩ := rx
    cases ho; rfl
def oIs2 : D → D → Option D := fun x y => match y with | .non => oIsN x | _ => none
def oNotIs2 : D → D → Option D := fun x y => match y with | .non => oNotN x | _ => none
theorem cm_is : Cm X cn .Is oIs2 := ⟨⟨_, op_isN, rd_isN⟩⟩
theorem cm_isnot : Cm X cn .IsNot oNotIs2 := ⟨⟨_, op_notN, rd_notN⟩⟩
end

/-! ### tests -/
section
variable {a b : Expr} {f : Fe M} {t u : Ft M} {pos : Pos}
/-- a value that is a bool -/
theorem dt_val (ha : DE X cn 𝒲 E a f) (he : ∀ whole, isTrue a X.env whole = (do let v ← whole; standAt a.pos; holding [v] (truthy v)) := by intro _; rfl) : DT X cn 𝒲 E a (fB f) := PT.imp (pt_val ha he) fun _ _ _ h => lift_b h
theorem dt_tru (ha : DE X cn 𝒲 E a f) (he : ∀ whole, isTrue a X.env whole = (do let v ← whole; standAt a.pos; holding [v] (truthy v)) := by intro _; rfl) : DT X cn 𝒲 E a (fTr f) := PT.imp (pt_truth ha he) fun _ _ _ h => lift_tr h
theorem dt_not (ha : DT X cn 𝒲 E a t) : DT X cn 𝒲 E (.UnaryOp .Not a pos) (fNot t) := PT.imp (pt_not ha) fun _ _ _ => lift_not
theorem dw_and {rest : List Expr} (ha : DT X cn 𝒲 E a t) (hb : DW X cn 𝒲 E (.BoolOp .And (b :: rest) pos) u) : DW X cn 𝒲 E (.BoolOp .And (a :: b :: rest) pos) (fAnd t u) := PW.imp (pw_and ha hb) fun _ _ _ => lift_and
theorem dw_or {rest : List Expr} (ha : DT X cn 𝒲 E a t) (hb : DW X cn 𝒲 E (.BoolOp .Or (b :: rest) pos) u) : DW X cn 𝒲 E (.BoolOp .Or (a :: b :: rest) pos) (fOr t u) := PW.imp (pw_or ha hb) fun _ _ _ => lift_or
theorem dw_and1 (ha : DT X cn 𝒲 E a t) : DW X cn 𝒲 E (.BoolOp .And [a] pos) t := pw_and1 ha
theorem dw_or1 (ha : DT X cn 𝒲 E a t) : DW X cn 𝒲 E (.BoolOp .Or [a] pos) t := pw_or1 ha
theorem dt_w (h : DW X cn 𝒲 E a t) : DT X cn 𝒲 E a t := PW.pt h
end

/-! ### displays, arguments -/
section
variable {e : Expr} {es : List Expr} {f : Fe M} {g : Fa M} {k : Fsl M} {pos : Pos}
theorem da_nil : DA X cn 𝒲 E [] (fNil : Fa M) := PA.imp pa_nil fun _ _ _ => lift_nil
theorem da_cons (h1 : DE X cn 𝒲 E e f) (h2 : DA X cn 𝒲 E es g) (hs : starEach (e :: es) X.env = (false, eval e X.env) :: starEach es X.env := by rfl) : DA X cn 𝒲 E (e :: es) (fCons f g) := PA.imp (pa_cons h1 h2 hs) fun _ _ _ => lift_cons
theorem das_nil : DAS X cn 𝒲 E [] (saNil : Fsl M) := PA.imp pa_nil fun _ _ _ => lift_saNil
theorem das_cons (h1 : DE X cn 𝒲 E e f) (h2 : DAS X cn 𝒲 E es k) (hs : starEach (e :: es) X.env = (false, eval e X.env) :: starEach es X.env := by rfl) : DAS X cn 𝒲 E (e :: es) (saD f k) := PA.imp (pa_cons h1 h2 hs) fun _ _ _ => lift_saD
theorem das_var (i : Nat) {x : Str} {p : Pos} (h2 : DAS X cn 𝒲 E es k) (hN : X.N[i]? = some x := by rfl) (hv : Vis X.env.scope x := by first | exact Or.inl rfl | exact Or.inr (Or.inl rfl) | exact Or.inr (Or.inr rfl)) (hd : (x == ("__debug__" : Str)) = false := by decide)
    (hcd : (x == ("__classdict__" : Str)) = false := by decide) (hs : starEach (.Name x p :: es) X.env = (false, eval (.Name x p) X.env) :: starEach es X.env := by rfl) : DAS X cn 𝒲 E (.Name x p :: es) (saV i k) := PA.imp (pa_cons (pe_var hN hv hd hcd) h2 hs) fun _ _ _ => lift_saV
theorem de_tup {x1} (h : DA X cn 𝒲 E es g) : DE X cn 𝒲 E (.Tuple es x1 pos) (fTup g) := PE.imp (pe_tup h) fun _ _ _ => lift_tup
theorem de_lst (h : DA X cn 𝒲 E es g) : DE X cn 𝒲 E (.List es pos) (fLst g) := PE.imp (pe_lst h) fun _ _ _ => lift_lst
end

/-! ### items -/
theorem atI_all {G : Gx} {H : Hp} {ds : List D} {xs : List V} {i : Int} {d : D} (r : RepAll G H ds xs) (h : atI ds i = some d) : ∃ v, atI xs i = some v ∧ Rep G H d v := by
  unfold atI at h ⊢
  rw [RepAll.length r]
  cases q : ixN ds.length i with
  | none => rw [q] at h; cases h
  | some j =>
    rw [q] at h
    exact RepAll.getD r h
theorem rd_ix {G : Gx} : RD2 G (rIx G.K) oIx := by
  intro hd H x y d v u Q hn rx ry ho k
  cases x <;> cases y <;> simp only [oIx] at ho <;> (try contradiction)
  · rename_i z i
    obtain ⟨rfl, hz⟩ := rx
    obtain rfl : u = .int i := ry
    cases q : atI z.cps.toList i with
    | none => rw [q] at ho; cases ho
    | some c =>
      rw [q] at ho
      cases ho
      exact .inr (.inr ⟨z, i, c, rfl, rfl, hz, q, k _ H (Same.refl H) ⟨rfl, by show 1 ≤ sizeLine; decide⟩⟩)
  · rename_i ds i
    obtain ⟨p, xs, rfl, h1, h2⟩ := rx
    obtain rfl : u = .int i := ry
    obtain ⟨v, e1, e2⟩ := atI_all h2 ho
    exact .inl ⟨p, xs, i, v, rfl, rfl, .inl (.inl (hid_some.mp h1).2), e1, k _ H (Same.refl H) e2⟩
  · rename_i ds i
    obtain ⟨p, xs, rfl, h1, h2⟩ := rx
    obtain rfl : u = .int i := ry
    obtain ⟨v, e1, e2⟩ := atI_all h2 ho
    exact .inr (.inl ⟨p, xs, i, v, rfl, rfl, Same.sqT hid_self h1, e1, k _ H (Same.refl H) e2⟩)
theorem de_ix {a b : Expr} {f g : Fe M} {pos : Pos} (ha : DE X cn 𝒲 E a f) (hb : DE X cn 𝒲 E b g) (hs : PlainIx b := by exact fun _ _ => rfl) : DE X cn 𝒲 E (.Subscript a b pos) (f2 oIx f g) := PE.imp (pe_ix ix_seq ha hb hs) fun _ _ _ => lift2 rd_ix

/-! ### calls of built-ins -/
structure Bf (X : Cx) (cn : Str → Addr) (f : Value) (o : List D → Option D) : Prop where
  ex : ∃ r, CallR X f r ∧ RDA ⟨X.K, cn⟩ r o
theorem de_bi {x : Str} {p pos : Pos} {e : Expr} {es : List Expr} {id : String} {o : List D → Option D} {g : Fa M} (k : Bf X cn (.builtin id) o) (hg : Gl X x) (hm : X.mg x = none) (hv : bootBuiltins x = some (.builtin id)) (ha : DA X cn 𝒲 E (e :: es) g)
    (hn : x ≠ "__name__" := by decide) (hdb : (x == ("__debug__" : Str)) = false := by decide) (he : starEach (e :: es) X.env = (false, eval e X.env) :: starEach es X.env := by rfl) (hpl : (backTo pos (starEach es X.env)).any (·.1) = false := by rfl) :
    DE X cn 𝒲 E (.Call (.Name x p) (e :: es) [] pos) (fCB o g) := by
  obtain ⟨r, h1, h2⟩ := k.ex
  exact PE.imp (pe_callB h1 hg hm hv ha hn hdb he hpl) fun _ _ _ => liftA h2
theorem de_ty {x : Str} {p pos : Pos} {e : Expr} {es : List Expr} {T : String} {o : List D → Option D} {g : Fa M} (k : Bf X cn (.type T) o) (hg : Gl X x) (hm : X.mg x = none) (hv : bootBuiltins x = some (.type T)) (ha : DA X cn 𝒲 E (e :: es) g)
    (hn : x ≠ "__name__" := by decide) (hdb : (x == ("__debug__" : Str)) = false := by decide) (he : starEach (e :: es) X.env = (false, eval e X.env) :: starEach es X.env := by rfl) (hpl : (backTo pos (starEach es X.env)).any (·.1) = false := by rfl) :
    DE X cn 𝒲 E (.Call (.Name x p) (e :: es) [] pos) (fCB o g) := by
  obtain ⟨r, h1, h2⟩ := k.ex
  exact PE.imp (pe_callTy h1 hg hm hv ha hn hdb he hpl) fun _ _ _ => liftA h2
theorem repAll1 {G : Gx} {H : Hp} {x : D} {vs : List V} (r : RepAll G H [x] vs) : ∃ v, vs = [v] ∧ Rep G H x v := by
  obtain ⟨v, r', rfl, h1, h2⟩ := r
  obtain rfl : r' = [] := h2
  exact ⟨v, rfl, h1⟩
theorem CallR.or {f : Value} {r r' : List V → Hp → VK → Prop} (h : CallR X f r) (h' : CallR X f r') : CallR X f (fun xs H Q => r xs H Q ∨ r' xs H Q) := fun pins s σ H vs us Q I rv q => by
  rcases q with q | q
  · exact h pins s σ H vs us Q I rv q
  · exact h' pins s σ H vs us Q I rv q
theorem bf_len : Bf X cn (.builtin "len") oLen := by
  refine ⟨_, CallR.or call_len_seq call_len_str, ?_⟩
  intro hd H xs d vs Q hn rx ho k
  match xs with
  | [] => cases ho
  | [x] =>
    obtain ⟨v, rfl, r⟩ := repAll1 rx
    cases x <;> simp only [oLen] at ho <;> (try contradiction)
    · rename_i z
      obtain ⟨rfl, hz⟩ := r
      cases ho
      exact .inr ⟨z, rfl, hz, k _ H (Same.refl H) rfl⟩
    · rename_i ds
      obtain ⟨p, ys, rfl, h1, h2⟩ := r
      cases ho
      refine .inl ⟨p, ys, rfl, .inl (.inl (.inl (hid_some.mp h1).2)), k _ H (Same.refl H) ?_⟩
      rw [RepAll.length h2]; rfl
    · rename_i ds
      obtain ⟨p, ys, rfl, h1, h2⟩ := r
      cases ho
      refine .inl ⟨p, ys, rfl, .inr (Same.sqT hid_self h1), k _ H (Same.refl H) ?_⟩
      rw [RepAll.length h2]; rfl
  | x :: y :: r => cases x <;> simp only [oLen] at ho <;> contradiction
theorem bf_int : Bf X cn (.type "int") oInt := by
  refine ⟨_, call_int1, ?_⟩
  intro hd H xs d vs Q hn rx ho k
  match xs with
  | [] => cases ho
  | [x] =>
    obtain ⟨v, rfl, r⟩ := repAll1 rx
    cases x <;> simp only [oInt] at ho <;> (try contradiction)
    · rename_i b
      obtain rfl : v = .bl b := r
      cases ho
      exact .inr ⟨b, rfl, k _ H (Same.refl H) rfl⟩
    · rename_i i
      obtain rfl : v = .int i := r
      cases ho
      exact .inl ⟨i, rfl, k _ H (Same.refl H) rfl⟩
  | x :: y :: r => cases x <;> simp only [oInt] at ho <;> contradiction
theorem bf_abs : Bf X cn (.builtin "abs") oAbs := by
  refine ⟨_, call_abs, ?_⟩
  intro hd H xs d vs Q hn rx ho k
  match xs with
  | [] => cases ho
  | [x] =>
    obtain ⟨v, rfl, r⟩ := repAll1 rx
    cases x <;> simp only [oAbs] at ho <;> (try contradiction)
    rename_i i
    obtain rfl : v = .int i := r
    cases ho
    exact ⟨i, rfl, k _ H (Same.refl H) rfl⟩
  | x :: y :: r => cases x <;> simp only [oAbs] at ho <;> contradiction
theorem bf_list : Bf X cn (.type "list") oList := by
  refine ⟨_, call_list_of, ?_⟩
  intro hd H xs d vs Q hn rx ho k
  match xs with
  | [] => cases ho
  | [x] =>
    obtain ⟨v, rfl, r⟩ := repAll1 rx
    cases x <;> simp only [oList] at ho <;> (try contradiction)
    · rename_i ds
      obtain ⟨p, ys, rfl, h1, h2⟩ := r
      cases ho
      exact ⟨p, ys, rfl, .inl (.inl (.inl (hid_some.mp h1).2)), fun l hl => k _ _ (same_new hl) (rep_lst hl (hn l hl) h2)⟩
    · rename_i ds
      obtain ⟨p, ys, rfl, h1, h2⟩ := r
      cases ho
      exact ⟨p, ys, rfl, .inr (Same.sqT hid_self h1), fun l hl => k _ _ (same_new hl) (rep_lst hl (hn l hl) h2)⟩
  | x :: y :: r => cases x <;> simp only [oList] at ho <;> contradiction
theorem bf_tuple : Bf X cn (.type "tuple") oTuple := by
  refine ⟨_, call_tuple_of, ?_⟩
  intro hd H xs d vs Q hn rx ho k
  match xs with
  | [] => cases ho
  | [x] =>
    obtain ⟨v, rfl, r⟩ := repAll1 rx
    cases x <;> simp only [oTuple] at ho <;> (try contradiction)
    · rename_i ds
      obtain ⟨p, ys, rfl, h1, h2⟩ := r
      cases ho
      exact ⟨p, ys, rfl, .inl ⟨.inl (.inl (hid_some.mp h1).2), fun l hl => k _ _ (same_new hl) (rep_tup hl (hn l hl) h2)⟩⟩
    · rename_i ds
      obtain ⟨p, ys, rfl, h1, h2⟩ := r
      cases ho
      exact ⟨p, ys, rfl, .inr ⟨Same.sqT hid_self h1, k _ H (Same.refl H) ⟨p, ys, rfl, h1, h2⟩⟩⟩
  | x :: y :: r => cases x <;> simp only [oTuple] at ho <;> contradiction
theorem rep_bools {G : Gx} {H : Hp} (ds : List D) : ∀ {vs : List V} {bs : List Bool}, RepAll G H ds vs → boolsOf ds = some bs → vs = bs.map V.bl := by
  induction ds with
  | nil =>
    intro vs bs r h
    obtain rfl : vs = [] := r
    cases h; rfl
  | cons d ds ih =>
    intro vs bs r h
    obtain ⟨v, r, rfl, h2, h3⟩ := r
    cases d with
    | bl b =>
      obtain rfl : v = .bl b := h2
      simp only [boolsOf] at h
      cases q : boolsOf ds with
      | none => rw [q] at h; cases h
      | some cs =>
        rw [q] at h
        cases h
        rw [ih h3 q]; rfl
    | _ => cases h
theorem rep_ints {G : Gx} {H : Hp} (ds : List D) : ∀ {vs : List V} {bs : List Int}, RepAll G H ds vs → intsOf ds = some bs → vs = bs.map V.int := by
  induction ds with
  | nil =>
    intro vs bs r h
    obtain rfl : vs = [] := r
    cases h; rfl
  | cons d ds ih =>
    intro vs bs r h
    obtain ⟨v, r, rfl, h2, h3⟩ := r
    cases d with
    | int b =>
      obtain rfl : v = .int b := h2
      simp only [intsOf] at h
      cases q : intsOf ds with
      | none => rw [q] at h; cases h
      | some cs =>
        rw [q] at h
        cases h
        rw [ih h3 q]; rfl
    | _ => cases h
theorem bf_all (hc : X.calm = true) : Bf X cn (.builtin "all") oAll := by
  refine ⟨_, cr_all hc, ?_⟩
  intro hd H xs d vs Q hn rx ho k
  match xs with
  | [] => cases ho
  | [x] =>
    obtain ⟨v, rfl, r⟩ := repAll1 rx
    cases x <;> simp only [oAll] at ho <;> (try contradiction)
    rename_i ds
    obtain ⟨p, ys, rfl, h1, h2⟩ := r
    cases q : boolsOf ds with
    | none => rw [q] at ho; cases ho
    | some bs =>
      rw [q] at ho
      cases ho
      have e := rep_bools _ h2 q
      subst e
      exact ⟨p, bs, rfl, .inl (.inl (hid_some.mp h1).2), k _ H (Same.refl H) rfl⟩
  | x :: y :: r => cases x <;> simp only [oAll] at ho <;> contradiction
theorem bf_any (hc : X.calm = true) : Bf X cn (.builtin "any") oAny := by
  refine ⟨_, cr_any hc, ?_⟩
  intro hd H xs d vs Q hn rx ho k
  match xs with
  | [] => cases ho
  | [x] =>
    obtain ⟨v, rfl, r⟩ := repAll1 rx
    cases x <;> simp only [oAny] at ho <;> (try contradiction)
    rename_i ds
    obtain ⟨p, ys, rfl, h1, h2⟩ := r
    cases q : boolsOf ds with
    | none => rw [q] at ho; cases ho
    | some bs =>
      rw [q] at ho
      cases ho
      have e := rep_bools _ h2 q
      subst e
      exact ⟨p, bs, rfl, .inl (.inl (hid_some.mp h1).2), k _ H (Same.refl H) rfl⟩
  | x :: y :: r => cases x <;> simp only [oAny] at ho <;> contradiction

/-! ### statements -/
section
variable {e c : Expr} {st : Stmt} {rest body orelse : List Stmt} {f : Fe M} {g h : Fs M} {t : Ft M} {pos : Pos}
theorem ds_nil : DSs X cn 𝒲 E [] (sNx : Fs M) := PSs.imp pss_nil fun _ _ _ => liftS_nx
theorem ds_cons (h1 : DS X cn 𝒲 E st g) (h2 : DSs X cn 𝒲 E rest h) : DSs X cn 𝒲 E (st :: rest) (sSeq g h) := PSs.imp (pss_cons h1 h2) fun _ _ _ => liftS_seq
theorem ds_last (h1 : DS X cn 𝒲 E st g) : DSs X cn 𝒲 E [st] g := pss_one h1
theorem ds_ret (he : DE X cn 𝒲 E e f) : DS X cn 𝒲 E (.Return (some e) pos) (sRet f) := PS.imp (ps_ret he) fun _ _ _ => liftS_ret
theorem ds_retN : DS X cn 𝒲 E (.Return none pos) (sRetN : Fs M) := PS.imp ps_retN fun _ _ _ => liftS_retN
theorem ds_pass : DS X cn 𝒲 E (.Pass pos) (sNx : Fs M) := PS.imp ps_pass fun _ _ _ => liftS_nx
theorem ds_break : DS X cn 𝒲 E (.Break pos) (sBk : Fs M) := PS.imp ps_break fun _ _ _ => liftS_bk
theorem ds_continue : DS X cn 𝒲 E (.Continue pos) (sCt : Fs M) := PS.imp ps_continue fun _ _ _ => liftS_ct
theorem ds_expr (he : DE X cn 𝒲 E e f) (hs : swapsWith e none pos.line X.env = pure false := by rfl) : DS X cn 𝒲 E (.Expr e pos) (sDrop f) := PS.imp (ps_expr he hs) fun _ _ _ => liftS_drop
theorem ds_if (hc : DT X cn 𝒲 E c t) (ha : DSs X cn 𝒲 E body g) (hb : DSs X cn 𝒲 E orelse h) : DS X cn 𝒲 E (.If c body orelse pos) (sIf t g h) := PS.imp (ps_if hc ha hb) fun _ _ _ => liftS_if
theorem ds_set (i : Nat) {x : Str} {pos' : Pos} (he : DE X cn 𝒲 E e f) (hN : X.N.Nodup) (hi : X.N[i]? = some x := by rfl) (hx : Loc X.env.scope x := by first | exact Or.inl rfl | exact Or.inr rfl) (hs : swapsWith e (some (.Name x pos')) pos.line X.env = pure false := by rfl)
    (hf : X.fn x = true ∨ X.env.scope.names.lookup x = some .local := by first | exact .inl rfl | exact .inr rfl) : DS X cn 𝒲 E (.Assign [.Name x pos'] e pos) (sSet i f) := PS.imp (ps_set hN hi hx he hs hf) fun _ _ _ => liftS_set
theorem ds_for {tg iter : Expr} {fi : Fa M} {gt : TG} {tt : Ftg} {ts : List Nat} (hi : DI X cn 𝒲 E tg iter fi) (hg : PG X tg gt) (ht : TgOk ⟨X.K, cn⟩ gt tt ts) (hb : DSs X cn 𝒲 E body g) (hp : PassesOwn (model X.prog X.w) X.A X.env X.xe) (hc : X.calm = true := by rfl)
    (hs : ∀ x, foldedSetIterable iter X.env x = pure x := by intro _; rfl) : DS X cn 𝒲 E (.For tg iter body [] pos) (sFor fi tt g) := PS.imp (ps_for hp hc hi hg hb hs) fun _ _ _ => liftS_for ht
theorem ds_while (n : Sls → M → Nat) (hc : DT X cn 𝒲 E c t) (hb : DSs X cn 𝒲 E body g) (hp : PassesOwn (model X.prog X.w) X.A X.env X.xe) : DS X cn 𝒲 E (.While c body [] pos) (sWhile n t g) := PS.imp (ps_while hp hc hb) fun _ _ _ => liftS_while
end
end
end DL

/-! Further built-ins: min with a default, list of a text, a written dict's items. -/
namespace DL
open PySem PySem.Spec PyProof.Rows L2

/-! ### the least with a default: KE.DatumOrd's theorem, for ints -/
theorem vals_readsAll {h : Heap} : ∀ {ns : List Int} {us : List Value}, Vals (ns.map V.int) us → ∃ as, ReadsAll h us (ns.map (PySem.W.Datum.toD (α := Int))) as
  | [], _, .nil => ⟨[], .nil⟩
  | n :: ns, _, .cons r rs => by
    obtain ⟨tk, rfl⟩ := r
    obtain ⟨bs, more⟩ := vals_readsAll (h := h) rs
    exact ⟨[] ++ bs, .cons (.int n tk) more⟩
theorem least_spec (n : Int) (ns : List Int) : PySem.W.minOf n ns ∈ n :: ns ∧ ∀ a ∈ n :: ns, PySem.W.minOf n ns ≤ a := by
  unfold PySem.W.minOf
  induction ns generalizing n with
  | nil => exact ⟨List.mem_cons_self .., fun a ha => by rw [List.mem_singleton.mp ha]; exact Int.le_refl _⟩
  | cons y ys ih =>
    simp only [List.foldl_cons]
    by_cases lt : PySem.W.DatumOrd.lt y n = true
    · have lt' : y < n := of_decide_eq_true lt
      rw [if_pos lt]
      obtain ⟨m1, m2⟩ := ih y
      refine ⟨List.mem_cons_of_mem _ m1, fun a ha => ?_⟩
      rcases List.mem_cons.mp ha with rfl | ha
      · exact Int.le_trans (m2 y (List.mem_cons_self ..)) (Int.le_of_lt lt')
      · exact m2 a ha
    · have le : n ≤ y := Int.not_lt.mp fun z => lt (decide_eq_true z)
      rw [if_neg lt]
      obtain ⟨m1, m2⟩ := ih n
      refine ⟨?_, fun a ha => ?_⟩
      · rcases List.mem_cons.mp m1 with q | q
        · rw [q]; exact List.mem_cons_self ..
        · exact List.mem_cons_of_mem _ (List.mem_cons_of_mem _ q)
      · rcases List.mem_cons.mp ha with rfl | ha
        · exact m2 a (List.mem_cons_self ..)
        · rcases List.mem_cons.mp ha with rfl | ha
          · exact Int.le_trans (m2 n (List.mem_cons_self ..)) le
          · exact m2 a (List.mem_cons_of_mem _ ha)

/-- the least of ints -/
def minI : List Int → Int
  | [] => 0
  | [x] => x
  | x :: y :: r => min x (minI (y :: r))
theorem minI_le : ∀ {ns : List Int} {a : Int}, a ∈ ns → minI ns ≤ a
  | [], a, h => by cases h
  | [x], a, h => by
    rw [List.mem_singleton.mp h]
    exact Int.le_refl _
  | x :: y :: r, a, h => by
    simp only [minI]
    rcases List.mem_cons.mp h with h | h
    · subst h; exact Int.min_le_left _ _
    · exact Int.le_trans (Int.min_le_right _ _) (minI_le h)
theorem minI_mem : ∀ {ns : List Int}, ns ≠ [] → minI ns ∈ ns
  | [], h => absurd rfl h
  | [x], _ => by simp [minI]
  | x :: y :: r, _ => by
    simp only [minI]
    have ih := minI_mem (ns := y :: r) (by simp)
    by_cases h : x ≤ minI (y :: r)
    · rw [Int.min_eq_left h]; simp
    · rw [Int.min_eq_right (by omega)]
      exact List.mem_cons_of_mem _ ih
theorem minI_eq {ns : List Int} {m : Int} (h1 : m ∈ ns) (h2 : ∀ a, a ∈ ns → m ≤ a) : m = minI ns := by
  have h3 := minI_le h1
  have h4 := h2 _ (minI_mem (fun e => by rw [e] at h1; cases h1))
  omega

section
variable {M : Type} {X : Cx} {cn : Str → Addr} {𝒲 : Wd M → Prop} {E : XK}
/-- a call of a built-in with keywords, by values -/
structure Bk (X : Cx) (cn : Str → Addr) (f : Value) (ks : List Str) (o : List D → List D → Option D) : Prop where
  ex : ∃ r, CallRK X f ks r ∧ ∀ (hd : Addr → Bool) (H : Hp) (xs ys : List D) (d : D) (vs us : List V) (Q : VK), (∀ p, H p = none → hd p = false) →
    RepAll ⟨X.K, cn⟩ (hid hd H) xs vs → RepAll ⟨X.K, cn⟩ (hid hd H) ys us → o xs ys = some d → (∀ w H2, Same H H2 → Rep ⟨X.K, cn⟩ (hid hd H2) d w → Q w H2) → r vs us H Q
def fCK (o : List D → List D → Option D) (g k : Fa M) : Fe M := fun δ m => (g δ m).bind fun xs m1 => (k δ m1).bind fun ys m2 => ofO m2 (o xs ys)
abbrev DK (X : Cx) (cn : Str → Addr) (𝒲 : Wd M → Prop) (E : XK) (kws : List Keyword) (f : Fa M) : Prop := PK X kws (tDA ⟨X.K, cn⟩ 𝒲 E f)
theorem PK.imp {kws : List Keyword} {t t' : TA} (h : PK X kws t) (k : ∀ σ H Q, t' σ H Q → t σ H Q) : PK X kws t' := ⟨fun pos pins s σ H Q I q => h.run pos pins s σ H Q I (k σ H Q q)⟩
theorem dk_nil : DK X cn 𝒲 E [] (fNil : Fa M) := PK.imp pk_nil fun _ _ _ => lift_nil
theorem dk_cons {nm : Option Str} {kpos : Pos} {e : Expr} {kws : List Keyword} {f : Fe M} {g : Fa M} (ha : DE X cn 𝒲 E e f) (hr : DK X cn 𝒲 E kws g) : DK X cn 𝒲 E (⟨nm, e, kpos⟩ :: kws) (fCons f g) := PK.imp (pk_cons ha hr) fun _ _ _ => lift_cons
theorem lift_ck {r : List V → List V → Hp → VK → Prop} {o : List D → List D → Option D} {g k : Fa M} {σ : L2.St} {H : Hp} {Q : VK}
    (hr : ∀ (hd : Addr → Bool) (H : Hp) (xs ys : List D) (d : D) (vs us : List V) (Q : VK), (∀ p, H p = none → hd p = false) →
      RepAll ⟨X.K, cn⟩ (hid hd H) xs vs → RepAll ⟨X.K, cn⟩ (hid hd H) ys us → o xs ys = some d → (∀ w H2, Same H H2 → Rep ⟨X.K, cn⟩ (hid hd H2) d w → Q w H2) → r vs us H Q)
    (h : tD ⟨X.K, cn⟩ 𝒲 E (fCK o g k) σ H Q) : tCKw r (tDA ⟨X.K, cn⟩ 𝒲 E g) (tDA ⟨X.K, cn⟩ 𝒲 E k) σ H Q := by
  obtain ⟨W, hb, ow, δ, m, at0, p⟩ := h
  refine ⟨W, hb, ow, δ, m, at0, ?_⟩
  unfold fCK at p
  cases hf : g δ m with
  | bad => rw [hf] at p; exact p
  | exc x m1 => rw [hf] at p; exact p
  | ok xs m1 =>
    rw [hf] at p
    intro vs H1 s1 r1 rx
    have a1 := at0.step s1 r1
    refine ⟨W, hb, ow, δ, m1, a1, ?_⟩
    replace p := Post.from_ s1 p
    simp only [Rs.bind] at p
    cases hg : k δ m1 with
    | bad => rw [hg] at p; exact p
    | exc x2 m2 => rw [hg] at p; exact p
    | ok ys m2 =>
      rw [hg] at p
      intro us H2 s2 r2 ry
      have a2 := a1.step s2 r2
      simp only at p
      cases ho : o xs ys with
      | none => rw [ho] at p; exact False.elim p
      | some d =>
        rw [ho] at p
        exact hr _ H2 xs ys d vs us Q a2.new (RepAll.mono (a1.same s2) xs rx) ry ho fun w H3 e rw_ => post_of s2 r2 p e rw_
theorem de_bk {x : Str} {p pos : Pos} {e : Expr} {es : List Expr} {kws : List Keyword} {id : String} {ks : List Str} {o : List D → List D → Option D} {g k : Fa M} (b : Bk X cn (.builtin id) ks o) (hg : Gl X x) (hm : X.mg x = none) (hv : bootBuiltins x = some (.builtin id))
    (ha : DA X cn 𝒲 E (e :: es) g) (hk : DK X cn 𝒲 E kws k) (hn : x ≠ "__name__" := by decide) (hdb : (x == ("__debug__" : Str)) = false := by decide) (he : backTo pos (starEach (e :: es) X.env) = (false, eval e X.env) :: backTo pos (starEach es X.env) := by rfl)
    (hpl : (backTo pos (starEach (e :: es) X.env)).any (·.1) = false := by rfl) (hall : (backToKw pos (keywordEach kws X.env)).all (·.1.isSome) = true := by rfl) (hnone : (backToKw pos (keywordEach kws X.env)).any (·.1.isNone) = false := by rfl)
    (hks : (backToKw pos (keywordEach kws X.env)).filterMap (·.1) = ks := by rfl) :
    DE X cn 𝒲 E (.Call (.Name x p) (e :: es) kws pos) (fCK o g k) := by
  obtain ⟨r, h1, h2⟩ := b.ex
  exact PE.imp (pe_callBK h1 hg hm hv ha hk hn hdb he hpl hall hnone hks) fun _ _ _ => lift_ck h2

def oMinD : List D → List D → Option D
  | [.lst ds], [d] => (intsOf ds).bind fun ns => if ns = [] then some d else some (.int (minI ns))
  | _, _ => none
theorem bk_minD {k : Nat} (hr : Room k X.A) : Bk X cn (.builtin "min") [Str.ofString "default"] oMinD := by
  refine ⟨fun vs us H Q => ∃ (a : Addr) (ns : List Int) (d : V), vs = [V.ref a] ∧ us = [d] ∧ SqL X.K H a (ns.map V.int) ∧ (ns = [] → Q d H) ∧ (ns ≠ [] → Q (.int (minI ns)) H), ?_, ?_⟩
  · intro pins s σ H xs zs us ws Q I r rz h
    obtain ⟨a, ns, d, rfl, rfl, hs, h0, h1⟩ := h
    obtain ⟨its, rv, hl, _⟩ := I.list hs
    obtain ⟨u, rfl, ru⟩ := vals1 rz
    rw [Vals.ref1 r]
    obtain ⟨as, reads⟩ := vals_readsAll (h := s.heap) rv
    refine PySem.W.min_list_datum_default (α := Int) (xs := ns) hr.hd hl.isList ⟨as, by simpa using reads⟩ (by have := hr.un; show _ + 1 + 0 < _; omega) (fun e h' tk kept => ⟨d, H, I.kept kept, ru, h0 e⟩) fun y ys i v h' tk e _ held kept => ?_
    obtain ⟨bs, rd⟩ := held
    obtain ⟨tk2, rfl, _⟩ := reads_int_inv rd
    obtain ⟨m1, m2⟩ := least_spec y ys
    refine ⟨.int _, H, I.kept kept, ⟨_, rfl⟩, ?_⟩
    rw [minI_eq (ns := ns) (by rw [e]; exact m1) (fun a ha => m2 a (e ▸ ha))]
    exact h1 (by rw [e]; exact List.cons_ne_nil _ _)
  · intro hd H xs ys d vs us Q hn rx ry ho k
    match xs, ys with
    | [x], [y] =>
      obtain ⟨v, rfl, r⟩ := repAll1 rx
      obtain ⟨u, rfl, r2⟩ := repAll1 ry
      cases x <;> simp only [oMinD] at ho <;> (try contradiction)
      rename_i ds
      obtain ⟨p, zs, rfl, h1, h2⟩ := r
      cases q : intsOf ds with
      | none => rw [q] at ho; cases ho
      | some ns =>
        rw [q] at ho
        simp only [Option.bind_some] at ho
        have e := rep_ints _ h2 q
        subst e
        refine ⟨p, ns, u, rfl, rfl, .inl (.inl (hid_some.mp h1).2), fun e => ?_, fun e => ?_⟩
        · rw [if_pos e] at ho
          cases ho
          exact k _ H (Same.refl H) r2
        · rw [if_neg e] at ho
          cases ho
          exact k _ H (Same.refl H) rfl
    | [], _ => cases ho
    | _ :: _ :: _, _ => simp [oMinD] at ho
    | [_], [] => simp [oMinD] at ho
    | [_], _ :: _ :: _ => simp [oMinD] at ho
def oMin : List D → Option D
  | [.lst ds] => (intsOf ds).bind fun ns => if ns = [] then none else some (.int (minI ns))
  | _ => none
theorem bf_min (hc : X.calm = true) : Bf X cn (.builtin "min") oMin := by
  refine ⟨_, cr_min hc, ?_⟩
  intro hd H xs d vs Q hn rx ho k
  match xs with
  | [] => cases ho
  | [x] =>
    obtain ⟨v, rfl, r⟩ := repAll1 rx
    cases x <;> simp only [oMin] at ho <;> (try contradiction)
    rename_i ds
    obtain ⟨p, ys, rfl, h1, h2⟩ := r
    cases q : intsOf ds with
    | none => rw [q] at ho; cases ho
    | some ns =>
      rw [q] at ho
      simp only [Option.bind_some] at ho
      have e := rep_ints _ h2 q
      subst e
      by_cases e : ns = []
      · rw [if_pos e] at ho; cases ho
      · rw [if_neg e] at ho
        cases ho
        refine ⟨p, ns, rfl, .inl (.inl (hid_some.mp h1).2), by cases ns with | nil => exact absurd rfl e | cons a b => simp, fun m q1 q2 => ?_⟩
        rw [minI_eq q1 q2]
        exact k _ H (Same.refl H) rfl
  | x :: y :: r => cases x <;> simp only [oMin] at ho <;> contradiction
/-- list of a text -/
def rListS : List V → Hp → VK → Prop := fun xs H Q => ∃ z, xs = [.str z] ∧ z.length ≤ sizeLine ∧ ∀ p, H p = none → Q (.ref p) (upd H p (.lst (z.cps.toList.map fun c => V.str ⟨#[c]⟩)))
theorem call_list_text (hc : X.calm = true) : CallR X (.type "list") rListS := by
  intro pins s σ H xs us Q I r h
  obtain ⟨z, rfl, hz, q⟩ := h
  obtain ⟨u, rfl, ru⟩ := vals1 r
  obtain ⟨t, rfl⟩ := ru
  refine PySem.call_list_str (I.ok.hd hc) z t (fun h' tk acc c k hS hacc => ?_) hz
  refine ⟨.ref s.heap.objs.size, _, I.laid k (Nat.le_refl _) (show ObjOk X.prog X.w _ _ _ (.lst (z.cps.toList.map fun c => V.str ⟨#[c]⟩)) from ⟨?_, acc.toList, c, ?_, ?_⟩), rfl, q _ (I.hok.fresh (Nat.le_refl _))⟩
  · rw [List.length_map]
    exact hz
  · have el : acc.toList.length = acc.size := by simp
    refine vals_of_at (by rw [List.length_map, el, hacc.1]; simp) fun j x w h1 h2 => ?_
    obtain ⟨cc, t2, e1, e2⟩ := hacc.2 j w (by rw [← Array.getElem?_toList]; exact h2)
    rw [List.getElem?_map, Array.getElem?_toList, e1] at h1
    cases h1
    exact ⟨t2, e2⟩
  · rw [Array.toArray_toList]
    exact hS
def oListS : List D → Option D
  | [.str z] => some (.lst (signsOf z))
  | xs => oList xs
theorem rep_signs {G : Gx} {H : Hp} (cs : List Nat) : RepAll G H (cs.map fun c => D.str ⟨#[c]⟩) (cs.map fun c => V.str ⟨#[c]⟩) := by
  induction cs with
  | nil => exact (rfl : ([] : List V) = [])
  | cons c cs ih => exact ⟨_, _, rfl, ⟨rfl, by show 1 ≤ sizeLine; decide⟩, ih⟩
theorem bf_listS (hc : X.calm = true) : Bf X cn (.type "list") oListS := by
  obtain ⟨r, h1, h2⟩ := (bf_list (X := X) (cn := cn)).ex
  refine ⟨_, CallR.or (call_list_text hc) h1, ?_⟩
  intro hd H xs d vs Q hn rx ho k
  match xs with
  | [.str z] =>
    obtain ⟨v, rfl, r⟩ := repAll1 rx
    obtain ⟨rfl, hz⟩ := r
    cases ho
    exact .inl ⟨z, rfl, hz, fun p hp => k _ _ (same_new hp) (rep_lst hp (hn p hp) (rep_signs _))⟩
  | [] => exact .inr (h2 hd H _ d vs Q hn rx ho k)
  | [.non] => exact .inr (h2 hd H _ d vs Q hn rx ho k)
  | [.bl _] => exact .inr (h2 hd H _ d vs Q hn rx ho k)
  | [.int _] => exact .inr (h2 hd H _ d vs Q hn rx ho k)
  | [.lst _] => exact .inr (h2 hd H _ d vs Q hn rx ho k)
  | [.tup _] => exact .inr (h2 hd H _ d vs Q hn rx ho k)
  | [.ins _ _ _] => exact .inr (h2 hd H _ d vs Q hn rx ho k)
  | x :: y :: r => exact .inr (h2 hd H _ d vs Q hn rx (by cases x <;> exact ho) k)
/-- an item of a written dict with text keys: its table -/
structure KTab (X : Cx) (cn : Str → Addr) (a : Addr) (tb : List (Str × D)) : Prop where
  ok : ∀ z d, tb.lookup z = some d → ∃ v, KDct X.K X.w a z v ∧ ∀ H, Rep ⟨X.K, cn⟩ H d v
def fTab (tb : List (Str × D)) (f : Fe M) : Fe M := fun δ m => (f δ m).bind fun x m1 => match x with
  | .str z => ofO m1 (tb.lookup z)
  | _ => .bad
theorem de_tab {x : Str} {a : Addr} {p pos : Pos} {b : Expr} {f : Fe M} {tb : List (Str × D)} (T : KTab X cn a tb) (hg : Gl X x) (hm : X.mg x = some (.ref a)) (hb : DE X cn 𝒲 E b f) (hs : PlainIx b := by exact fun _ _ => rfl) (hd : (x == ("__debug__" : Str)) = false := by decide) :
    DE X cn 𝒲 E (.Subscript (.Name x p) b pos) (fTab tb f) := by
  refine PE.imp (pe_ix ix_kdict (pe_glob (v := .ref a) hg hm rfl hd) hb hs) fun σ H Q h => ?_
  obtain ⟨W, hb, ow, δ, m, at0, p⟩ := h
  refine (show tD ⟨X.K, cn⟩ 𝒲 E f σ H _ from ⟨W, hb, ow, δ, m, at0, ?_⟩)
  unfold fTab at p
  cases hf : f δ m with
  | bad => rw [hf] at p; exact p
  | exc x m1 => rw [hf] at p; exact p
  | ok x m1 =>
    rw [hf] at p
    intro v H1 s1 r1 rx
    cases x with
    | str z =>
      obtain ⟨rfl, hz⟩ := rx
      simp only [Rs.bind] at p
      cases ho : tb.lookup z with
      | none => rw [ho] at p; exact False.elim p
      | some d =>
        rw [ho] at p
        obtain ⟨u, k1, k2⟩ := T.ok z d ho
        exact ⟨a, z, u, rfl, rfl, k1, p u H1 s1 r1 (k2 _)⟩
    | _ => exact False.elim p
end
end DL

/-! The world of a law: one list that draws are taken from. -/
namespace DL
open PySem PySem.Spec PyProof.Rows L2

structure Bag where
  cs : List Int
  i : Int
  n : Int
  r : Int
/-- the list at b, the numbers at c -/
def bagW (b c : Addr) : Wd Bag where
  A := fun a => a == b || a == c
  R := fun m H => H b = some (.lst [.ref c, .int m.i, .int m.n, .int m.r]) ∧ H c = some (.lst (m.cs.map V.int))
  hs := [.ref b]
  fr := fun m H H' e h => ⟨by rw [e b (by simp)]; exact h.1, by rw [e c (by simp)]; exact h.2⟩
  al := fun m H a h r => by
    have : a = b ∨ a = c := by simpa using h
    rcases this with rfl | rfl
    · rw [r.1]; simp
    · rw [r.2]; simp
def wB : Wd Bag → Prop := fun W => ∃ b c, b ≠ c ∧ W = bagW b c
def Bag.get (m : Bag) : Nat → Option Int
  | 1 => some m.i
  | 2 => some m.n
  | 3 => some m.r
  | _ => none
def Bag.set (m : Bag) : Nat → Int → Option Bag
  | 1, x => some { m with i := x }
  | 2, x => some { m with n := x }
  | 3, x => some { m with r := x }
  | _, _ => none
/-- bag[k] -/
def fBag (j k : Nat) : Fe Bag := fun δ m => match δ[j]? with
  | some (.hnd 0) => ofO m ((m.get k).map D.int)
  | _ => .bad
/-- len(bag[0]) -/
def fBagLen (j : Nat) : Fe Bag := fun δ m => match δ[j]? with
  | some (.hnd 0) => .ok (.int m.cs.length) m
  | _ => .bad
/-- bag[0][e] -/
def fBagIx (j : Nat) (f : Fe Bag) : Fe Bag := fun δ m => match δ[j]? with
  | some (.hnd 0) => (f δ m).bind fun x m1 => match x with
    | .int i => ofO m1 ((atI m1.cs i).map D.int)
    | _ => .bad
  | _ => .bad
/-- bag[k] = e -/
def sBag (j k : Nat) (f : Fe Bag) : Fs Bag := fun δ m => match δ[j]? with
  | some (.hnd 0) => (match f δ m with
    | .ok (.int x) m1 => (match m1.set k x with
      | some m2 => .nx δ m2
      | none => .bad)
    | .exc x m1 => .exc x m1
    | _ => .bad)
  | _ => .bad
section
variable {X : Cx} {cn : Str → Addr} {E : XK} {σ : L2.St} {H : Hp} {Q : VK}
theorem hnd0 {G : Gx} {W : Wd Bag} {b c : Addr} {hb ow : Addr → Bool} {δ : Sls} {m : Bag} {j : Nat} (a : At G wB W hb ow σ H δ m) (hW : W = bagW b c) (h : δ[j]? = some (.hnd 0)) : σ[j]? = some (some (.ref b)) := by
  obtain ⟨v, h1, x, h2, h3⟩ := a.env.sl j _ h
  subst h2
  rw [hW] at h3
  have : (V.ref b) = x := by simpa [bagW] using h3
  rw [h1, this]
theorem de_bag (j k : Nat) {x : Str} {p pos ip : Pos} {i : Nat} (hN : X.N[j]? = some x := by rfl) (hv : Vis X.env.scope x := by first | exact Or.inl rfl | exact Or.inr (Or.inl rfl) | exact Or.inr (Or.inr rfl)) (hd : (x == ("__debug__" : Str)) = false := by decide)
    (hcd : (x == ("__classdict__" : Str)) = false := by decide) : DE X cn wB E (.Subscript (.Name x p) (.Constant (.int (k : Int)) i ip) pos) (fBag j k) := by
  refine PE.imp (pe_ix ix_list (pe_var hN hv hd hcd) pe_int (fun _ _ => rfl)) fun σ H Q h => ?_
  obtain ⟨W, hb, ow, δ, m, a, p⟩ := h
  unfold fBag at p
  cases hs : δ[j]? with
  | none => rw [hs] at p; exact False.elim p
  | some s =>
    rw [hs] at p
    match s with
    | .hnd 0 =>
      obtain ⟨b, c, hbc, hW⟩ := a.w
      have h1 := hnd0 a hW hs
      have r := a.r
      rw [hW] at r
      simp only at p
      cases hg : m.get k with
      | none => rw [hg] at p; exact False.elim p
      | some z =>
        rw [hg] at p
        refine ⟨.ref b, h1, b, [.ref c, .int m.i, .int m.n, .int m.r], (k : Int), .int z, rfl, rfl, SqL.of r.1, atI_nat ?_, p _ H Stp.refl a.r rfl⟩
        match k, hg with
        | 1, e => cases e; rfl
        | 2, e => cases e; rfl
        | 3, e => cases e; rfl
    | .un => exact False.elim p
    | .dat _ => exact False.elim p
    | .own _ => exact False.elim p
    | .hnd (n + 1) => exact False.elim p
theorem pe_bag0 {x : Str} {p pos ip : Pos} {i j : Nat} (hN : X.N[j]? = some x) (hv : Vis X.env.scope x) (hd : (x == ("__debug__" : Str)) = false) (hcd : (x == ("__classdict__" : Str)) = false) :
    PE X (.Subscript (.Name x p) (.Constant (.int 0) i ip) pos) (fun σ H Q => ∃ (b c : Addr) (m : Bag), σ[j]? = some (some (.ref b)) ∧ H b = some (.lst [.ref c, .int m.i, .int m.n, .int m.r]) ∧ Q (.ref c) H) := by
  refine PE.imp (pe_ix ix_list (pe_var hN hv hd hcd) pe_int (fun _ _ => rfl)) fun σ H Q ⟨b, c, m, h1, h2, q⟩ => ?_
  exact ⟨.ref b, h1, b, _, 0, .ref c, rfl, rfl, SqL.of h2, rfl, q⟩
theorem de_bagLen (j : Nat) {x l : Str} {p pos ip lp cp : Pos} {i : Nat} (hg : Gl X l) (hm : X.mg l = none) (hl : bootBuiltins l = some (.builtin "len")) (hN : X.N[j]? = some x := by rfl) (hv : Vis X.env.scope x := by first | exact Or.inl rfl | exact Or.inr (Or.inl rfl) | exact Or.inr (Or.inr rfl)) (hd : (x == ("__debug__" : Str)) = false := by decide)
    (hcd : (x == ("__classdict__" : Str)) = false := by decide) (hn : l ≠ "__name__" := by decide) (hdb : (l == ("__debug__" : Str)) = false := by decide)
    (he : starEach [.Subscript (.Name x p) (.Constant (.int 0) i ip) pos] X.env = (false, eval (.Subscript (.Name x p) (.Constant (.int 0) i ip) pos) X.env) :: starEach [] X.env := by rfl) (hpl : (backTo cp (starEach [] X.env)).any (·.1) = false := by rfl) :
    DE X cn wB E (.Call (.Name l lp) [.Subscript (.Name x p) (.Constant (.int 0) i ip) pos] [] cp) (fBagLen j) := by
  refine PE.imp (pe_callB call_len_seq hg hm hl (pa_cons (pe_bag0 hN hv hd hcd) pa_nil he) hn hdb he hpl) fun σ H Q h => ?_
  obtain ⟨W, hb, ow, δ, m, a, p⟩ := h
  unfold fBagLen at p
  cases hs : δ[j]? with
  | none => rw [hs] at p; exact False.elim p
  | some s =>
    rw [hs] at p
    match s with
    | .hnd 0 =>
      obtain ⟨b, c, hbc, hW⟩ := a.w
      have h1 := hnd0 a hW hs
      have r := a.r
      rw [hW] at r
      refine ⟨b, c, m, h1, r.1, c, m.cs.map V.int, rfl, .inl (SqL.of r.2), p _ H Stp.refl a.r ?_⟩
      rw [List.length_map]; rfl
    | .un => exact False.elim p
    | .dat _ => exact False.elim p
    | .own _ => exact False.elim p
    | .hnd (n + 1) => exact False.elim p
theorem atI_map {α β : Type} (f : α → β) (xs : List α) (i : Int) : atI (xs.map f) i = (atI xs i).map f := by
  unfold atI
  rw [List.length_map]
  cases ixN xs.length i with
  | none => rfl
  | some j => simp
theorem de_bagIx (j : Nat) {x : Str} {p pos ip cp : Pos} {i : Nat} {e : Expr} {f : Fe Bag} (he : DE X cn wB E e f) (hs : PlainIx e := by exact fun _ _ => rfl) (hN : X.N[j]? = some x := by rfl) (hv : Vis X.env.scope x := by first | exact Or.inl rfl | exact Or.inr (Or.inl rfl) | exact Or.inr (Or.inr rfl))
    (hd : (x == ("__debug__" : Str)) = false := by decide) (hcd : (x == ("__classdict__" : Str)) = false := by decide) :
    DE X cn wB E (.Subscript (.Subscript (.Name x p) (.Constant (.int 0) i ip) pos) e cp) (fBagIx j f) := by
  refine PE.imp (pe_ix ix_list (pe_bag0 hN hv hd hcd) he hs) fun σ H Q h => ?_
  obtain ⟨W, hb, ow, δ, m, a, p⟩ := h
  unfold fBagIx at p
  cases hs : δ[j]? with
  | none => rw [hs] at p; exact False.elim p
  | some s =>
    rw [hs] at p
    match s with
    | .hnd 0 =>
      obtain ⟨b, c, hbc, hW⟩ := a.w
      have h1 := hnd0 a hW hs
      have r := a.r
      rw [hW] at r
      refine ⟨b, c, m, h1, r.1, W, hb, ow, δ, m, a, ?_⟩
      simp only at p
      cases hf : f δ m with
      | bad => rw [hf] at p; exact p
      | exc x m1 => rw [hf] at p; exact p
      | ok d m1 =>
        rw [hf] at p
        intro v H1 s1 r1 rv
        cases d with
        | int z =>
          obtain rfl : v = .int z := rv
          simp only [Rs.bind] at p
          cases ha : atI m1.cs z with
          | none => rw [ha] at p; exact False.elim p
          | some y =>
            rw [ha] at p
            have r1' := r1
            rw [hW] at r1'
            exact ⟨c, m1.cs.map V.int, z, .int y, rfl, rfl, SqL.of r1'.2, by rw [atI_map, ha]; rfl, p _ H1 s1 r1 rfl⟩
        | _ => exact False.elim p
    | .un => exact False.elim p
    | .dat _ => exact False.elim p
    | .own _ => exact False.elim p
    | .hnd (n + 1) => exact False.elim p
theorem ds_bag (j k : Nat) {x : Str} {p pos ip ap : Pos} {i : Nat} {e : Expr} {f : Fe Bag} (he : DE X cn wB E e f) (hN : X.N[j]? = some x := by rfl) (hv : Vis X.env.scope x := by first | exact Or.inl rfl | exact Or.inr (Or.inl rfl) | exact Or.inr (Or.inr rfl))
    (hd : (x == ("__debug__" : Str)) = false := by decide) (hcd : (x == ("__classdict__" : Str)) = false := by decide)
    (hs : swapsWithSole [.Subscript (.Name x p) (.Constant (.int (k : Int)) i ip) pos] e ap.line X.env = pure false := by rfl) (hw : swappedStores [.Subscript (.Name x p) (.Constant (.int (k : Int)) i ip) pos] e X.env = pure none := by rfl)
    (h1 : (assignEach [.Subscript (.Name x p) (.Constant (.int (k : Int)) i ip) pos] X.env).map (·.2) = [assign (.Subscript (.Name x p) (.Constant (.int (k : Int)) i ip) pos) X.env] := by rfl) :
    DS X cn wB E (.Assign [.Subscript (.Name x p) (.Constant (.int (k : Int)) i ip) pos] e ap) (sBag j k f) := by
  refine PS.imp (ps_asg he (pg_sub (pe_var hN hv hd hcd) pe_int set_list) hs hw h1) fun Dn σ H h => ?_
  obtain ⟨W, hb, ow, δ, m, a, p⟩ := h
  unfold sBag at p
  cases hs : δ[j]? with
  | none => rw [hs] at p; exact False.elim p
  | some s =>
    rw [hs] at p
    match s with
    | .hnd 0 =>
      obtain ⟨b, c, hbc, hW⟩ := a.w
      have hj := hnd0 a hW hs
      refine ⟨W, hb, ow, δ, m, a, ?_⟩
      simp only at p
      cases hf : f δ m with
      | bad => rw [hf] at p; exact p
      | exc x m1 =>
        rw [hf] at p
        exact fun c dd H2 s r x => p ow c dd H2 (Keep.of s) r (ExcOk.mono (hid_base (G := ⟨X.K, cn⟩)) x)
      | ok d m1 =>
        rw [hf] at p
        intro v H1 s1 r1 rv
        cases d with
        | int z =>
          obtain rfl : v = .int z := rv
          simp only at p
          cases hg : m1.set k z with
          | none => rw [hg] at p; exact False.elim p
          | some m2 =>
            rw [hg] at p
            have r1' := r1
            rw [hW] at r1'
            have key : ∃ l, k < 4 ∧ ([V.ref c, .int m1.i, .int m1.n, .int m1.r] : List V).set k (.int z) = l ∧ l = [V.ref c, .int m2.i, .int m2.n, .int m2.r] ∧ m2.cs = m1.cs := by
              match k, hg with
              | 1, e => cases e; exact ⟨_, by decide, rfl, rfl, rfl⟩
              | 2, e => cases e; exact ⟨_, by decide, rfl, rfl, rfl⟩
              | 3, e => cases e; exact ⟨_, by decide, rfl, rfl, rfl⟩
            obtain ⟨l, hk, e1, e2, e3⟩ := key
            have hix : ixN ([V.ref c, .int m1.i, .int m1.n, .int m1.r] : List V).length (k : Int) = some k := by
              unfold ixN
              have hl : ([V.ref c, .int m1.i, .int m1.n, .int m1.r] : List V).length = 4 := rfl
              rw [hl, if_pos (by omega), if_pos (by omega)]
              simp
            refine ⟨.ref b, hj, b, _, (k : Int), k, rfl, rfl, r1'.1, hix, ?_⟩
            rw [e1, e2]
            have r2 : W.R m2 (upd H1 b (.lst [V.ref c, .int m2.i, .int m2.n, .int m2.r])) := by
              rw [hW]
              refine ⟨upd_same, ?_⟩
              rw [upd_ne (Ne.symm hbc), e3]
              exact r1'.2
            have s2 : Stp W H1 (upd H1 b (.lst [V.ref c, .int m2.i, .int m2.n, .int m2.r])) := fun q o hq ho => by
              have : q ≠ b := fun z => by
                rw [hW, z] at hq
                simp [bagW] at hq
              rw [upd_ne this]
              exact ho
            exact p ow σ _ (Keep.of (s1.trans s2)) ((a.env.step s1 r1).step s2 r2) r2
        | _ => exact False.elim p
    | .un => exact False.elim p
    | .dat _ => exact False.elim p
    | .own _ => exact False.elim p
    | .hnd (n + 1) => exact False.elim p
end
end DL

/-! What is walked, calls of the text's own defs, the ends of a law. -/
namespace DL
open PySem PySem.Spec PyProof.Rows L2

section
variable {M : Type} {X : Cx} {cn : Str → Addr} {𝒲 : Wd M → Prop} {E : XK}
/-! ### what is walked -/
def itemsOf : D → Option (List D)
  | .lst ds => some ds
  | .tup ds => some ds
  | .str z => some (signsOf z)
  | _ => none
def fSeq (f : Fe M) : Fa M := fun δ m => (f δ m).bind fun x m1 => match itemsOf x with
  | some ds => .ok ds m1
  | none => .bad
theorem wk_list {G : Gx} {W : Wd M} {hb ow : Addr → Bool} {H : Hp} {a : Addr} {xs : List V} {ds : List D} (h1 : hid (hdOf hb ow) H a = some (.lst xs)) (hwa : ∀ a, W.A a = true → hb a = true) (r : RepAll G (hid (hdOf hb ow) H) ds xs) : Wk G W hb ow H (Itl G.K a) ds := by
  refine ⟨fun H => SqL G.K H a xs, YAt xs, by rw [← RepAll.length r]; exact walk_list, fun o2 H2 k => ?_, fun i H2 x H3 o2 hd2 hi k s f y => ?_⟩
  · exact .inl (.inl (hid_some.mp (Keep.same (G := G) hwa k _ _ h1)).2)
  · obtain ⟨rfl, hx⟩ := y
    obtain ⟨d, e1, e2⟩ := RepAll.get r hx
    exact ⟨Same.refl _, d, e1, Rep.mono s d e2⟩
theorem wk_tup {G : Gx} {W : Wd M} {hb ow : Addr → Bool} {H : Hp} {a : Addr} {xs : List V} {ds : List D} (h1 : SqT G.K (hid (hdOf hb ow) H) a xs) (hwa : ∀ a, W.A a = true → hb a = true) (r : RepAll G (hid (hdOf hb ow) H) ds xs) : Wk G W hb ow H (Itt G.K a) ds := by
  refine ⟨fun H => SqT G.K H a xs, YAt xs, by rw [← RepAll.length r]; exact walk_tup, fun o2 H2 k => ?_, fun i H2 x H3 o2 hd2 hi k s f y => ?_⟩
  · exact Same.sqT hid_self (Same.sqT (Keep.same (G := G) hwa k) h1)
  · obtain ⟨rfl, hx⟩ := y
    obtain ⟨d, e1, e2⟩ := RepAll.get r hx
    exact ⟨Same.refl _, d, e1, Rep.mono s d e2⟩
theorem wk_str {G : Gx} {W : Wd M} {hb ow : Addr → Bool} {H : Hp} {z : Str} : Wk G W hb ow H (Its z) (signsOf z) := by
  refine ⟨fun _ => True, _, by unfold signsOf; rw [List.length_map, Array.length_toList]; exact walk_str, fun o2 H2 k => trivial, fun i H2 x H3 o2 hd2 hi k s f y => ?_⟩
  obtain ⟨rfl, c, hc, rfl⟩ := y
  refine ⟨Same.refl _, .str ⟨#[c]⟩, ?_, rfl, by show 1 ≤ sizeLine; decide⟩
  unfold signsOf
  rw [List.getElem?_map, Array.getElem?_toList, hc]; rfl
theorem di_seq {tg e : Expr} {f : Fe M} (he : DE X cn 𝒲 E e f) : DI X cn 𝒲 E tg e (fSeq f) := by
  refine ⟨fun pins s σ H R I q => ?_⟩
  obtain ⟨W, hb, ow, δ, m, a, p⟩ := q
  unfold fSeq at p
  cases hf : f δ m with
  | bad => rw [hf] at p; exact False.elim p
  | exc x m1 =>
    rw [hf] at p
    refine (pi_list he).run pins s σ H R I (show tD _ 𝒲 E f σ H _ from ⟨W, hb, ow, δ, m, a, ?_⟩)
    rw [hf]; exact p
  | ok x m1 =>
    rw [hf] at p
    simp only [Rs.bind] at p
    cases x with
    | lst ds =>
      refine (pi_list he).run pins s σ H R I (show tD _ 𝒲 E f σ H _ from ⟨W, hb, ow, δ, m, a, ?_⟩)
      rw [hf]
      intro v H1 s1 r1 rv
      obtain ⟨b, xs, rfl, h1, h2⟩ := rv
      exact ⟨b, rfl, ⟨xs, .inl (.inl (hid_some.mp h1).2)⟩, p _ H1 s1 r1 (wk_list h1 a.env.wa h2)⟩
    | tup ds =>
      refine (pi_tup he).run pins s σ H R I (show tD _ 𝒲 E f σ H _ from ⟨W, hb, ow, δ, m, a, ?_⟩)
      rw [hf]
      intro v H1 s1 r1 rv
      obtain ⟨b, xs, rfl, h1, h2⟩ := rv
      exact ⟨b, rfl, ⟨xs, Same.sqT hid_self h1⟩, p _ H1 s1 r1 (wk_tup h1 a.env.wa h2)⟩
    | str z =>
      refine (pi_str he).run pins s σ H R I (show tD _ 𝒲 E f σ H _ from ⟨W, hb, ow, δ, m, a, ?_⟩)
      rw [hf]
      intro v H1 s1 r1 rv
      obtain ⟨rfl, hz⟩ := rv
      exact ⟨z, rfl, p _ H1 s1 r1 wk_str⟩
    | _ => exact False.elim p
/-- ints lo, lo + 1, .. -/
def rng (lo : Int) (n : Nat) : List D := (List.range n).map fun i => .int (lo + (i : Nat))
theorem wk_rng {G : Gx} {W : Wd M} {hb ow : Addr → Bool} {H : Hp} {lo : Int} {n : Nat} : Wk G W hb ow H (Itr lo n) (rng lo n) := by
  refine ⟨fun _ => True, _, by unfold rng; rw [List.length_map, List.length_range]; exact walk_range, fun o2 H2 k => trivial, fun i H2 x H3 o2 hd2 hi k s f y => ?_⟩
  obtain ⟨rfl, rfl⟩ := y
  unfold rng at hi ⊢
  rw [List.length_map, List.length_range] at hi
  refine ⟨Same.refl _, .int (lo + (i : Nat)), ?_, rfl⟩
  rw [List.getElem?_map, List.getElem?_range hi]; rfl
def fRange1 (g : Fa M) : Fa M := fun δ m => (g δ m).bind fun xs m1 => match xs with
  | [.int j] => if -(2 ^ 62) ≤ j ∧ j < 2 ^ 62 then .ok (rng 0 j.toNat) m1 else .bad
  | _ => .bad
def fRange2 (g : Fa M) : Fa M := fun δ m => (g δ m).bind fun xs m1 => match xs with
  | [.int i, .int j] => if -(2 ^ 62) ≤ i ∧ i < 2 ^ 62 ∧ -(2 ^ 62) ≤ j ∧ j < 2 ^ 62 then .ok (rng i (j - i).toNat) m1 else .bad
  | _ => .bad
theorem PI.imp {tg e : Expr} {t t' : TI} (h : PI X tg e t) (k : ∀ σ H R, t' σ H R → t σ H R) : PI X tg e t' := ⟨fun pins s σ H R I q => h.run pins s σ H R I (k σ H R q)⟩
theorem di_range1 {tg a : Expr} {g : Fa M} {p pos : Pos} (hg : Gl X "range") (hm : X.mg "range" = none) (ha : DA X cn 𝒲 E [a] g) (hs : starEach [a] X.env = [(false, eval a X.env)] := by rfl) : DI X cn 𝒲 E tg (.Call (.Name "range" p) [a] [] pos) (fRange1 g) := by
  refine PI.imp (pi_range1 hg hm ha hs) fun σ H R q => ?_
  obtain ⟨W, hb, ow, δ, m, a, p⟩ := q
  refine (show tDA _ 𝒲 E g σ H _ from ⟨W, hb, ow, δ, m, a, ?_⟩)
  unfold fRange1 at p
  cases hf : g δ m with
  | bad => rw [hf] at p; exact p
  | exc x m1 => rw [hf] at p; exact p
  | ok xs m1 =>
    rw [hf] at p
    intro vs H1 s1 r1 rv
    simp only [Rs.bind] at p
    match xs, p with
    | [.int j], p =>
      obtain ⟨v, rfl, e⟩ := repAll1 rv
      obtain rfl : v = .int j := e
      by_cases h : -(2 ^ 62) ≤ j ∧ j < 2 ^ 62
      · simp only [if_pos h] at p
        exact ⟨j, rfl, h.1, h.2, p _ H1 s1 r1 wk_rng⟩
      · simp only [if_neg h] at p
        exact False.elim p
theorem di_range2 {tg a b : Expr} {g : Fa M} {p pos : Pos} (hg : Gl X "range") (hm : X.mg "range" = none) (ha : DA X cn 𝒲 E [a, b] g) (hs : starEach [a, b] X.env = [(false, eval a X.env), (false, eval b X.env)] := by rfl) (hs2 : starEach [b] X.env = [(false, eval b X.env)] := by rfl) :
    DI X cn 𝒲 E tg (.Call (.Name "range" p) [a, b] [] pos) (fRange2 g) := by
  refine PI.imp (pi_range2 hg hm ha hs hs2) fun σ H R q => ?_
  obtain ⟨W, hb, ow, δ, m, a, p⟩ := q
  refine (show tDA _ 𝒲 E g σ H _ from ⟨W, hb, ow, δ, m, a, ?_⟩)
  unfold fRange2 at p
  cases hf : g δ m with
  | bad => rw [hf] at p; exact p
  | exc x m1 => rw [hf] at p; exact p
  | ok xs m1 =>
    rw [hf] at p
    intro vs H1 s1 r1 rv
    simp only [Rs.bind] at p
    match xs, p with
    | [.int i, .int j], p =>
      obtain ⟨v, r, rfl, e, e2⟩ := rv
      obtain ⟨u, rfl, e3⟩ := repAll1 e2
      obtain rfl : v = .int i := e
      obtain rfl : u = .int j := e3
      by_cases h : -(2 ^ 62) ≤ i ∧ i < 2 ^ 62 ∧ -(2 ^ 62) ≤ j ∧ j < 2 ^ 62
      · simp only [if_pos h] at p
        exact ⟨i, j, rfl, h, p _ H1 s1 r1 wk_rng⟩
      · simp only [if_neg h] at p
        exact False.elim p

/-! ### comprehensions -/
theorem de_lc {elt tg iter : Expr} {ifs : List Expr} {scope : Scope} (own : List (Str × Nat)) {pos : Pos} {fi : Fa M} {gt : TG} {t : Ftg} {tt : Ft M} {te : Fe M} (hN : X.N.Nodup) (hi : DI X cn 𝒲 E tg iter fi) (ht : TgOk ⟨X.K, cn⟩ gt t (own.map (·.2)))
    (hg : ∀ (s : Shared) (H : Hp) (C : Addr) (cl : List (Str × Addr)) (fp : List Addr), PG (X.blk s H scope (compEnvC scope cl C X.env) fp) tg gt)
    (hts : ∀ (s : Shared) (H : Hp) (C : Addr) (cl : List (Str × Addr)) (fp : List Addr), PTs (X.blk s H scope (compEnvC scope cl C X.env) fp) ifs (tDT ⟨X.K, cn⟩ 𝒲 E0 tt))
    (he : ∀ (s : Shared) (H : Hp) (C : Addr) (cl : List (Str × Addr)) (fp : List Addr), DE (X.blk s H scope (compEnvC scope cl C X.env) fp) cn 𝒲 E0 elt te)
    (ok : blkC X.N X.env.scope scope own = true := by rfl) (hc : X.calm = true := by rfl) (hs : ∀ x, foldedSetIterable iter X.env x = pure x := by intro _; rfl) :
    DE X cn 𝒲 E (.ListComp elt [⟨tg, iter, ifs, 0⟩] scope pos) (fLc fi t tt te (own.map (·.2))) :=
  PE.imp (pe_lc hc hN hi (blkOk_by ok) hg hts he hs) fun _ _ _ h => lift_lc ht h
theorem lift_yes {G : Gx} {σ : L2.St} {H : Hp} {Q : Bool → Hp → Prop} (h : tDT G 𝒲 E (fYes : Ft M) σ H Q) : tYes σ H Q := by
  obtain ⟨W, hb, ow, δ, m, a, p⟩ := h
  exact p H Stp.refl a.r
theorem PTs.imp {es : List Expr} {t t' : TT} (h : PTs X es t) (k : ∀ σ H Q, t' σ H Q → t σ H Q) : PTs X es t' := ⟨fun pins s σ H Q I q => h.run pins s σ H Q I (k σ H Q q)⟩
theorem dts_nil : PTs X [] (tDT ⟨X.K, cn⟩ 𝒲 E (fYes : Ft M)) := PTs.imp pts_nil fun _ _ _ => lift_yes
theorem dts_one {c : Expr} {t : Ft M} (h : DT X cn 𝒲 E c t) : PTs X [c] (tDT ⟨X.K, cn⟩ 𝒲 E t) := pts_one h
theorem ds_setLc (i : Nat) {y : Str} {py spos : Pos} {elt tg iter : Expr} {ifs : List Expr} {scope : Scope} (own : List (Str × Nat)) {pos : Pos} {fi : Fa M} {gt : TG} {t : Ftg} {tt : Ft M} {te : Fe M} (hN : X.N.Nodup) (hi : DI X cn 𝒲 E tg iter fi) (ht : TgOk ⟨X.K, cn⟩ gt t (own.map (·.2)))
    (hg : ∀ (s : Shared) (H : Hp) (C : Addr) (cl : List (Str × Addr)) (fp : List Addr), PG (X.blk s H scope (compEnvC scope cl C X.env) fp) tg gt)
    (hts : ∀ (s : Shared) (H : Hp) (C : Addr) (cl : List (Str × Addr)) (fp : List Addr), PTs (X.blk s H scope (compEnvC scope cl C X.env) fp) ifs (tDT ⟨X.K, cn⟩ 𝒲 E0 tt))
    (he : ∀ (s : Shared) (H : Hp) (C : Addr) (cl : List (Str × Addr)) (fp : List Addr), DE (X.blk s H scope (compEnvC scope cl C X.env) fp) cn 𝒲 E0 elt te)
    (hy : X.N[i]? = some y := by rfl) (hyl : X.env.scope.names.lookup y = some .local := by rfl) (hk : X.env.scope.kind = .function := by rfl) (hl : (py.line == pos.line) = true := by rfl) (hany : (scope.names.any fun (n, k) => n == y && (k == .local || k == .cell)) = false := by decide +kernel)
    (ok : blkC X.N X.env.scope scope own = true := by rfl) (hc : X.calm = true := by rfl) (hs : ∀ x, foldedSetIterable iter X.env x = pure x := by intro _; rfl) :
    DS X cn 𝒲 E (.Assign [.Name y py] (.ListComp elt [⟨tg, iter, ifs, 0⟩] scope pos) spos) (sSet i (fLc fi t tt te (own.map (·.2)))) :=
  PS.imp (ps_setLc hc hN hy hyl (sw_true hk hyl hl hany) hi (blkOk_by ok) hg hts he hs) fun Dn σ H h => by
    have h2 := liftS_set h
    exact (show tAsg _ _ Dn σ H from (lift_lc ht (show tD _ 𝒲 E _ σ H _ from h2)))

/-! ### calls of one's own defs -/
def noH : Sl → Bool
  | .hnd _ => false
  | _ => true
def fCallN (n : Nat) (F : Sls → M → Rs M D) (g : Fsl M) : Fe M := fun δ m => (g δ m).bind fun as m1 => if as.length = n then F as m1 else .bad
def fCallU (n : Nat) (F : Sls → Unit → Rs Unit D) (g : Fsl M) : Fe M := fun δ m => (g δ m).bind fun as m1 => if as.length = n ∧ as.all noH = true then (match F as () with
  | .ok d _ => .ok d m1
  | .exc x _ => .exc x m1
  | .bad => .bad) else .bad
theorem lift_callN {G : Gx} {σ : L2.St} {H : Hp} {n : Nat} {F : Sls → M → Rs M D} {g : Fsl M} {Q : VK} (h : tD G 𝒲 E (fCallN n F g) σ H Q) : tCall (spD G 𝒲 n F) [] E (tDAS G 𝒲 E g) σ H Q := by
  obtain ⟨W, hb, ow, δ, m, at0, p⟩ := h
  refine ⟨W, hb, ow, δ, m, at0, ?_⟩
  unfold fCallN at p
  cases hf : g δ m with
  | bad => rw [hf] at p; exact p
  | exc x m1 => rw [hf] at p; exact p
  | ok as m1 =>
    rw [hf] at p
    intro vs H1 s1 a1
    simp only [Rs.bind] at p
    by_cases hn : as.length = n
    · rw [if_pos hn] at p
      have hl : vs.length = n := by
        have := a1.env.len
        rw [hn, List.length_map] at this
        exact this.symm
      show spD G 𝒲 n F (vs ++ []) H1 Q E
      rw [List.append_nil]
      exact ⟨hl, W, hdOf hb ow, as, m1, a1, Post.from_ s1 p⟩
    · rw [if_neg hn] at p
      exact False.elim p
theorem lift_callU {G : Gx} {σ : L2.St} {H : Hp} {n : Nat} {F : Sls → Unit → Rs Unit D} {g : Fsl M} {Q : VK} (h : tD G 𝒲 E (fCallU n F g) σ H Q) : tCall (spD G w0 n F) [] E (tDAS G 𝒲 E g) σ H Q := by
  obtain ⟨W, hb, ow, δ, m, at0, p⟩ := h
  refine ⟨W, hb, ow, δ, m, at0, ?_⟩
  unfold fCallU at p
  cases hf : g δ m with
  | bad => rw [hf] at p; exact p
  | exc x m1 => rw [hf] at p; exact p
  | ok as m1 =>
    rw [hf] at p
    intro vs H1 s1 a1
    simp only [Rs.bind] at p
    by_cases hn : as.length = n ∧ as.all noH = true
    · rw [if_pos hn] at p
      have hl : vs.length = n := by
        have := a1.env.len
        rw [hn.1, List.length_map] at this
        exact this.symm
      show spD G w0 n F (vs ++ []) H1 Q E
      rw [List.append_nil]
      refine ⟨hl, wd0, hdOf hb ow, as, (), unworld a1 (fun i k hk => ?_), ?_⟩
      · have := List.all_eq_true.mp hn.2 _ (List.mem_of_getElem? hk)
        cases this
      · have st : ∀ {H2 : Hp}, Stp wd0 H1 H2 → Same H1 H2 := fun s b o e => s b o rfl e
        cases hF : F as () with
        | bad => rw [hF] at p; exact p
        | exc x m2 =>
          rw [hF] at p
          exact fun c dd H2 s2 _ x => p c dd H2 (s1.trans (Stp.of (st s2))) (W.keep a1.r (st s2)) x
        | ok d m2 =>
          rw [hF] at p
          exact fun v H2 s2 _ x => p v H2 (s1.trans (Stp.of (st s2))) (W.keep a1.r (st s2)) x
    · rw [if_neg hn] at p
      exact False.elim p
end
/-- a def of the text, with what it promises -/
structure Fd (P : Program) (w : World) (K : PySem.W.Frag) (mg : Str → Option Value) (base : Heap) (x : Str) (ps : List Str) (k : Nat) (sp : Sp) : Prop where
  ex : ∃ (f : Addr) (fd : FuncData), mg x = some (.ref f) ∧ PySem.W.keepIn K (.ref f) = true ∧ Binds K fd ps [] ∧ FnOk P w K mg base (L2.CX P w) k f fd ps sp ∧
    ∃ (oc : Value) (od : Option Addr) (osl : Array (Option Value)), K.lookup f = some ⟨oc, od, .func fd, osl⟩
section
variable {M : Type} {X : Cx} {cn : Str → Addr} {𝒲 : Wd M → Prop} {E : XK}
theorem de_fn {x : Str} {ps : List Str} {k n : Nat} {F : Sls → M → Rs M D} {p pos : Pos} {e : Expr} {es : List Expr} {g : Fsl M} (D : Fd X.prog X.w X.K X.mg X.base x ps k (spD ⟨X.K, cn⟩ 𝒲 n F)) (hr : Room k X.A) (hx : Passes (L2.CX X.prog X.w) X E) (ha : DAS X cn 𝒲 E (e :: es) g) (hg : Gl X x := by rfl)
    (hdb : (x == ("__debug__" : Str)) = false := by decide) (he : starEach (e :: es) X.env = (false, eval e X.env) :: starEach es X.env := by rfl) (hpl : (backTo pos (starEach es X.env)).any (·.1) = false := by rfl) : DE X cn 𝒲 E (.Call (.Name x p) (e :: es) [] pos) (fCallN n F g) := by
  obtain ⟨f, fd, hm, hk, hb, Fo, lk⟩ := D.ex
  exact PE.imp (pe_call Fo hr hg hm hk hb .nil hx ha hdb he hpl) fun _ _ _ => lift_callN
theorem de_fnU {x : Str} {ps : List Str} {k n : Nat} {F : Sls → Unit → Rs Unit DL.D} {p pos : Pos} {e : Expr} {es : List Expr} {g : Fsl M} (D : Fd X.prog X.w X.K X.mg X.base x ps k (spD ⟨X.K, cn⟩ w0 n F)) (hr : Room k X.A) (hx : Passes (L2.CX X.prog X.w) X E) (ha : DAS X cn 𝒲 E (e :: es) g) (hg : Gl X x := by rfl)
    (hdb : (x == ("__debug__" : Str)) = false := by decide) (he : starEach (e :: es) X.env = (false, eval e X.env) :: starEach es X.env := by rfl) (hpl : (backTo pos (starEach es X.env)).any (·.1) = false := by rfl) : DE X cn 𝒲 E (.Call (.Name x p) (e :: es) [] pos) (fCallU n F g) := by
  obtain ⟨f, fd, hm, hk, hb, Fo, lk⟩ := D.ex
  exact PE.imp (pe_call Fo hr hg hm hk hb .nil hx ha hdb he hpl) fun _ _ _ => lift_callU
end

/-! ### a def as the top leaves it -/
theorem Fun_lk {K : PySem.W.Frag} {x qual : Str} {st : Stmt} {f : Addr} {fd : FuncData} (F : Fun K x qual st f fd) : ∃ (oc : Value) (od : Option Addr) (osl : Array (Option Value)), K.lookup f = some ⟨oc, od, .func fd, osl⟩ := by
  obtain ⟨oc, od, kV, doc, pm, an, cdv, ct, osl, rfl, lk, hcd⟩ := F.ex
  exact ⟨oc, od, osl, lk⟩
structure Df (K : PySem.W.Frag) (mg : Str → Option Value) (x : Str) (st : Stmt) (ps : List Str) : Prop where
  ex : ∃ (f : Addr) (fd : FuncData), mg x = some (.ref f) ∧ Fun K x x st f fd ∧ Binds K fd ps []
section
variable {P : Program} {w : World} {K : PySem.W.Frag} {mg : Str → Option Value} {base : Heap} {M : Type}
theorem Df.fd {x : Str} {st : Stmt} {N ps : List Str} {k : Nat} {cn : Str → Addr} {𝒲 : Wd M → Prop} {g : Fs M} (D : Df K mg x st ps) (S : FnScope N ps (defScope st))
    (hb : ∀ (f : Addr) (cdv : Value) (A : Around) (outer : List Env) (s : Shared) (H : Hp) (E : XK), Room k (A.deeper (envOfC x (defScope st) s.heap.objs.size f cdv)) →
      PSs (cxOf (L2.CX P w) P w K mg base N x (defScope st) f cdv A outer s H E) (defBody st) (tS ⟨K, cn⟩ 𝒲 E g)) :
    Fd P w K mg base x ps (k + 1) (spD ⟨K, cn⟩ 𝒲 ps.length (runF N.length g)) := by
  obtain ⟨f, fd, hm, F, b⟩ := D.ex
  exact ⟨f, fd, hm, F.kp, b, fn_ok F S (hb f), Fun_lk F⟩
theorem Fd.to {x : Str} {ps : List Str} {k n : Nat} {G : Gx} {𝒲 : Wd M → Prop} {F F' : Sls → M → Rs M D} (D : Fd P w K mg base x ps k (spD G 𝒲 n F)) (e : ∀ as m, as.length = n → F' as m = .bad ∨ F as m = F' as m) : Fd P w K mg base x ps k (spD G 𝒲 n F') := by
  obtain ⟨f, fd, hm, hk, hb, Fo, lk⟩ := D.ex
  exact ⟨f, fd, hm, hk, hb, FnOk.to Fo e, lk⟩
theorem Fd.up {x : Str} {ps : List Str} {j k : Nat} {sp : Sp} (D : Fd P w K mg base x ps j sp) (h : j ≤ k) : Fd P w K mg base x ps k sp := by
  obtain ⟨f, fd, hm, hk, hb, Fo, lk⟩ := D.ex
  exact ⟨f, fd, hm, hk, hb, Fo.mono h, lk⟩

/-! ### the law's ends -/
/-- the bag is made of the script -/
def spBag (K : PySem.W.Frag) : Sp := fun vs H Q _ => ∃ (a : Addr) (ns : List Int), vs = [.ref a] ∧ SqL K H a (ns.map V.int) ∧ ns.length ≤ 63 ∧
  ∀ b c H', H b = none → H c = none → b ≠ c → H' b = some (.lst [.ref c, .int 0, .int 0, .int 3846]) → H' c = some (.lst (ns.map V.int)) → Same H H' → Q (.ref b) H'
def spLaw (K : PySem.W.Frag) : Sp := fun vs H Q _ => ∃ (a : Addr) (ns : List Int), vs = [.ref a] ∧ SqL K H a (ns.map V.int) ∧ ns.length ≤ 63 ∧ ∀ H', Q (.bl true) H'
theorem Df.raw {x : Str} {st : Stmt} {N ps : List Str} {k : Nat} {sp : Sp} (D : Df K mg x st ps) (S : FnScope N ps (defScope st)) (len : ∀ vs H Q E, sp vs H Q E → vs.length = ps.length)
    (hb : ∀ (f : Addr) (cdv : Value) (A : Around) (outer : List Env) (s : Shared) (H : Hp) (vs : List V) (Q : VK) (E : XK), Room k (A.deeper (envOfC x (defScope st) s.heap.objs.size f cdv)) → sp vs H Q E →
      ∃ t, PSs (cxOf (L2.CX P w) P w K mg base N x (defScope st) f cdv A outer s H E) (defBody st) t ∧ t { nx := fun _ H' => Q .non H', rt := Q } (L2.start N vs) H) : Fd P w K mg base x ps (k + 1) sp := by
  obtain ⟨f, fd, hm, F, b⟩ := D.ex
  exact ⟨f, fd, hm, F.kp, b, F.okX S len (hb f), Fun_lk F⟩
theorem bag_len : ∀ vs H Q E, spBag K vs H Q E → vs.length = 1 := fun vs H Q E ⟨a, ns, h, _⟩ => by rw [h]; rfl
theorem bag_read {p : Str} {vs : List V} {H : Hp} {Q : VK} {E : XK} {nx : L2.St → Hp → Prop} (h : spBag K vs H Q E) :
    tRet (tLst (tCons (tCB (fun xs H Q => ∃ p ys, xs = [.ref p] ∧ (SqL K H p ys ∨ SqT K H p ys) ∧ ∀ l, H l = none → Q (.ref l) (upd H l (.lst ys))) (tCons (tSl (rSlL K) (tVar 0) tNoPart (tPart (tC (.int 63)))) tNil))
      (tCons (tC (.int 0)) (tCons (tC (.int 0)) (tCons (tC (.int 3846)) tNil))))) { nx := nx, rt := Q } (L2.start [p] vs) H := by
  obtain ⟨a, ns, rfl, hS, hl, k⟩ := h
  refine ⟨_, rfl, 63, rfl, a, ns.map V.int, rfl, hS, fun q hq => ?_⟩
  have hcut : cutV (ns.map V.int) none (some 63) = ns.map V.int := by
    unfold cutV
    have h1 : HT.sIx (ns.map V.int).length 0 none = 0 := rfl
    have h2 : HT.sIx (ns.map V.int).length (ns.map V.int).length (some 63) = (ns.map V.int).length := by
      unfold HT.sIx
      rw [List.length_map]
      show (if (63 : Int) < 0 then _ else min (63 : Int).toNat ns.length) = _
      rw [if_neg (by decide)]
      show min 63 ns.length = _
      omega
    rw [h1, h2, List.drop_zero, Nat.sub_zero, List.take_of_length_le (Nat.le_refl _)]
  rw [hcut]
  refine ⟨q, ns.map V.int, rfl, .inl (SqL.of upd_same), fun c hc => ⟨by show 4 ≤ sizeLine; decide, fun b hb => ?_⟩⟩
  have hqc : c ≠ q := fun z => by rw [z, upd_same] at hc; cases hc
  have hc' : H c = none := by rw [upd_ne hqc] at hc; exact hc
  have hbc : b ≠ c := fun z => by rw [z, upd_same] at hb; cases hb
  rw [upd_ne hbc] at hb
  have hbq : b ≠ q := fun z => by rw [z, upd_same] at hb; cases hb
  rw [upd_ne hbq] at hb
  refine k b c _ hb hc' hbc upd_same (by rw [upd_ne (Ne.symm hbc), upd_same]) fun x o e => ?_
  rw [upd_ne (ne_of_none e hb), upd_ne (ne_of_none e hc'), upd_ne (ne_of_none e hq)]
  exact e
theorem law_len : ∀ vs H Q E, spLaw K vs H Q E → vs.length = 1 := fun vs H Q E ⟨a, ns, h, _⟩ => by rw [h]; rfl
/-- the law behind its first statement, the bag's making -/
theorem law_read {cn : Str → Addr} {N : List Str} {vs : List V} {H : Hp} {Q : VK} {E : XK} {g : Fs Bag} {nx : L2.St → Hp → Prop} (hN : 2 ≤ N.length) (h : spLaw K vs H Q E)
    (run : ∀ ns : List Int, ns.length ≤ 63 → ∃ m, g (.un :: .hnd 0 :: List.replicate (N.length - 2) .un) ⟨ns, 0, 0, 3846⟩ = .rt (.bl true) m) :
    tSeq (tAsg (tCall (spBag K) [] E (tCons (tVar 0) tNil)) (gName 1)) (tS ⟨K, cn⟩ wB E g) { nx := nx, rt := Q } (L2.start N vs) H := by
  obtain ⟨a, ns, rfl, hS, hl, k⟩ := h
  refine ⟨.ref a, rfl, a, ns, rfl, hS, hl, fun b c H' hb hc hbc h1 h2 hs => ?_⟩
  obtain ⟨m, hm⟩ := run ns hl
  have e0 : (L2.start N [.ref a]).set 1 (some (.ref b)) = some (.ref a) :: some (.ref b) :: List.replicate (N.length - 2) none := by
    unfold L2.start
    have : N.length - [V.ref a].length = (N.length - 2) + 1 := by
      show N.length - 1 = _
      omega
    rw [this, List.replicate_succ]
    rfl
  show tS ⟨K, cn⟩ wB E g { nx := nx, rt := Q } ((L2.start N [.ref a]).set 1 (some (.ref b))) H'
  rw [e0]
  refine ⟨bagW b c, fun x => x == b || x == c, fun _ => false, .un :: .hnd 0 :: List.replicate (N.length - 2) .un, ⟨ns, 0, 0, 3846⟩, ⟨⟨b, c, hbc, rfl⟩, ?_, h1, h2⟩, ?_⟩
  · have noown : ∀ (i : Nat) (t : T), (Sl.un :: .hnd 0 :: List.replicate (N.length - 2) Sl.un)[i]? = some (.own t) → False := fun i t hd => by
      match i with
      | 0 => cases hd
      | 1 => cases hd
      | i + 2 =>
        have hs' : (List.replicate (N.length - 2) Sl.un)[i]? = some (.own t) := hd
        have hlt := (List.getElem?_eq_some_iff.mp hs').1
        rw [List.length_replicate] at hlt
        rw [List.getElem?_replicate_of_lt hlt] at hs'
        cases hs'
    refine ⟨by simp, fun x h => h, fun x h => (by cases h), fun x h => ?_, fun i s hs => ?_, ⟨fun _ => [], fun i t x hd => (noown i t hd).elim, fun i j t u hd => (noown i t hd).elim⟩⟩
    · rcases h with h | h
      · have : x = b ∨ x = c := by simpa using h
        rcases this with rfl | rfl
        · rw [h1]; simp
        · rw [h2]; simp
      · cases h
    · match i with
      | 0 => cases hs; exact ⟨_, rfl, trivial⟩
      | 1 => cases hs; exact ⟨_, rfl, .ref b, rfl, rfl⟩
      | i + 2 =>
        have hs' : (List.replicate (N.length - 2) Sl.un)[i]? = some s := hs
        have hlt := (List.getElem?_eq_some_iff.mp hs').1
        rw [List.length_replicate] at hlt
        rw [List.getElem?_replicate_of_lt hlt] at hs'
        cases hs'
        refine ⟨none, ?_, trivial⟩
        show (List.replicate (N.length - 2) none)[i]? = some none
        rw [List.getElem?_replicate_of_lt hlt]
  · rw [hm]
    intro ow2 v H2 _ _ rv
    obtain rfl : v = .bl true := rv
    exact k H2
end
end DL

/-! What a text's top holds: constants, tables; in, not in; defs with a star, calls with keywords. -/
namespace DL
open PySem PySem.Spec PyProof.Rows L2

/-! ### constants -/
def readL (f : Value → Option D) : List Value → Option (List D)
  | [] => some []
  | v :: vs => (f v).bind fun d => (readL f vs).map fun ds => d :: ds
/-- a value of the written part, read as data; two arms of its own, so that it is computed -/
def readC1 (K : PySem.W.Frag) (sub : Value → Option D) (v : Value) : Option D := match v with
  | .none => some .non
  | .bool b => some (.bl b)
  | .int i _ => some (.int i)
  | .str x _ => if x.length ≤ sizeLine then some (.str x) else none
  | .ref a => match K.lookup a with
    | some ⟨.type "tuple", _, .seq its _, _⟩ => if its.size ≤ sizeLine then (readL sub its.toList).map .tup else none
    | _ => none
  | _ => none
def readC (K : PySem.W.Frag) : Nat → Value → Option D
  | 0 => fun _ => none
  | n + 1 => readC1 K (readC K n)
section
variable {K : PySem.W.Frag} {cn : Str → Addr}
theorem readCs_of {f : Value → Option D} (ih : ∀ (v : Value) (d : D), f v = some d → ∃ x, RelV x v ∧ ∀ H, Rep ⟨K, cn⟩ H d x) : ∀ (vs : List Value) (ds : List D), readL f vs = some ds → ∃ xs, Vals xs vs ∧ ∀ H, RepAll ⟨K, cn⟩ H ds xs
  | [], ds, h => by
    simp only [readL] at h
    cases h
    exact ⟨[], .nil, fun _ => rfl⟩
  | v :: vs, ds, h => by
    simp only [readL] at h
    cases h1 : f v with
    | none => rw [h1] at h; cases h
    | some d =>
      rw [h1] at h
      simp only [Option.bind_some] at h
      cases h2 : readL f vs with
      | none => rw [h2] at h; cases h
      | some es =>
        rw [h2] at h
        cases h
        obtain ⟨x, r1, r2⟩ := ih v d h1
        obtain ⟨xs, r3, r4⟩ := readCs_of ih vs es h2
        exact ⟨x :: xs, .cons r1 r3, fun H => ⟨x, xs, rfl, r2 H, r4 H⟩⟩
theorem readC_of : ∀ (n : Nat) (v : Value) (d : D), readC K n v = some d → ∃ x, RelV x v ∧ ∀ H, Rep ⟨K, cn⟩ H d x := by
  intro n
  induction n with
  | zero =>
    intro v d h
    cases h
  | succ n ih =>
    intro v d h
    unfold readC at h
    cases v <;> simp only [readC1] at h <;> (try contradiction)
    · cases h; exact ⟨.non, rfl, fun _ => rfl⟩
    · rename_i b; cases h; exact ⟨.bl b, rfl, fun _ => rfl⟩
    · rename_i i t; cases h; exact ⟨.int i, ⟨t, rfl⟩, fun _ => rfl⟩
    · rename_i x t
      by_cases hl : x.length ≤ sizeLine
      · rw [if_pos hl] at h; cases h; exact ⟨.str x, ⟨t, rfl⟩, fun _ => ⟨rfl, hl⟩⟩
      · rw [if_neg hl] at h; cases h
    · rename_i a
      split at h
      · rename_i dd its n' sl hk
        by_cases hz : its.size ≤ sizeLine
        · rw [if_pos hz] at h
          cases h2 : readL (readC K n) its.toList with
          | none => rw [h2] at h; cases h
          | some ds =>
            rw [h2] at h
            cases h
            obtain ⟨xs, r1, r2⟩ := readCs_of ih its.toList ds h2
            exact ⟨.ref a, rfl, fun H => ⟨a, xs, rfl, .inr ⟨_, its, n', hk, rfl, rfl, hz, r1⟩, r2 H⟩⟩
        · rw [if_neg hz] at h; cases h
      · cases h
end
/-- a module's constant -/
structure Gc (K : PySem.W.Frag) (mg : Str → Option Value) (cn : Str → Addr) (x : Str) (d : D) : Prop where
  ex : ∃ (v : V) (u : Value), mg x = some u ∧ RelV v u ∧ ∀ H, Rep ⟨K, cn⟩ H d v
theorem gc_of {K : PySem.W.Frag} {mg : Str → Option Value} {cn : Str → Addr} {x : Str} {d : D} {u : Value} (n : Nat) (hm : mg x = some u) (h : readC K n u = some d) : Gc K mg cn x d := by
  obtain ⟨v, r1, r2⟩ := readC_of (cn := cn) n u d h
  exact ⟨v, u, hm, r1, r2⟩
/-- a module's dict with text keys -/
structure Tc (K : PySem.W.Frag) (w : World) (mg : Str → Option Value) (cn : Str → Addr) (x : Str) (tb : List (Str × D)) : Prop where
  ex : ∃ a, mg x = some (.ref a) ∧ ∀ z d, tb.lookup z = some d → ∃ v, KDct K w a z v ∧ ∀ H, Rep ⟨K, cn⟩ H d v
theorem tc_of {K : PySem.W.Frag} {w : World} {mg : Str → Option Value} {cn : Str → Addr} {x : Str} {tb : List (Str × D)} {a : Addr} {es : Array DictEntry} {n : Nat} (hm : mg x = some (.ref a)) (hl : K.lookup a = some ⟨.type "dict", none, .dict es n, #[]⟩) (hk : PySem.W.KeysLit w.params es.toList)
    (h : ∀ z d, tb.lookup z = some d → ∃ u, PySem.W.nsIn K a z = some (some u) ∧ readC K 9 u = some d) : Tc K w mg cn x tb := ⟨a, hm, fun z d e => by
  obtain ⟨u, h1, h2⟩ := h z d e
  obtain ⟨v, r1, r2⟩ := readC_of (cn := cn) 9 u d h2
  exact ⟨v, ⟨es, n, u, hl, hk, h1, r1⟩, r2⟩⟩
theorem lookup_cases {α : Type} {tb : List (Str × α)} {P : Str → α → Prop} (h : ∀ p ∈ tb, P p.1 p.2) : ∀ z d, tb.lookup z = some d → P z d := by
  induction tb with
  | nil => intro z d e; cases e
  | cons p tb ih =>
    intro z d e
    rw [List.lookup_cons] at e
    cases q : z == p.1 with
    | true =>
      rw [q] at e
      cases e
      have := eq_of_beq q
      rw [this]
      exact h p (by simp)
    | false =>
      rw [q] at e
      exact ih (fun p hp => h p (by simp [hp])) z d e
section
variable {M : Type} {X : Cx} {cn : Str → Addr} {𝒲 : Wd M → Prop} {E : XK}
theorem de_gc {x : Str} {d : D} {pos : Pos} (C : Gc X.K X.mg cn x d) (hg : Gl X x) (hd : (x == ("__debug__" : Str)) = false := by decide) : DE X cn 𝒲 E (.Name x pos) (fC d) := by
  obtain ⟨v, u, hm, r, hr⟩ := C.ex
  exact de_glob hg hm r hr hd
theorem de_tabc {x : Str} {p pos : Pos} {b : Expr} {f : Fe M} {tb : List (Str × D)} (C : Tc X.K X.w X.mg cn x tb) (hg : Gl X x) (hb : DE X cn 𝒲 E b f) (hs : PlainIx b := by exact fun _ _ => rfl) (hd : (x == ("__debug__" : Str)) = false := by decide) :
    DE X cn 𝒲 E (.Subscript (.Name x p) b pos) (fTab tb f) := by
  obtain ⟨a, hm, h⟩ := C.ex
  exact de_tab ⟨h⟩ hg hm hb hs hd

/-! ### in, not in -/
theorem eqF_of {G : Gx} {H : Hp} {x y : D} {v u : V} (hx : x.flat = true) (hy : y.flat = true) (rx : Rep G H x v) (ry : Rep G H y u) : eqV v u = D.eqF x y ∧ flatV v = true ∧ flatV u = true := by
  cases x <;> simp only [D.flat] at hx <;> (try contradiction) <;> cases y <;> simp only [D.flat] at hy <;> (try contradiction) <;>
    (simp only [Rep] at rx ry) <;> (first | subst rx | (obtain ⟨rfl, _⟩ := rx)) <;> (first | subst ry | (obtain ⟨rfl, _⟩ := ry)) <;> refine ⟨?_, rfl, rfl⟩ <;> rfl
theorem inV_of {G : Gx} {H : Hp} {x : D} {v : V} (hx : x.flat = true) (rx : Rep G H x v) : ∀ (ys : List D) (us : List V), ys.all D.flat = true → RepAll G H ys us → inV v us = (ys.any fun y => D.eqF y x) ∧ us.all flatV = true
  | [], us, _, r => by
    obtain rfl : us = [] := r
    exact ⟨rfl, rfl⟩
  | y :: ys, us, ha, r => by
    obtain ⟨u, us, rfl, r1, r2⟩ := r
    rw [List.all_cons, Bool.and_eq_true] at ha
    obtain ⟨i1, i2⟩ := inV_of hx rx ys us ha.2 r2
    obtain ⟨e1, e2, e3⟩ := eqF_of ha.1 hx r1 rx
    refine ⟨?_, by rw [List.all_cons, e2, i2]; rfl⟩
    unfold inV at i1 ⊢
    rw [List.any_cons, List.any_cons, i1, e1]
theorem flat_of {G : Gx} {H : Hp} {x : D} {v : V} (hx : x.flat = true) (rx : Rep G H x v) : flatV v = true := (eqF_of hx hx rx rx).2.1
def rInU (K : PySem.W.Frag) (neg : Bool) : R2 := fun x y H Q => (∃ (c : Nat) (z : Str), x = .str ⟨#[c]⟩ ∧ y = .str z ∧ Q (.bl (if neg then !decide (c ∈ z.cps.toList) else decide (c ∈ z.cps.toList))) H) ∨
  (∃ i j, x = .str i ∧ y = .str j ∧ Q (.bl (if neg then !(!(Builtin.Str.occurrences j i 0 j.length 1).isEmpty) else !(Builtin.Str.occurrences j i 0 j.length 1).isEmpty)) H) ∨ rIn K neg x y H Q
theorem op_inU : OpR X (compareOp .In) (rInU X.K false) := op_in_sign.or (op_in_str.or op_in_seq)
theorem op_ninU : OpR X (compareOp .NotIn) (rInU X.K true) := op_notIn_sign.or (op_notin_str.or op_notIn_seq)
theorem rd_inU {G : Gx} (neg : Bool) : RD2 G (rInU G.K neg) (fun x y => if neg then neg1 (oIn x y) else oIn x y) := by
  intro hd H x y d v u Q hn rx ry ho k
  have seq : ∀ (ys : List D) (us : List V) (p : Addr), u = .ref p → (SqL G.K H p us ∨ SqT G.K H p us) → RepAll G (hid hd H) ys us → x.flat = true → ys.all D.flat = true →
      (if neg then neg1 (some (.bl (ys.any fun y => D.eqF y x))) else some (.bl (ys.any fun y => D.eqF y x))) = some d → rInU G.K neg v u H Q := fun ys us p e sq r hx hy hq => by
    subst e
    obtain ⟨i1, i2⟩ := inV_of hx rx ys us hy r
    refine .inr (.inr ⟨p, us, rfl, sq, flat_of hx rx, i2, ?_⟩)
    rw [i1]
    cases neg with
    | true => cases hq; exact k _ H (Same.refl H) rfl
    | false => cases hq; exact k _ H (Same.refl H) rfl
  cases y with
  | str z =>
    cases x with
    | str c =>
      obtain ⟨rfl, h1⟩ := rx
      obtain ⟨rfl, h2⟩ := ry
      simp only [oIn] at ho
      by_cases hc : c.cps.size = 1
      · rw [dif_pos hc] at ho
        refine .inl ⟨c.cps[0], z, ?_, rfl, ?_⟩
        · have : c = ⟨#[c.cps[0]]⟩ := by
            cases c with
            | mk cps =>
              congr 1
              apply Array.ext
              · simpa using hc
              · intro i h1 h2
                have : i = 0 := by
                  have : i < cps.size := h1
                  simp at hc
                  omega
                subst this
                rfl
          rw [← this]
        · cases neg with
          | true => cases ho; exact k _ H (Same.refl H) rfl
          | false => cases ho; exact k _ H (Same.refl H) rfl
      · rw [dif_neg hc] at ho
        refine .inr (.inl ⟨c, z, rfl, rfl, ?_⟩)
        cases neg with
        | true => cases ho; exact k _ H (Same.refl H) rfl
        | false => cases ho; exact k _ H (Same.refl H) rfl
    | _ => cases neg <;> simp [oIn, neg1] at ho
  | lst ys =>
    obtain ⟨p, us, rfl, h1, h2⟩ := ry
    simp only [oIn] at ho
    by_cases h : x.flat = true ∧ ys.all D.flat = true
    · rw [if_pos h] at ho
      exact seq ys us p rfl (.inl (.inl (.inl (hid_some.mp h1).2))) h2 h.1 h.2 ho
    · rw [if_neg h] at ho
      cases neg <;> cases ho
  | tup ys =>
    obtain ⟨p, us, rfl, h1, h2⟩ := ry
    simp only [oIn] at ho
    by_cases h : x.flat = true ∧ ys.all D.flat = true
    · rw [if_pos h] at ho
      exact seq ys us p rfl (.inr (Same.sqT hid_self h1)) h2 h.1 h.2 ho
    · rw [if_neg h] at ho
      cases neg <;> cases ho
  | _ => cases x <;> cases neg <;> simp [oIn, neg1] at ho
theorem cm_in : Cm X cn .In oIn := ⟨⟨_, op_inU, rd_inU false⟩⟩
theorem cm_nin : Cm X cn .NotIn oNotIn := ⟨⟨_, op_ninU, rd_inU true⟩⟩
end
end DL

/-! Defs with a star; calls by keywords alone. -/
namespace DL
open PySem PySem.Spec PyProof.Rows L2

/-- def f( *v) -/
def spSt (G : Gx) (F : Sls → Unit → Rs Unit D) : Sp := fun vs H Q E => vs.length ≤ sizeLine ∧ ∀ p, H p = none → spD G w0 1 F [.ref p] (upd H p (.tup vs)) Q E
section
variable {M : Type} {X : Cx} {cn : Str → Addr} {𝒲 : Wd M → Prop} {E : XK}
def unU (m : M) : Rs Unit D → Rs M D
  | .ok d _ => .ok d m
  | .exc x _ => .exc x m
  | .bad => .bad
def fStar (F : Sls → Unit → Rs Unit D) (g : Fa M) : Fe M := fun δ m => (g δ m).bind fun xs m1 => if xs.length ≤ sizeLine then unU m1 (F [.dat (.tup xs)] ()) else .bad
theorem post_unU {G : Gx} {W : Wd M} {hd : Addr → Bool} {H : Hp} {m1 : M} {Q : VK} {r : Rs Unit D} (r1 : W.R m1 H) (p : Post G W hd E H Q (unU m1 r)) : Post G wd0 hd E H Q r := by
  have st : ∀ {H2 : Hp}, Stp wd0 H H2 → Same H H2 := fun s b o e => s b o rfl e
  cases r with
  | bad => exact p
  | exc x m2 => exact fun c dd H2 s2 _ x => p c dd H2 (Stp.of (st s2)) (W.keep r1 (st s2)) x
  | ok d m2 => exact fun v H2 s2 _ x => p v H2 (Stp.of (st s2)) (W.keep r1 (st s2)) x
theorem lift_star {G : Gx} {σ : L2.St} {H : Hp} {Q : VK} {F : Sls → Unit → Rs Unit D} {g : Fa M} (h : tD G 𝒲 E (fStar F g) σ H Q) : tDA G 𝒲 E g σ H fun vs H1 => spSt G F vs H1 Q E := by
  obtain ⟨W, hb, ow, δ, m, at0, p⟩ := h
  refine ⟨W, hb, ow, δ, m, at0, ?_⟩
  unfold fStar at p
  cases hf : g δ m with
  | bad => rw [hf] at p; exact p
  | exc x m1 => rw [hf] at p; exact p
  | ok xs m1 =>
    rw [hf] at p
    intro vs H1 s1 r1 rx
    have a1 := at0.step s1 r1
    simp only [Rs.bind] at p
    by_cases hl : xs.length ≤ sizeLine
    · rw [if_pos hl] at p
      refine ⟨by rw [RepAll.length rx]; exact hl, fun q hq => ⟨rfl, wd0, hdOf hb ow, [.dat (.tup xs)], (), ?_, ?_⟩⟩
      · have a2 := a1.step (Stp.of (same_new (o := .tup vs) hq)) (W.keep a1.r (same_new hq))
        have e0 : (fun b => hdOf hb ow b || false) = hdOf hb ow := by funext b; simp
        refine unworld (at_cons (at_nil a2) (fun t h => by cases h) (s := .dat (.tup xs)) ⟨.ref q, rfl, ?_⟩) fun i n h => ?_
        · rw [e0]
          exact rep_tup hq (a1.new q hq) rx
        · match i, h with
          | 0, h => cases h
          | i + 1, h => cases h
      · refine post_unU (W := W) (W.keep a1.r (same_new hq)) ?_
        have p2 := Post.from_ s1 p
        exact Post.from_ (Stp.of (same_new hq)) p2
    · rw [if_neg hl] at p
      exact False.elim p
/-- a star def of the text, with what it promises -/
structure Fst (P : Program) (w : World) (K : PySem.W.Frag) (mg : Str → Option Value) (base : Heap) (x : Str) (k : Nat) (sp : Sp) : Prop where
  ex : ∃ f : Addr, mg x = some (.ref f) ∧ PySem.W.keepIn K (.ref f) = true ∧ FnR P w K mg base (L2.CX P w) k f sp
theorem pe_callR {CX : CXT} {k : Nat} {f : Addr} {sp : Sp} {x : Str} {p pos : Pos} {e : Expr} {es : List Expr} {t : TA} (F : FnR X.prog X.w X.K X.mg X.base CX k f sp) (hr : Room k X.A) (hg : Gl X x) (hm : X.mg x = some (.ref f)) (hk : PySem.W.keepIn X.K (.ref f) = true) (hx : Passes CX X E) (ha : PA X (e :: es) t)
    (hdb : (x == ("__debug__" : Str)) = false := by decide) (he : starEach (e :: es) X.env = (false, eval e X.env) :: starEach es X.env := by rfl) (hpl : (backTo pos (starEach es X.env)).any (·.1) = false := by rfl) :
    PE X (.Call (.Name x p) (e :: es) [] pos) (fun σ H Q => t σ H fun vs H1 => sp vs H1 Q E) :=
  ⟨fun pins s σ H Q I h => wpAny_Call_Name_kw (ld_glob I hg hm (PySem.W.callWith_K (h₀ := X.base) I.ok.mod.kin hk (thn (ha.run pos pins s σ H _ I h) fun us s1 ⟨vs, H1, I1, r, q⟩ => ⟨I1.kIn, wpAny_call (run_fnR F hr hx I1 r q)⟩) he hpl) hdb)⟩
theorem pe_callR0 {CX : CXT} {k : Nat} {f : Addr} {sp : Sp} {x : Str} {p pos : Pos} (F : FnR X.prog X.w X.K X.mg X.base CX k f sp) (hr : Room k X.A) (hg : Gl X x) (hm : X.mg x = some (.ref f)) (hk : PySem.W.keepIn X.K (.ref f) = true) (hx : Passes CX X E)
    (hdb : (x == ("__debug__" : Str)) = false := by decide) : PE X (.Call (.Name x p) [] [] pos) (fun σ H Q => tNil σ H fun vs H1 => sp vs H1 Q E) :=
  ⟨fun pins s σ H Q I h => wpAny_Call_Name_kw (ld_glob I hg hm (PySem.W.callWith_K0 I.kIn hk (wpAny_call (run_fnR (us := []) (vs := []) F hr hx I .nil h))) hdb)⟩
theorem de_fnStar {x : Str} {k : Nat} {F : Sls → Unit → Rs Unit DL.D} {p pos : Pos} {e : Expr} {es : List Expr} {g : Fa M} (D : Fst X.prog X.w X.K X.mg X.base x k (spSt ⟨X.K, cn⟩ F)) (hr : Room k X.A) (hx : Passes (L2.CX X.prog X.w) X E) (ha : DA X cn 𝒲 E (e :: es) g) (hg : Gl X x := by rfl)
    (hdb : (x == ("__debug__" : Str)) = false := by decide) (he : starEach (e :: es) X.env = (false, eval e X.env) :: starEach es X.env := by rfl) (hpl : (backTo pos (starEach es X.env)).any (·.1) = false := by rfl) : DE X cn 𝒲 E (.Call (.Name x p) (e :: es) [] pos) (fStar F g) := by
  obtain ⟨f, hm, hk, Fo⟩ := D.ex
  exact PE.imp (pe_callR Fo hr hg hm hk hx ha hdb he hpl) fun _ _ _ => lift_star
theorem de_fnStar0 {x : Str} {k : Nat} {F : Sls → Unit → Rs Unit DL.D} {p pos : Pos} (D : Fst X.prog X.w X.K X.mg X.base x k (spSt ⟨X.K, cn⟩ F)) (hr : Room k X.A) (hx : Passes (L2.CX X.prog X.w) X E) (hg : Gl X x := by rfl)
    (hdb : (x == ("__debug__" : Str)) = false := by decide) : DE X cn 𝒲 E (.Call (.Name x p) [] [] pos) (fStar F (fNil : Fa M)) := by
  obtain ⟨f, hm, hk, Fo⟩ := D.ex
  refine PE.imp (pe_callR0 Fo hr hg hm hk hx hdb) fun σ H Q h => ?_
  exact lift_nil (lift_star h)

/-! ### by keywords alone -/
def perm {α : Type} (π : List Nat) (xs : List α) : List α := π.filterMap fun i => xs[i]?
theorem perm_vals (π : List Nat) {vs : List V} {us : List Value} (r : Vals vs us) : Vals (perm π vs) (perm π us) := by
  induction π with
  | nil => exact .nil
  | cons i π ih =>
    unfold perm at ih ⊢
    rw [List.filterMap_cons, List.filterMap_cons]
    cases h : vs[i]? with
    | none =>
      rw [Vals.none_of r h]
      exact ih
    | some v =>
      obtain ⟨u, h2, h3⟩ := Vals.get r h
      rw [h2]
      exact .cons h3 ih
theorem perm_rep {G : Gx} {H : Hp} (π : List Nat) {ds : List D} {vs : List V} (r : RepAll G H ds vs) : RepAll G H (perm π ds) (perm π vs) := by
  induction π with
  | nil => exact (rfl : ([] : List V) = [])
  | cons i π ih =>
    unfold perm at ih ⊢
    rw [List.filterMap_cons, List.filterMap_cons]
    cases h : vs[i]? with
    | none =>
      have : ds[i]? = none := by
        have h2 := RepAll.length r
        rw [List.getElem?_eq_none_iff] at h ⊢
        omega
      rw [this]
      exact ih
    | some v =>
      obtain ⟨d, h2, h3⟩ := RepAll.get r h
      rw [h2]
      exact ⟨v, _, rfl, h3, ih⟩
/-- how keywords alone bind -/
structure Kb (K : PySem.W.Frag) (mg : Str → Option Value) (x : Str) (ps ks : List Str) (π : List Nat) : Prop where
  ex : ∃ (f : Addr) (fd : FuncData), mg x = some (.ref f) ∧ (∃ (oc : Value) (od : Option Addr) (osl : Array (Option Value)), K.lookup f = some ⟨oc, od, .func fd, osl⟩) ∧
    ∀ (s : Shared) (ws : List Value), ws.length = ks.length → BindsTo s fd ⟨[], ks.zip ws⟩ (ps.zip (perm π ws))
theorem kb_of {K : PySem.W.Frag} {mg : Str → Option Value} {x : Str} {st : Stmt} {ps ks : List Str} (D : Df K mg x st ps) (π : List Nat)
    (h : ∀ (kV doc pm : Value) (an : Option Addr) (cdv ct : Value) (ws : List Value), ws.length = ks.length → bindArgs (PySem.W.fnOf x x (defArgs st) (defBody st) (defScope st) .none kV doc pm an cdv ct) ⟨[], ks.zip ws⟩ = pure (ps.zip (perm π ws))) : Kb K mg x ps ks π := by
  obtain ⟨f, fd, hm, F, b⟩ := D.ex
  refine ⟨f, fd, hm, Fun_lk F, fun s ws hl => ?_⟩
  obtain ⟨oc, od, kV, doc, pm, an, cdv, ct, osl, rfl, lk, hcd⟩ := F.ex
  exact .of_eq (h kV doc pm an cdv ct ws hl)
def fKw (n : Nat) (π : List Nat) (F : Sls → Unit → Rs Unit D) (g : Fa M) : Fe M := fun δ m => (g δ m).bind fun ys m1 => if (perm π ys).length = n then unU m1 (F ((perm π ys).map .dat) ()) else .bad
theorem at_dats {G : Gx} {W : Wd M} {hb ow : Addr → Bool} {σ : L2.St} {H : Hp} {δ : Sls} {m : M} (a : At G 𝒲 W hb ow σ H δ m) : ∀ {ds : List D} {vs : List V}, RepAll G (hid (hdOf hb ow) H) ds vs → At G 𝒲 W (hdOf hb ow) (fun _ => false) (vs.map some) H (ds.map .dat) m
  | [], vs, r => by
    obtain rfl : vs = [] := r
    exact at_nil a
  | d :: ds, vs, r => by
    obtain ⟨v, vs, rfl, r1, r2⟩ := r
    refine at_cons (at_dats a r2) (fun t h => by cases h) (s := .dat d) ⟨v, rfl, ?_⟩
    have e0 : (fun b => hdOf hb ow b || false) = hdOf hb ow := by funext b; simp
    rw [e0]
    exact r1
/-- how many values a list of arguments gives -/
def GL (n : Nat) (g : Fa M) : Prop := ∀ δ m ys m1, g δ m = .ok ys m1 → ys.length = n
theorem gl_nil : GL 0 (fNil : Fa M) := fun δ m ys m1 h => by
  unfold fNil at h
  cases h; rfl
theorem gl_cons {n : Nat} {f : Fe M} {g : Fa M} (h : GL n g) : GL (n + 1) (fCons f g) := fun δ m ys m1 e => by
  unfold fCons at e
  cases h1 : f δ m with
  | bad => rw [h1] at e; cases e
  | exc x m2 => rw [h1] at e; cases e
  | ok x m2 =>
    rw [h1] at e
    simp only [Rs.bind] at e
    cases h2 : g δ m2 with
    | bad => rw [h2] at e; cases e
    | exc x m3 => rw [h2] at e; cases e
    | ok xs m3 =>
      rw [h2] at e
      simp only at e
      cases e
      rw [List.length_cons, h _ _ _ _ h2]
theorem de_fnKw {x : Str} {ps ks : List Str} {π : List Nat} {k n : Nat} {F : Sls → Unit → Rs Unit DL.D} {p pos : Pos} {kws : List Keyword} {g : Fa M} (D : Fd X.prog X.w X.K X.mg X.base x ps k (spD ⟨X.K, cn⟩ w0 n F)) (B : Kb X.K X.mg x ps ks π) (hr : Room k X.A) (hx : Passes (L2.CX X.prog X.w) X E) (ha : DK X cn 𝒲 E kws g)
    (hl : ks.length = kws.length := by rfl) (hg : Gl X x := by rfl) (hall : (backToKw pos (keywordEach kws X.env)).all (·.1.isSome) = true := by rfl) (hks : (backToKw pos (keywordEach kws X.env)).filterMap (·.1) = ks := by rfl) (hdb : (x == ("__debug__" : Str)) = false := by decide)
    (hpl : ((backTo pos (starEach [] X.env)).any (·.1) || (backToKw pos (keywordEach kws X.env)).any (·.1.isNone)) = false := by rfl) (hgl : GL ks.length g := by repeat (first | exact gl_nil | refine gl_cons ?_)) :
    DE X cn 𝒲 E (.Call (.Name x p) [] kws pos) (fKw n π F g) := by
  obtain ⟨f, fd, hm, hk, hb, Fo, oc, od, osl, lk⟩ := D.ex
  obtain ⟨f', fd', hm', ⟨oc', od', osl', lk'⟩, bn⟩ := B.ex
  rw [hm] at hm'
  cases hm'
  rw [lk] at lk'
  cases lk'
  refine ⟨fun pins s σ H Q I h => ?_⟩
  obtain ⟨W, hb, ow, δ, m, at0, p⟩ := h
  unfold fKw at p
  have core : tDA ⟨X.K, cn⟩ 𝒲 E g σ H fun zs H2 => zs.length = ks.length ∧ spD ⟨X.K, cn⟩ w0 n F (perm π zs) H2 Q E := by
    refine ⟨W, hb, ow, δ, m, at0, ?_⟩
    cases hf : g δ m with
    | bad => rw [hf] at p; exact p
    | exc x m1 => rw [hf] at p; exact p
    | ok ys m1 =>
      rw [hf] at p
      intro vs H1 s1 r1 rx
      have a1 := at0.step s1 r1
      simp only [Rs.bind] at p
      by_cases hn : (perm π ys).length = n
      · rw [if_pos hn] at p
        have rp := perm_rep π rx
        refine ⟨by rw [RepAll.length rx, hgl δ m ys m1 hf], by rw [RepAll.length rp]; exact hn, wd0, hdOf hb ow, (perm π ys).map .dat, (), unworld (at_dats a1 rp) fun i j hk => ?_, post_unU (W := W) a1.r (Post.from_ s1 p)⟩
        rw [List.getElem?_map] at hk
        cases q : (perm π ys)[i]? with
        | none => rw [q] at hk; cases hk
        | some d => rw [q] at hk; cases hk
      · rw [if_neg hn] at p
        exact False.elim p
  refine wpAny_Call_Name_kw (ld_glob I hg hm ?_ hdb)
  refine PySem.W.callWith_KW0 (h₀ := X.base) I.ok.mod.kin hk hall (thn (ha.run pos pins s σ H _ I core) fun ws s2 ⟨zs, H2, I2, rz, l1, q2⟩ => ⟨I2.kIn, ?_⟩) hpl
  rw [hks]
  refine wpAny_call (codeAny_mono (Fo.run X.A X.stack s2 H2 ⟨[], ks.zip ws⟩ (perm π ws) (perm π zs) Q E hr I2.env0 (bn s2 ws (rz.length.symm.trans l1)) (perm_vals π rz) q2) fun r s' hq => ?_)
  cases r with
  | error e => exact hx pins σ H2 s2 e s' I2 hq
  | ok fl =>
    cases fl with
    | ret u => exact I2.after hq
    | next => exact False.elim hq
    | brk => exact False.elim hq
    | cont => exact False.elim hq
end
/-! ### a star def as the top leaves it -/
structure DfS (K : PySem.W.Frag) (mg : Str → Option Value) (x : Str) (st : Stmt) (pv : Str) : Prop where
  ex : ∃ (f : Addr) (fd : FuncData), mg x = some (.ref f) ∧ Fun K x x st f fd ∧ ∀ (kV doc pm : Value) (an : Option Addr) (cdv ct : Value) (rest : List Value),
    bindArgs (PySem.W.fnOf x x (defArgs st) (defBody st) (defScope st) .none kV doc pm an cdv ct) ⟨rest, []⟩ = (newTuple rest >>= fun t => pure [(pv, t)])
section
variable {P : Program} {w : World} {K : PySem.W.Frag} {mg : Str → Option Value} {base : Heap}
theorem DfS.fd {x pv : Str} {st : Stmt} {N : List Str} {k : Nat} {cn : Str → Addr} {g : Fs Unit} (D : DfS K mg x st pv) (S : FnScope N [pv] (defScope st))
    (hb : ∀ (f : Addr) (cdv : Value) (A : Around) (outer : List Env) (s : Shared) (H : Hp) (E : XK), Room k (A.deeper (envOfC x (defScope st) s.heap.objs.size f cdv)) →
      PSs (cxOf (L2.CX P w) P w K mg base N x (defScope st) f cdv A outer s H E) (defBody st) (tS ⟨K, cn⟩ w0 E g)) :
    Fst P w K mg base x (k + 1) (spSt ⟨K, cn⟩ (runF N.length g)) := by
  obtain ⟨f, fd, hm, F, b⟩ := D.ex
  obtain ⟨oc, od, kV, doc, pm, an, cdv, ct, osl, rfl, lk, hcd⟩ := F.ex
  refine ⟨f, hm, F.kp, FnR.imp (StX.fn_star (ps := []) (pv := pv) (sp := spD ⟨K, cn⟩ w0 1 (runF N.length g)) lk hcd S StX.cxUp (fun us rest hl => ?_) fun A outer s H vs Q E hr h => ⟨_, hb f cdv A outer s H E hr, body_start h⟩) fun vs H Q E ⟨h1, h2⟩ => ⟨[], vs, rfl, rfl, h1, h2⟩⟩
  obtain rfl : us = [] := List.eq_nil_of_length_eq_zero hl
  exact b kV doc pm an cdv ct rest
end
end DL

/-! isinstance of data, methods of texts, zip, defs that call themselves. -/
namespace DL
open PySem PySem.Spec PyProof.Rows L2

/-! ### isinstance -/
def tyD : D → String
  | .non => "NoneType"
  | .bl _ => "bool"
  | .int _ => "int"
  | .str _ => "str"
  | .lst _ => "list"
  | .tup _ => "tuple"
  | _ => "object"
def isTy (a b : String) : Bool := a == b || (b == "int" && a == "bool")
def D.plain : D → Bool
  | .ins _ _ _ => false
  | .dK _ _ => false
  | .dT _ _ => false
  | _ => true
def fIs {M : Type} (Ts : List String) (f : Fe M) : Fe M := fun δ m => (f δ m).bind fun x m1 => if x.plain = true then .ok (.bl (Ts.any (isTy (tyD x)))) m1 else .bad
theorem tyx_of {G : Gx} {H : Hp} {hd : Addr → Bool} {d : D} {v : V} (hp : d.plain = true) (r : Rep G (hid hd H) d v) : TyX G.K H v (.type (tyD d)) := by
  cases d with
  | non => cases r; exact .base .non
  | bl b => cases r; exact .base (.bl b)
  | int i => cases r; exact .base (.int i)
  | str z => cases r.1; exact .base (.str z)
  | lst ds =>
    obtain ⟨a, xs, rfl, h, _⟩ := r
    exact .base (.lst (hid_some.mp h).2)
  | tup ds =>
    obtain ⟨a, xs, rfl, h, _⟩ := r
    rcases Same.sqT hid_self h with (h | ⟨o, h⟩) | ⟨o, its, n, hk, hc, _⟩
    · exact .base (.tup h)
    · exact .fTuple h
    · exact .kTuple hk hc
  | ins c ns ds => cases hp
  | dK ks ds => cases hp
  | dT ks ds => cases hp
theorem kitB_of {d : D} (hp : d.plain = true) {T : String} (hT : T = "bool" ∨ T = "int" ∨ T = "str" ∨ T = "list" ∨ T = "tuple") : kitB (tyD d) T = some (isTy (tyD d) T) := by
  cases d <;> (try cases hp) <;> rcases hT with rfl | rfl | rfl | rfl | rfl <;> (simp only [tyD]; decide +kernel)
section
variable {M : Type} {X : Cx} {cn : Str → Addr} {𝒲 : Wd M → Prop} {E : XK}
theorem de_isi {T : String} {x y : Str} {p p2 pos : Pos} {e : Expr} {f : Fe M} (hg : Gl X x) (hm : X.mg x = none) (hv : bootBuiltins x = some (.builtin "isinstance")) (hgT : Gl X y) (hmT : X.mg y = none) (hvT : bootBuiltins y = some (.type T)) (hT : T = "bool" ∨ T = "int" ∨ T = "str" ∨ T = "list" ∨ T = "tuple") (he : DE X cn 𝒲 E e f)
    (hn : x ≠ "__name__" := by decide) (hdb : (x == ("__debug__" : Str)) = false := by decide) (hnT : y ≠ "__name__" := by decide) (hdbT : (y == ("__debug__" : Str)) = false := by decide)
    (hs1 : starEach [.Name y p2] X.env = (false, eval (.Name y p2) X.env) :: starEach [] X.env := by rfl) (hs : starEach [e, .Name y p2] X.env = (false, eval e X.env) :: starEach [.Name y p2] X.env := by rfl) (hpl : (backTo pos (starEach [.Name y p2] X.env)).any (·.1) = false := by rfl) :
    DE X cn 𝒲 E (.Call (.Name x p) [e, .Name y p2] [] pos) (fIs [T] f) := by
  refine PE.imp (pe_callB call_isi hg hm hv (pa_cons he (pa_cons (pe_bltn hgT hmT hvT (show RelV (.ty T) (.type T) from rfl) hnT hdbT) pa_nil hs1) hs) hn hdb hs hpl) fun σ H Q h => ?_
  obtain ⟨W, hb, ow, δ, m, at0, p⟩ := h
  refine (show tD _ 𝒲 E f σ H _ from ⟨W, hb, ow, δ, m, at0, ?_⟩)
  unfold fIs at p
  cases hf : f δ m with
  | bad => rw [hf] at p; exact p
  | exc x m1 => rw [hf] at p; exact p
  | ok d m1 =>
    rw [hf] at p
    intro v H1 s1 r1 rx
    simp only [Rs.bind] at p
    by_cases hp : d.plain = true
    · rw [if_pos hp] at p
      refine ⟨v, .ty T, _, _, isTy (tyD d) T, rfl, .ty T, tyx_of hp rx, kit_ty (kitB_of hp hT), ?_⟩
      refine p _ H1 s1 r1 ?_
      show V.bl _ = V.bl _
      simp
    · rw [if_neg hp] at p; exact False.elim p
theorem de_isi2 {T U : String} {x y z : Str} {p p2 p3 tpos pos : Pos} {k : Nat} {e : Expr} {f : Fe M} (hg : Gl X x) (hm : X.mg x = none) (hv : bootBuiltins x = some (.builtin "isinstance")) (hgT : Gl X y) (hmT : X.mg y = none) (hvT : bootBuiltins y = some (.type T)) (hT : T = "bool" ∨ T = "int" ∨ T = "str" ∨ T = "list" ∨ T = "tuple")
    (hgU : Gl X z) (hmU : X.mg z = none) (hvU : bootBuiltins z = some (.type U)) (hU : U = "bool" ∨ U = "int" ∨ U = "str" ∨ U = "list" ∨ U = "tuple") (he : DE X cn 𝒲 E e f)
    (hn : x ≠ "__name__" := by decide) (hdb : (x == ("__debug__" : Str)) = false := by decide) (hnT : y ≠ "__name__" := by decide) (hdbT : (y == ("__debug__" : Str)) = false := by decide) (hnU : z ≠ "__name__" := by decide) (hdbU : (z == ("__debug__" : Str)) = false := by decide)
    (ht1 : starEach [.Name z p3] X.env = (false, eval (.Name z p3) X.env) :: starEach [] X.env := by rfl) (ht2 : starEach [.Name y p2, .Name z p3] X.env = (false, eval (.Name y p2) X.env) :: starEach [.Name z p3] X.env := by rfl)
    (hs1 : starEach [.Tuple [.Name y p2, .Name z p3] k tpos] X.env = (false, eval (.Tuple [.Name y p2, .Name z p3] k tpos) X.env) :: starEach [] X.env := by rfl) (hs : starEach [e, .Tuple [.Name y p2, .Name z p3] k tpos] X.env = (false, eval e X.env) :: starEach [.Tuple [.Name y p2, .Name z p3] k tpos] X.env := by rfl) (hpl : (backTo pos (starEach [.Tuple [.Name y p2, .Name z p3] k tpos] X.env)).any (·.1) = false := by rfl) :
    DE X cn 𝒲 E (.Call (.Name x p) [e, .Tuple [.Name y p2, .Name z p3] k tpos] [] pos) (fIs [T, U] f) := by
  refine PE.imp (pe_callB call_isiT hg hm hv (pa_cons he (pa_cons (pe_tup (pa_cons (pe_bltn hgT hmT hvT (show RelV (.ty T) (.type T) from rfl) hnT hdbT) (pa_cons (pe_bltn hgU hmU hvU (show RelV (.ty U) (.type U) from rfl) hnU hdbU) pa_nil ht1) ht2)) pa_nil hs1) hs) hn hdb hs hpl) fun σ H Q h => ?_
  obtain ⟨W, hb, ow, δ, m, at0, p⟩ := h
  refine (show tD _ 𝒲 E f σ H _ from ⟨W, hb, ow, δ, m, at0, ?_⟩)
  unfold fIs at p
  cases hf : f δ m with
  | bad => rw [hf] at p; exact p
  | exc x m1 => rw [hf] at p; exact p
  | ok d m1 =>
    rw [hf] at p
    intro v H1 s1 r1 rx
    simp only [Rs.bind] at p
    by_cases hp : d.plain = true
    · rw [if_pos hp] at p
      refine ⟨by show 2 ≤ sizeLine; decide, fun t ht => ?_⟩
      have sm : Same H1 (upd H1 t (.tup [.ty T, .ty U])) := fun a o ha => by rw [upd_ne (fun e => by subst e; rw [ht] at ha; cases ha)]; exact ha
      have a1 := at0.step s1 r1
      have hin : Same (hid (hdOf hb ow) H1) (hid (hdOf hb ow) (upd H1 t (.tup [.ty T, .ty U]))) := fun a o ha => hid_some.mpr ⟨(hid_some.mp ha).1, sm _ _ (hid_some.mp ha).2⟩
      refine ⟨v, t, [.ty T, .ty U], _, [.type T, .type U], [T, U].any (isTy (tyD d)), rfl, upd_same, .cons (.ty T) (.cons (.ty U) .nil), tyx_of hp (Rep.mono hin d rx), ?_, ?_⟩
      · refine kitAny_cons (kit_ty (kitB_of hp hT)) (fun h1 => ?_) (fun h1 => by simp [h1])
        refine kitAny_cons (kit_ty (kitB_of hp hU)) (fun h2 => ?_) (fun h2 => by simp [h2])
        simp [h1, h2, PySem.W.kitAny]
      · exact post_of s1 r1 p sm rfl
    · rw [if_neg hp] at p; exact False.elim p

/-! ### a text's method of one argument -/
def fS2 (o : Str → D → Option D) (f g : Fe M) : Fe M := fun δ m => (f δ m).bind fun x m1 => match x with
  | .str z => (g δ m1).bind fun y m2 => ofO m2 (o z y)
  | _ => .bad
theorem lift_s2 {G : Gx} {σ : L2.St} {H : Hp} {Q : VK} {r : V → List V → Hp → VK → Prop} {o : Str → D → Option D} {f g : Fe M}
    (hr : RD2 G (fun x y H Q => r x [y] H Q) (fun x y => match x with | .str z => o z y | _ => none)) (h : tD G 𝒲 E (fS2 o f g) σ H Q) : tM1 r (tD G 𝒲 E f) (tD G 𝒲 E g) σ H Q := by
  obtain ⟨W, hb, ow, δ, m, at0, p⟩ := h
  refine ⟨W, hb, ow, δ, m, at0, ?_⟩
  unfold fS2 at p
  cases hf : f δ m with
  | bad => rw [hf] at p; exact p
  | exc x m1 => rw [hf] at p; exact p
  | ok x m1 =>
    rw [hf] at p
    intro v H1 s1 r1 rx
    have a1 := at0.step s1 r1
    simp only [Rs.bind] at p
    match x, p, rx with
    | .str z, p, rx =>
      replace p := Post.from_ s1 p
      refine ⟨⟨z, rx.1⟩, W, hb, ow, δ, m1, a1, ?_⟩
      simp only at p
      cases hg : g δ m1 with
      | bad => rw [hg] at p; exact p
      | exc x2 m2 => rw [hg] at p; exact p
      | ok y m2 =>
        rw [hg] at p
        intro u H2 s2 r2 ry
        have a2 := a1.step s2 r2
        simp only at p
        cases ho : o z y with
        | none => rw [ho] at p; exact False.elim p
        | some d =>
          rw [ho] at p
          exact hr _ H2 (.str z) y d v u Q a2.new (Rep.mono (a1.same s2) (.str z) rx) ry ho fun w H3 e rw_ => post_of s2 r2 p e rw_
def oIndex (a : Str) : D → Option D
  | .str b => match Builtin.Str.occurrences a b 0 a.length 1 with
    | i :: _ => some (.int (i : Nat))
    | [] => none
  | _ => none
theorem de_index {o e : Expr} {apos pos : Pos} {f g : Fe M} (ho : DE X cn 𝒲 E o f) (he : DE X cn 𝒲 E e g) (hs : starEach [e] X.env = [(false, eval e X.env)] := by rfl) (hbase : attributeBase o "index" X.env (eval o X.env) = eval o X.env := by rfl) (hline : (apos.endLine == pos.line) = true := by rfl) :
    DE X cn 𝒲 E (.Call (.Attribute o "index" apos) [e] [] pos) (fS2 oIndex f g) := by
  refine PE.imp (pe_m1 PySem.F.slot_str_index PySem.F.type_str_index mt_sindex ho he hs hbase hline) fun σ H Q h => lift_s2 ?_ h
  intro hd H x y d v u Q hn rx ry ho k
  cases x with
  | str a =>
    obtain ⟨rfl, _⟩ := rx
    cases y with
    | str b =>
      obtain ⟨rfl, _⟩ := ry
      simp only [oIndex] at ho
      cases hq : Builtin.Str.occurrences a b 0 a.length 1 with
      | nil => rw [hq] at ho; cases ho
      | cons i rest =>
        rw [hq] at ho
        cases ho
        exact ⟨a, b, i, rest, rfl, rfl, hq, k _ H (Same.refl _) rfl⟩
    | _ => cases ho
  | _ => cases ho

/-! ### zip -/
def zipD : List D → List D → List D
  | x :: xs, y :: ys => .tup [x, y] :: zipD xs ys
  | _, _ => []
theorem zipD_len : ∀ (xs ys : List D), (zipD xs ys).length = min xs.length ys.length
  | x :: xs, y :: ys => by simp only [zipD, List.length_cons, zipD_len xs ys]; omega
  | [], ys => by simp [zipD]
  | x :: xs, [] => by simp [zipD]
theorem zipD_get : ∀ (xs ys : List D) (i : Nat) (x y : D), xs[i]? = some x → ys[i]? = some y → (zipD xs ys)[i]? = some (.tup [x, y])
  | a :: xs, b :: ys, 0, x, y, h1, h2 => by
    cases h1; cases h2; rfl
  | a :: xs, b :: ys, i + 1, x, y, h1, h2 => zipD_get xs ys i x y h1 h2
  | [], ys, i, x, y, h1, h2 => by cases h1
  | a :: xs, [], i, x, y, h1, h2 => by cases h2
def fZip (g : Fa M) : Fa M := fun δ m => (g δ m).bind fun xs m1 => match xs with
  | [.lst a, .lst b] => .ok (zipD a b) m1
  | [.tup a, .tup b] => .ok (zipD a b) m1
  | _ => .bad
theorem walk_zipT {K : PySem.W.Frag} {a b : Addr} {us ws : List V} {n : Nat} (hn : n = min us.length ws.length) : Walk (RZ.ItzT K a b) n (fun H => SqT K H a us ∧ SqT K H b ws) (YPair (fun i => us[i]?) (fun i => ws[i]?)) where
  goes k H hk st := by
    have hu : k < us.length := Nat.lt_of_lt_of_le (hn ▸ hk) (Nat.min_le_left ..)
    have hw : k < ws.length := Nat.lt_of_lt_of_le (hn ▸ hk) (Nat.min_le_right ..)
    exact ⟨us, ws, us[k]'hu, ws[k]'hw, st.1, st.2, List.getElem?_eq_getElem hu, List.getElem?_eq_getElem hw⟩
  stops H st := by
    refine ⟨us, ws, st.1, st.2, ?_⟩
    rcases Nat.le_total us.length ws.length with le | le
    · exact .inl (by rw [hn, Nat.min_eq_left le]; exact Nat.le_refl _)
    · exact .inr (by rw [hn, Nat.min_eq_right le]; exact Nat.le_refl _)
  yields k H v H2 _ st pr := by
    obtain ⟨tp, l, r, ev, fresh, laid, ofU, ofW⟩ := pr
    exact ⟨tp, l, r, ev, fresh, laid, ofU us st.1, ofW ws st.2⟩
theorem pair_yield {G : Gx} {H2 H3 : Hp} {hd2 : Addr → Bool} {H : Hp} {hd : Addr → Bool} {ds es : List D} {xs ys : List V} {i : Nat} {x : V} (s : Same (hid hd H) (hid hd2 H2)) (f : ∀ p, H2 p = none → hd2 p = false) (rx : RepAll G (hid hd H) ds xs) (ry : RepAll G (hid hd H) es ys)
    (y : YPair (fun i => xs[i]?) (fun i => ys[i]?) i H2 x H3) : Same H2 H3 ∧ ∃ d, (zipD ds es)[i]? = some d ∧ Rep G (hid hd2 H3) d x := by
  obtain ⟨T, u, z, rfl, hT, rfl, hx, hy⟩ := y
  obtain ⟨d1, e1, r1⟩ := RepAll.get rx hx
  obtain ⟨d2, e2, r2⟩ := RepAll.get ry hy
  have sm : Same H2 (upd H2 T (.tup [u, z])) := fun a o ha => by rw [upd_ne (fun e => by subst e; rw [hT] at ha; cases ha)]; exact ha
  have hin : Same (hid hd2 H2) (hid hd2 (upd H2 T (.tup [u, z]))) := fun a o ha => hid_some.mpr ⟨(hid_some.mp ha).1, sm _ _ (hid_some.mp ha).2⟩
  refine ⟨sm, .tup [d1, d2], zipD_get ds es i d1 d2 e1 e2, ?_⟩
  exact ⟨T, [u, z], rfl, .inl (.inl (hid_some.mpr ⟨f T hT, upd_same⟩)), ⟨u, [z], rfl, Rep.mono hin d1 (Rep.mono s d1 r1), ⟨z, [], rfl, Rep.mono hin d2 (Rep.mono s d2 r2), rfl⟩⟩⟩
theorem di_zip {e e2 : Expr} {g : Fa M} {p pos tpos : Pos} {elts : List Expr} {kk : Nat} (hg : Gl X "zip") (hm : X.mg "zip" = none) (ha : DA X cn 𝒲 E [e, e2] g)
    (hs : starEach [e, e2] X.env = (false, eval e X.env) :: starEach [e2] X.env := by rfl) (hpl : (backTo pos (starEach [e2] X.env)).any (·.1) = false := by rfl) :
    DI X cn 𝒲 E (.Tuple elts kk tpos) (.Call (.Name "zip" p) [e, e2] [] pos) (fZip g) := by
  refine PI.imp (RZ.pi_zipA hg hm ha hs hpl) fun σ H R q => ?_
  obtain ⟨W, hb, ow, δ, m, a, p⟩ := q
  refine (show tDA _ 𝒲 E g σ H _ from ⟨W, hb, ow, δ, m, a, ?_⟩)
  unfold fZip at p
  cases hf : g δ m with
  | bad => rw [hf] at p; exact p
  | exc x m1 => rw [hf] at p; exact p
  | ok xs m1 =>
    rw [hf] at p
    intro vs H1 s1 r1 rv
    simp only [Rs.bind] at p
    have a1 := a.step s1 r1
    match xs, p, rv with
    | [.lst x, .lst y], p, rv =>
      obtain ⟨v1, r', rfl, ⟨b1, us1, rfl, k1, q1⟩, ⟨v2, r'', rfl, ⟨b2, us2, rfl, k2, q2⟩, rfl⟩⟩ := rv
      have h1 := (hid_some.mp k1).2
      have h2 := (hid_some.mp k2).2
      refine ⟨b1, b2, us1, us2, rfl, .inl ⟨.inl (.inl h1), .inl (.inl h2), p _ H1 s1 r1 ?_⟩⟩
      refine ⟨_, _, walk_zip (xs := us1) (ys := us2) (by rw [zipD_len, RepAll.length q1, RepAll.length q2]), fun o2 H2 k => ?_, fun i H2 x H3 o2 hd2 hi k s f y => pair_yield s f q1 q2 y⟩
      exact ⟨.inl (.inl (hid_some.mp (Keep.same (G := ⟨X.K, cn⟩) a1.env.wa k _ _ k1)).2), .inl (.inl (hid_some.mp (Keep.same (G := ⟨X.K, cn⟩) a1.env.wa k _ _ k2)).2)⟩
    | [.tup x, .tup y], p, rv =>
      obtain ⟨v1, r', rfl, ⟨b1, us1, rfl, k1, q1⟩, ⟨v2, r'', rfl, ⟨b2, us2, rfl, k2, q2⟩, rfl⟩⟩ := rv
      refine ⟨b1, b2, us1, us2, rfl, .inr ⟨Same.sqT hid_self k1, Same.sqT hid_self k2, p _ H1 s1 r1 ?_⟩⟩
      refine ⟨_, _, walk_zipT (us := us1) (ws := us2) (by rw [zipD_len, RepAll.length q1, RepAll.length q2]), fun o2 H2 k => ?_, fun i H2 x H3 o2 hd2 hi k s f y => pair_yield s f q1 q2 y⟩
      exact ⟨Same.sqT hid_self (Same.sqT (Keep.same (G := ⟨X.K, cn⟩) a1.env.wa k) k1), Same.sqT hid_self (Same.sqT (Keep.same (G := ⟨X.K, cn⟩) a1.env.wa k) k2)⟩

/-! ### a def that calls itself -/
theorem ds_bad {ss : List Stmt} : DSs X cn 𝒲 E ss (fun _ _ => .bad) := ⟨fun pins s σ H Dn I h => by
  obtain ⟨W, hb, ow, δ, m, at0, p⟩ := h
  exact False.elim p⟩
end
section
variable {P : Program} {w : World} {K : PySem.W.Frag} {mg : Str → Option Value} {base : Heap} {M : Type}
theorem Df.bad {x : Str} {st : Stmt} {N ps : List Str} {k : Nat} {cn : Str → Addr} {𝒲 : Wd M → Prop} (D : Df K mg x st ps) (S : FnScope N ps (defScope st)) :
    Fd P w K mg base x ps (k + 1) (spD ⟨K, cn⟩ 𝒲 ps.length (fun _ (_ : M) => .bad)) := by
  have h := Df.fd (P := P) (w := w) (base := base) (N := N) (k := k) (g := fun _ (_ : M) => .bad) (cn := cn) (𝒲 := 𝒲) D S (fun f cdv A outer s H E hr => ds_bad)
  exact Fd.to h fun as m hl => .inl rfl
end
end DL

/-! The plain side: how the functions on data answer. -/
namespace DL
open PySem PySem.Spec PyProof.Rows L2

section
variable {M : Type} {δ δ1 δ2 : Sls} {m m1 m2 m3 : M}
theorem ev_seq {g h : Fs M} (e : g δ m = .nx δ1 m1) : sSeq g h δ m = h δ1 m1 := by unfold sSeq; rw [e]
theorem ev_seqR {g h : Fs M} {d : D} (e : g δ m = .rt d m1) : sSeq g h δ m = .rt d m1 := by unfold sSeq; rw [e]
theorem ev_seqX {g h : Fs M} {x : Exn} (e : g δ m = .exc x m1) : sSeq g h δ m = .exc x m1 := by unfold sSeq; rw [e]
theorem ev_if {t : Ft M} {g h : Fs M} {b : Bool} (e : t δ m = .ok b m1) : sIf t g h δ m = if b = true then g δ m1 else h δ m1 := by unfold sIf; rw [e]
theorem ev_set {i : Nat} {f : Fe M} {d : D} (e : f δ m = .ok d m1) : sSet i f δ m = .nx (δ.set i (.dat d)) m1 := by unfold sSet; rw [e]
theorem ev_ret {f : Fe M} {d : D} (e : f δ m = .ok d m1) : sRet f δ m = .rt d m1 := by unfold sRet; rw [e]
theorem ev_for {f : Fa M} {t : Ftg} {g : Fs M} {ds : List D} (e : f δ m = .ok ds m1) : sFor f t g δ m = forL t g ds δ m1 := by unfold sFor; rw [e]
theorem ev_f2 {o : D → D → Option D} {f g : Fe M} {x y d : D} (e1 : f δ m = .ok x m1) (e2 : g δ m1 = .ok y m2) (h : o x y = some d) : f2 o f g δ m = .ok d m2 := by
  unfold f2; rw [e1]; simp only [Rs.bind]; rw [e2]; simp only [Rs.bind]; rw [h]; rfl
theorem ev_fB {f : Fe M} {b : Bool} (e : f δ m = .ok (.bl b) m1) : fB f δ m = .ok b m1 := by unfold fB; rw [e]; rfl
theorem ev_cons {f : Fe M} {g : Fa M} {x : D} {xs : List D} (e1 : f δ m = .ok x m1) (e2 : g δ m1 = .ok xs m2) : fCons f g δ m = .ok (x :: xs) m2 := by
  unfold fCons; rw [e1]; simp only [Rs.bind]; rw [e2]
theorem ev_CB {o : List D → Option D} {g : Fa M} {xs : List D} {d : D} (e : g δ m = .ok xs m1) (h : o xs = some d) : fCB o g δ m = .ok d m1 := by
  unfold fCB; rw [e]; simp only [Rs.bind]; rw [h]; rfl
theorem ev_saD {f : Fe M} {g : Fsl M} {x : D} {xs : List Sl} (e1 : f δ m = .ok x m1) (e2 : g δ m1 = .ok xs m2) : saD f g δ m = .ok (.dat x :: xs) m2 := by
  unfold saD; rw [e1]; simp only [Rs.bind]; rw [e2]
theorem ev_callN {n : Nat} {F : Sls → M → Rs M D} {g : Fsl M} {as : List Sl} {d : D} (e : g δ m = .ok as m1) (hn : as.length = n) (h : F as m1 = .ok d m2) : fCallN n F g δ m = .ok d m2 := by
  unfold fCallN; rw [e]; simp only [Rs.bind]; rw [if_pos hn, h]
theorem ev_callU {n : Nat} {F : Sls → Unit → Rs Unit D} {g : Fsl M} {as : List Sl} {d : D} (e : g δ m = .ok as m1) (hn : as.length = n ∧ as.all noH = true) (h : F as () = .ok d ()) : fCallU n F g δ m = .ok d m1 := by
  unfold fCallU; rw [e]; simp only [Rs.bind]; rw [if_pos hn, h]
theorem ev_run {n : Nat} {g : Fs M} {as : Sls} {d : D} (e : g (as ++ List.replicate (n - as.length) .un) m = .rt d m1) : runF n g as m = .ok d m1 := by unfold runF; rw [e]
theorem ev_runN {n : Nat} {g : Fs M} {as : Sls} (e : g (as ++ List.replicate (n - as.length) .un) m = .nx δ1 m1) : runF n g as m = .ok .non m1 := by unfold runF; rw [e]
theorem forL_cons {t : Ftg} {g : Fs M} {d : D} {ds : List D} (e1 : t d δ = some δ1) (e2 : g δ1 m = .nx δ2 m2) : forL t g (d :: ds) δ m = forL t g ds δ2 m2 := by
  conv => lhs; unfold forL
  rw [e1]; simp only []
  rw [e2]
theorem lcL_cons {t : Ftg} {tt : Ft M} {te : Fe M} {y : D} {ys ds : List D} {d : D} (e1 : t d δ = some δ1) (e2 : tt δ1 m = .ok true m1) (e3 : te δ1 m1 = .ok y m2) (e4 : lcL t tt te δ ds m2 = .ok ys m3) : lcL t tt te δ (d :: ds) m = .ok (y :: ys) m3 := by
  unfold lcL
  rw [e1]; simp only []
  rw [e2]; simp only []
  rw [e3]; simp only [Rs.bind]
  rw [e4]
theorem lcL_skip {t : Ftg} {tt : Ft M} {te : Fe M} {ds : List D} {d : D} (e1 : t d δ = some δ1) (e2 : tt δ1 m = .ok false m1) : lcL t tt te δ (d :: ds) m = lcL t tt te δ ds m1 := by
  conv => lhs; unfold lcL
  rw [e1]; simp only []
  rw [e2]
/-- a loop that keeps what it keeps -/
theorem forL_nx {t : Ftg} {g : Fs M} (I : Sls → M → Prop) : ∀ (ds : List D) (δ : Sls) (m : M), (∀ d ∈ ds, ∀ δ m, I δ m → ∃ δ1, t d δ = some δ1 ∧ ∃ δ2 m2, g δ1 m = .nx δ2 m2 ∧ I δ2 m2) → I δ m → ∃ δ2 m2, forL t g ds δ m = .nx δ2 m2 ∧ I δ2 m2
  | [], δ, m, _, h0 => ⟨δ, m, rfl, h0⟩
  | d :: ds, δ, m, h, h0 => by
    obtain ⟨δ1, e1, δ2, m2, e2, h2⟩ := h d (List.mem_cons_self ..) δ m h0
    obtain ⟨δ3, m3, e3, h3⟩ := forL_nx I ds δ2 m2 (fun x hx => h x (List.mem_cons_of_mem _ hx)) h2
    refine ⟨δ3, m3, ?_, h3⟩
    unfold forL
    rw [e1]; simp only []
    rw [e2]; exact e3
/-- two lists, item by item -/
inductive Al {α β : Type} (R : α → β → Prop) : List α → List β → Prop where
  | nil : Al R [] []
  | cons {x : α} {y : β} {xs : List α} {ys : List β} : R x y → Al R xs ys → Al R (x :: xs) (y :: ys)
/-- a list whose items all have a property, drawn one by one -/
theorem lcL_all {t : Ftg} {tt : Ft M} {te : Fe M} {δ0 : Sls} (J : M → Prop) (R : D → D → Prop) : ∀ (ds : List D) (m : M), (∀ d ∈ ds, ∀ m, J m → ∃ δ1, t d δ0 = some δ1 ∧ ∃ m1, tt δ1 m = .ok true m1 ∧ ∃ y m2, te δ1 m1 = .ok y m2 ∧ R d y ∧ J m2) → J m →
    ∃ ys m2, lcL t tt te δ0 ds m = .ok ys m2 ∧ Al R ds ys ∧ J m2
  | [], m, _, h0 => ⟨[], m, rfl, .nil, h0⟩
  | d :: ds, m, h, h0 => by
    obtain ⟨δ1, e1, m1, e2, y, m2, e3, hp, h2⟩ := h d (List.mem_cons_self ..) m h0
    obtain ⟨ys, m3, e4, h3, h4⟩ := lcL_all J R ds m2 (fun x hx => h x (List.mem_cons_of_mem _ hx)) h2
    refine ⟨y :: ys, m3, ?_, .cons hp h3, h4⟩
    unfold lcL
    rw [e1]; simp only []
    rw [e2]; simp only []
    rw [e3]; simp only [Rs.bind]
    rw [e4]
theorem ev_lc {fi : Fa M} {t : Ftg} {tt : Ft M} {te : Fe M} {vs : List Nat} {ds ys : List D} (e1 : fi δ m = .ok ds m1) (hl : ds.length < sizeLine) (e2 : lcL t tt te (wipeD (δ.map lend) vs) ds m1 = .ok ys m2) : fLc fi t tt te vs δ m = .ok (.lst ys) m2 := by
  unfold fLc; rw [e1]; simp only [Rs.bind]; rw [if_pos hl, e2]
theorem oAdd_lst {a b : List D} (h : a.length + b.length ≤ sizeLine) : oAdd (.lst a) (.lst b) = some (.lst (a ++ b)) := if_pos h
theorem forall2_len {α β : Type} {R : α → β → Prop} : ∀ {xs : List α} {ys : List β}, Al R xs ys → ys.length = xs.length
  | [], [], _ => rfl
  | _ :: _, _ :: _, .cons _ h => by simp [forall2_len h]
theorem forall2_mem {α β : Type} {R : α → β → Prop} : ∀ {xs : List α} {ys : List β}, Al R xs ys → ∀ y ∈ ys, ∃ x ∈ xs, R x y
  | [], [], _, y, h => by cases h
  | x :: _, y0 :: _, .cons h0 h, y, hy => by
    rcases List.mem_cons.mp hy with rfl | hy
    · exact ⟨x, List.mem_cons_self .., h0⟩
    · obtain ⟨x', h1, h2⟩ := forall2_mem h y hy
      exact ⟨x', List.mem_cons_of_mem _ h1, h2⟩
end

/-! ### the draws -/
structure OkB (m : Bag) : Prop where
  i : 0 ≤ m.i
  r0 : 0 ≤ m.r
  r1 : m.r < 2147483647
theorem okB0 (ns : List Int) : OkB ⟨ns, 0, 0, 3846⟩ := ⟨Int.le_refl 0, (by decide : (0 : Int) ≤ 3846), (by decide : (3846 : Int) < 2147483647)⟩
def gPull : Fs Bag :=
  sSeq (sIf (fAnd (fB (f2 oEq (fBag 0 2) (fC (.int 0)))) (fB (f2 oLt (fBag 0 1) (fBagLen 0)))) (sSeq (sSet 2 (fBagIx 0 (fBag 0 1))) (sSeq (sBag 0 1 (f2 oAdd (fBag 0 1) (fC (.int 1)))) (sIf (fB (f2 oGe (fCB oAbs (fCons (fVar 2) (fNil))) (f2 oPow (fC (.int 10)) (fC (.int 18))))) (sBag 0 2 (fCB oAbs (fCons (fVar 2) (fNil)))) (sBag 0 3 (f2 oMod (fCB oInt (fCons (f2 oAdd (f2 oAdd (f2 oMul (fBag 0 3) (fC (.int 48271))) (f2 oMul (f2 oMod (fCB oInt (fCons (fVar 2) (fNil))) (fC (.int 1000003))) (fC (.int 911)))) (fC (.int 7))) (fNil))) (fC (.int 2147483647))))))) (sNx)) (sSeq (sIf (fB (f2 oGt (fBag 0 2) (fC (.int 0)))) (sSeq (sSet 3 (f2 oMod (fCB oInt (fCons (fBag 0 2) (fNil))) (fVar 1))) (sSeq (sBag 0 2 (f2 oFdiv (fBag 0 2) (fVar 1))) (sRet (fVar 3)))) (sNx)) (sSeq (sSet 4 (f2 oMod (fCB oInt (fCons (f2 oMul (fBag 0 3) (fBag 0 3)) (fNil))) (fC (.int 2147483629)))) (sSeq (sBag 0 3 (f2 oMod (fCB oInt (fCons (f2 oAdd (f2 oAdd (f2 oMul (fVar 4) (fC (.int 16807))) (f2 oMul (fBag 0 3) (fC (.int 40692)))) (fC (.int 12345))) (fNil))) (fC (.int 2147483647)))) (sRet (f2 oMod (fCB oInt (fCons (f2 oFdiv (fBag 0 3) (fC (.int 64))) (fNil))) (fVar 1))))))
def gPull1 : Fs Bag := sIf (fAnd (fB (f2 oEq (fBag 0 2) (fC (.int 0)))) (fB (f2 oLt (fBag 0 1) (fBagLen 0)))) (sSeq (sSet 2 (fBagIx 0 (fBag 0 1))) (sSeq (sBag 0 1 (f2 oAdd (fBag 0 1) (fC (.int 1)))) (sIf (fB (f2 oGe (fCB oAbs (fCons (fVar 2) (fNil))) (f2 oPow (fC (.int 10)) (fC (.int 18))))) (sBag 0 2 (fCB oAbs (fCons (fVar 2) (fNil)))) (sBag 0 3 (f2 oMod (fCB oInt (fCons (f2 oAdd (f2 oAdd (f2 oMul (fBag 0 3) (fC (.int 48271))) (f2 oMul (f2 oMod (fCB oInt (fCons (fVar 2) (fNil))) (fC (.int 1000003))) (fC (.int 911)))) (fC (.int 7))) (fNil))) (fC (.int 2147483647))))))) (sNx)
def gPull2 : Fs Bag := (sSeq (sIf (fB (f2 oGt (fBag 0 2) (fC (.int 0)))) (sSeq (sSet 3 (f2 oMod (fCB oInt (fCons (fBag 0 2) (fNil))) (fVar 1))) (sSeq (sBag 0 2 (f2 oFdiv (fBag 0 2) (fVar 1))) (sRet (fVar 3)))) (sNx)) (sSeq (sSet 4 (f2 oMod (fCB oInt (fCons (f2 oMul (fBag 0 3) (fBag 0 3)) (fNil))) (fC (.int 2147483629)))) (sSeq (sBag 0 3 (f2 oMod (fCB oInt (fCons (f2 oAdd (f2 oAdd (f2 oMul (fVar 4) (fC (.int 16807))) (f2 oMul (fBag 0 3) (fC (.int 40692)))) (fC (.int 12345))) (fNil))) (fC (.int 2147483647)))) (sRet (f2 oMod (fCB oInt (fCons (f2 oFdiv (fBag 0 3) (fC (.int 64))) (fNil))) (fVar 1))))))
theorem gPull_eq : gPull = sSeq gPull1 gPull2 := rfl
theorem oEq_int (a b : Int) : oEq (.int a) (.int b) = some (.bl (a == b)) := by rfl
theorem oNe_int (a b : Int) : oNe (.int a) (.int b) = some (.bl (!(a == b))) := by rfl
theorem shaped_str {a : Str} (h : PyData.strOk a = true) : SeqAt.shaped (.str a) = true := by simp [SeqAt.shaped, PyData.canLay0, h, PyData.depth]
theorem oEq_str {a b : Str} (ha : PyData.strOk a = true) (hb : PyData.strOk b = true) : oEq (.str a) (.str b) = some (.bl (a == b)) := by
  show (if SeqAt.shaped (.str a) = true ∧ SeqAt.shaped (.str b) = true then some (D.bl (PyData.eqv (.str a) (.str b))) else none) = _
  rw [if_pos ⟨shaped_str ha, shaped_str hb⟩]
  rfl
theorem oNe_str {a b : Str} (ha : PyData.strOk a = true) (hb : PyData.strOk b = true) : oNe (.str a) (.str b) = some (.bl (!(a == b))) := by
  show (if SeqAt.shaped (.str a) = true ∧ SeqAt.shaped (.str b) = true then some (D.bl (!PyData.eqv (.str a) (.str b))) else none) = _
  rw [if_pos ⟨shaped_str ha, shaped_str hb⟩]
  rfl
theorem oEq_bl (a b : Bool) : oEq (.bl a) (.bl b) = some (.bl (a == b)) := by rfl
theorem oNe_bl (a b : Bool) : oNe (.bl a) (.bl b) = some (.bl (!(a == b))) := by rfl
theorem pow_18 : oPow (.int 10) (.int 18) = some (.int 1000000000000000000) := by rfl
theorem atI_get {α : Type} (xs : List α) (i : Int) (h0 : 0 ≤ i) (h1 : i < xs.length) : ∃ x, atI xs i = some x ∧ xs[i.toNat]? = some x ∧ x ∈ xs := by
  unfold atI ixN
  rw [if_pos h0, if_pos h1]
  have hl : i.toNat < xs.length := by omega
  refine ⟨xs[i.toNat], ?_, ?_, List.getElem_mem hl⟩
  · exact List.getElem?_eq_getElem hl
  · exact List.getElem?_eq_getElem hl
theorem pull1_ok {m : Bag} (h : OkB m) (n : Int) : ∃ s m', gPull1 [.hnd 0, .dat (.int n), .un, .un, .un] m = .nx [.hnd 0, .dat (.int n), s, .un, .un] m' ∧ OkB m' := by
  obtain ⟨cs, i, k, r⟩ := m
  obtain ⟨h1, h2, h3⟩ := h
  simp only at h1 h2 h3
  have hm1 : ∀ x : Int, 0 ≤ x % 2147483647 ∧ x % 2147483647 < 2147483647 := fun x => ⟨Int.emod_nonneg _ (by decide), Int.emod_lt_of_pos _ (by decide)⟩
  have a1 : -18446744073709551616 < r := by omega
  have a2 : r < 18446744073709551616 := by omega
  by_cases hk : k = 0
  · subst hk
    by_cases hi : i < cs.length
    · obtain ⟨c, hc, _⟩ := atI_get cs i h1 hi
      refine ⟨.dat (.int c), ?_⟩
      have b0 : 0 ≤ c % 1000003 ∧ c % 1000003 < 1000003 := ⟨Int.emod_nonneg _ (by decide), Int.emod_lt_of_pos _ (by decide)⟩
      by_cases hb : 1000000000000000000 ≤ (if c < 0 then -c else c)
      · refine ⟨⟨cs, i + 1, if c < 0 then -c else c, r⟩, ?_, ⟨by simp only; omega, h2, h3⟩⟩
        simp [gPull1, sIf, fAnd, fB, f2, fBag, fBagLen, fBagIx, fC, ofO, Rs.bind, Bag.get, Bag.set, oEq_int, oLt, hi, sSeq, sSet, hc, sBag, oAdd, oGe, fCB, fCons, fNil, fVar, oAbs, pow_18, hb]
      · refine ⟨⟨cs, i + 1, 0, (r * 48271 + c % 1000003 * 911 + 7) % 2147483647⟩, ?_, ⟨by simp only; omega, (hm1 _).1, (hm1 _).2⟩⟩
        simp [gPull1, sIf, fAnd, fB, f2, fBag, fBagLen, fBagIx, fC, ofO, Rs.bind, Bag.get, Bag.set, oEq_int, oLt, hi, sSeq, sSet, hc, sBag, oAdd, oGe, fCB, fCons, fNil, fVar, oAbs, pow_18, hb, oInt, oMul, oMod]
    · refine ⟨.un, ⟨cs, i, 0, r⟩, ?_, ⟨h1, h2, h3⟩⟩
      simp [gPull1, sIf, fAnd, fB, f2, fBag, fBagLen, fC, ofO, Rs.bind, Bag.get, oEq_int, oLt, hi, sNx]
  · refine ⟨.un, ⟨cs, i, k, r⟩, ?_, ⟨h1, h2, h3⟩⟩
    simp [gPull1, sIf, fAnd, fB, f2, fBag, fBagLen, fC, ofO, Rs.bind, Bag.get, oEq_int, oLt, hk, sNx]
theorem pull2_ok {m : Bag} (h : OkB m) (n : Int) (h0 : 0 < n) (hn : n < 1073741824) (s : Sl) : ∃ d m', gPull2 [.hnd 0, .dat (.int n), s, .un, .un] m = .rt (.int d) m' ∧ 0 ≤ d ∧ d < n ∧ OkB m' := by
  obtain ⟨cs, i, k, r⟩ := m
  obtain ⟨h1, h2, h3⟩ := h
  simp only at h1 h2 h3
  have hm1 : ∀ x : Int, 0 ≤ x % 2147483647 ∧ x % 2147483647 < 2147483647 := fun x => ⟨Int.emod_nonneg _ (by decide), Int.emod_lt_of_pos _ (by decide)⟩
  have hmn : ∀ x : Int, 0 ≤ x % n ∧ x % n < n := fun x => ⟨Int.emod_nonneg _ (by omega), Int.emod_lt_of_pos _ h0⟩
  have a1 : -18446744073709551616 < r := by omega
  have a2 : r < 18446744073709551616 := by omega
  by_cases hk : 0 < k
  · refine ⟨k % n, ⟨cs, i, k / n, r⟩, ?_, (hmn _).1, (hmn _).2, ⟨h1, h2, h3⟩⟩
    simp [gPull2, sIf, fB, f2, fBag, fC, ofO, Rs.bind, Bag.get, Bag.set, oGt, hk, sSeq, sSet, sBag, fCB, fCons, fNil, fVar, oInt, oMod, oFdiv, h0, hn, sRet]
  · refine ⟨((r * r % 2147483629 * 16807 + r * 40692 + 12345) % 2147483647 / 64) % n, ⟨cs, i, k, (r * r % 2147483629 * 16807 + r * 40692 + 12345) % 2147483647⟩, ?_, (hmn _).1, (hmn _).2, ⟨h1, (hm1 _).1, (hm1 _).2⟩⟩
    simp [gPull2, sIf, fB, f2, fBag, fC, ofO, Rs.bind, Bag.get, Bag.set, oGt, hk, sSeq, sSet, sBag, fCB, fCons, fNil, fVar, oInt, oMod, oFdiv, oMul, oAdd, h0, hn, sRet, sNx, a1, a2]
/-- the law's draw -/
def FPull : Sls → Bag → Rs Bag D := runF 5 gPull
theorem pull_ok {m : Bag} (h : OkB m) (n : Int) (h0 : 0 < n) (hn : n < 1073741824) : ∃ d m', FPull [.hnd 0, .dat (.int n)] m = .ok (.int d) m' ∧ 0 ≤ d ∧ d < n ∧ OkB m' := by
  obtain ⟨s, m1, e1, k1⟩ := pull1_ok h n
  obtain ⟨d, m2, e2, d0, d1, k2⟩ := pull2_ok k1 n h0 hn s
  refine ⟨d, m2, ?_, d0, d1, k2⟩
  unfold FPull
  refine ev_run (g := gPull) ?_
  rw [gPull_eq]
  exact (ev_seq e1).trans e2
def gOf : Fs Bag := sRet (f2 oIx (fVar 1) (fCallN 2 FPull (saV 0 (saD (fCB oLen (fCons (fVar 1) (fNil))) (saNil)))))
def FOf : Sls → Bag → Rs Bag D := runF 2 gOf
theorem of_ok {m : Bag} (h : OkB m) {x : D} {ds : List D} (hx : itemsOf x = some ds) (h0 : ds ≠ []) (hn : ds.length < 1073741824) : ∃ d m', FOf [.hnd 0, .dat x] m = .ok d m' ∧ d ∈ ds ∧ OkB m' := by
  have hl : 0 < ds.length := List.length_pos_iff.mpr h0
  obtain ⟨i, m1, e, i0, i1, k⟩ := pull_ok h (ds.length : Int) (by omega) (by omega)
  have hlen : oLen [x] = some (.int ds.length) := by
    cases x <;> simp only [itemsOf] at hx <;> (try contradiction)
    · rename_i z
      cases hx
      simp [oLen, signsOf, Str.length]
    · cases hx; rfl
    · cases hx; rfl
  obtain ⟨d, hd, _, hm⟩ := atI_get ds i i0 i1
  have hix : oIx x (.int i) = some d := by
    cases x <;> simp only [itemsOf] at hx <;> (try contradiction)
    · rename_i z
      cases hx
      simp only [oIx]
      simp only [signsOf, atI, List.length_map, List.getElem?_map] at hd
      rw [← hd]
      simp only [atI]
      cases ixN z.cps.toList.length i <;> rfl
    · cases hx; exact hd
    · cases hx; exact hd
  refine ⟨d, m1, ?_, hm, k⟩
  refine ev_run (ev_ret (ev_f2 (y := .int i) (m1 := m) rfl ?_ hix))
  refine ev_callN (m1 := m) (as := [.hnd 0, .dat (.int ds.length)]) ?_ rfl e
  unfold saV
  simp only [List.cons_append, List.nil_append, List.getElem?_cons_zero]
  have e2 : saD (fCB oLen (fCons (fVar 1) fNil)) saNil [.hnd 0, .dat x] m = .ok [.dat (.int ds.length)] m := ev_saD (ev_CB (xs := [x]) (m1 := m) rfl hlen) (m2 := m) (xs := []) rfl
  exact (congrArg (fun r => Rs.bind r fun as m2 => Rs.ok (.hnd 0 :: as) m2) e2).trans rfl
end DL

/-! The seven values: how the small functions on them answer. -/
namespace DL
open PySem PySem.Spec PyProof.Rows L2
def kGRADES : D := (.str "aseudwx")
def kGRADE_OF : List (Str × D) := [("a", (.int 0)), ("s", (.int 1)), ("e", (.int 2)), ("u", (.int 3)), ("d", (.int 4)), ("w", (.int 5)), ("x", (.int 6))]
def kJOINED : D := (.tup [(.tup [(.int 0), (.int 0), (.int 0), (.int 0), (.int 0), (.int 5), (.int 6)]), (.tup [(.int 0), (.int 1), (.int 1), (.int 1), (.int 4), (.int 5), (.int 6)]), (.tup [(.int 0), (.int 1), (.int 2), (.int 3), (.int 4), (.int 5), (.int 6)]), (.tup [(.int 0), (.int 1), (.int 3), (.int 3), (.int 4), (.int 5), (.int 6)]), (.tup [(.int 0), (.int 4), (.int 4), (.int 4), (.int 4), (.int 5), (.int 6)]), (.tup [(.int 5), (.int 5), (.int 5), (.int 5), (.int 5), (.int 5), (.int 6)]), (.tup [(.int 6), (.int 6), (.int 6), (.int 6), (.int 6), (.int 6), (.int 6)])])
def kAGAIN : D := (.tup [(.int 0), (.int 1), (.int 2), (.int 5), (.int 5), (.int 5), (.int 6)])
/-- a letter by its place in aseudwx -/
def L (i : Fin 7) : D := .str ⟨#[(#[97, 115, 101, 117, 100, 119, 120] : Array Nat).getD i.val 0]⟩
theorem all7 {p : Fin 7 → Prop} (h0 : p 0) (h1 : p 1) (h2 : p 2) (h3 : p 3) (h4 : p 4) (h5 : p 5) (h6 : p 6) : ∀ i, p i
  | ⟨0, _⟩ => h0 | ⟨1, _⟩ => h1 | ⟨2, _⟩ => h2 | ⟨3, _⟩ => h3 | ⟨4, _⟩ => h4 | ⟨5, _⟩ => h5 | ⟨6, _⟩ => h6
theorem signs7 : ∀ d ∈ signsOf "aseudwx", ∃ i : Fin 7, d = L i := by
  intro d hd
  have e : signsOf "aseudwx" = [L 0, L 1, L 2, L 3, L 4, L 5, L 6] := by kernel_rfl
  rw [e] at hd
  simp only [List.mem_cons, List.not_mem_nil, or_false] at hd
  rcases hd with rfl | rfl | rfl | rfl | rfl | rfl | rfl <;> exact ⟨_, rfl⟩
def minF (a b : Fin 7) : Fin 7 := if b < a then b else a
/-- the law's best of some -/
def gLawBestB : Fs Unit :=
  sIf (fB (f2 oLt (fS2 oIndex (fC (.str "aseudwx")) (fVar 2)) (fS2 oIndex (fC (.str "aseudwx")) (fVar 1)))) (sSet 1 (fVar 2)) (sNx)
def gLawBest : Fs Unit :=
  sSeq (sSet 1 (fC (.str "x"))) (sSeq (sFor (fSeq (fVar 0)) (gN 2) gLawBestB) (sRet (fVar 1)))
def FLawBest : Sls → Unit → Rs Unit D := runF 3 gLawBest
theorem lawBest_step (V : Sl) : ∀ a v : Fin 7, gLawBestB [V, .dat (L a), .dat (L v)] () = .nx [V, .dat (L (minF a v)), .dat (L v)] () := by
  refine all7 ?_ ?_ ?_ ?_ ?_ ?_ ?_ <;> refine all7 ?_ ?_ ?_ ?_ ?_ ?_ ?_ <;> kernel_rfl
theorem lawBest_loop (V : Sl) : ∀ (xs : List (Fin 7)) (a : Fin 7) (s : Sl), ∃ s', forL (gN 2) gLawBestB (xs.map L) [V, .dat (L a), s] () = .nx [V, .dat (L (xs.foldl minF a)), s'] ()
  | [], a, s => ⟨s, rfl⟩
  | v :: xs, a, s => by
    obtain ⟨s', h⟩ := lawBest_loop V xs (minF a v) (.dat (L v))
    refine ⟨s', ?_⟩
    exact (forL_cons (t := gN 2) (δ := [V, .dat (L a), s]) rfl (lawBest_step V a v)).trans h
theorem lawBest_eq {x : D} {xs : List (Fin 7)} (hx : itemsOf x = some (xs.map L)) : FLawBest [.dat x] () = .ok (L (xs.foldl minF 6)) () := by
  obtain ⟨s', h⟩ := lawBest_loop (.dat x) xs 6 .un
  refine ev_run ((ev_seq (δ1 := [.dat x, .dat (L 6), .un]) (m1 := ()) (by kernel_rfl)).trans ((ev_seq ((ev_for (m1 := ()) (ds := xs.map L) ?_).trans h)).trans rfl))
  show (match itemsOf x with | some ds => Rs.ok ds () | none => .bad) = _
  rw [hx]
/-- the program's best -/
def gBest : Fs Unit :=
  sRet (f2 oIx (fC kGRADES) (fCK oMinD (fCons (fLc (fSeq (fVar 0)) (gN 1) (fYes) (fTab kGRADE_OF (fVar 1)) [1]) (fNil)) (fCons (fC (.int 6)) fNil)))
def FBest : Sls → Unit → Rs Unit D := runF 2 gBest
def I7 (i : Fin 7) : D := .int (i.val : Nat)
theorem gradeOf (V : Sl) : ∀ v : Fin 7, fTab kGRADE_OF (fVar 1) [V, .dat (L v)] () = .ok (I7 v) () := by
  refine all7 ?_ ?_ ?_ ?_ ?_ ?_ ?_ <;> kernel_rfl
theorem best_lc (V : Sl) : ∀ xs : List (Fin 7), lcL (gN 1) fYes (fTab kGRADE_OF (fVar 1)) [V, .un] (xs.map L) () = .ok (xs.map I7) ()
  | [] => rfl
  | v :: xs => lcL_cons (t := gN 1) (δ := [V, .un]) (m1 := ()) rfl rfl (gradeOf V v) (best_lc V xs)
theorem intsOf_I7 : ∀ xs : List (Fin 7), intsOf (xs.map I7) = some (xs.map fun i => ((i.val : Nat) : Int))
  | [] => rfl
  | v :: xs => by
    show (intsOf (xs.map I7)).map _ = _
    rw [intsOf_I7 xs]
    rfl
theorem minF_val (a b : Fin 7) : ((minF a b).val : Int) = min (a.val : Int) (b.val : Int) := by
  unfold minF
  split <;> rename_i h
  · have := Fin.lt_def.mp h
    omega
  · have : ¬ b.val < a.val := fun q => h (Fin.lt_def.mpr q)
    omega
theorem foldl_min : ∀ (xs : List (Fin 7)) (a : Fin 7), minI ((a :: xs).map fun i => ((i.val : Nat) : Int)) = ((xs.foldl minF a).val : Int)
  | [], a => rfl
  | v :: xs, a => by
    show min (a.val : Int) (minI ((v :: xs).map fun i => ((i.val : Nat) : Int))) = _
    rw [foldl_min xs v]
    show _ = ((xs.foldl minF (minF a v)).val : Int)
    have key : ∀ (ys : List (Fin 7)) (a v : Fin 7), ((ys.foldl minF (minF a v)).val : Int) = min (a.val : Int) ((ys.foldl minF v).val : Int) := by
      intro ys
      induction ys with
      | nil => intro a v; exact minF_val a v
      | cons y ys ih =>
        intro a v
        show ((ys.foldl minF (minF (minF a v) y)).val : Int) = min (a.val : Int) ((ys.foldl minF (minF v y)).val : Int)
        have e : minF (minF a v) y = minF a (minF v y) := by
          apply Fin.ext
          have h1 := minF_val (minF a v) y
          have h2 := minF_val a v
          have h3 := minF_val a (minF v y)
          have h4 := minF_val v y
          omega
        rw [e, ih]
    rw [key]
theorem foldl_min6 (a : Fin 7) (xs : List (Fin 7)) : (a :: xs).foldl minF 6 = xs.foldl minF a := by
  show xs.foldl minF (minF 6 a) = _
  congr 1
  revert a
  decide
theorem grades_at : ∀ i : Fin 7, oIx kGRADES (.int (i.val : Int)) = some (L i) := by
  refine all7 ?_ ?_ ?_ ?_ ?_ ?_ ?_ <;> kernel_rfl
theorem best_eq {xs : List (Fin 7)} (hl : xs.length < sizeLine) : FBest [.dat (.tup (xs.map L))] () = .ok (L (xs.foldl minF 6)) () := by
  refine ev_run (ev_ret (ev_f2 (m1 := ()) (x := kGRADES) (y := .int ((xs.foldl minF 6).val : Int)) rfl ?_ (grades_at _)))
  unfold fCK
  have e1 : fCons (fLc (fSeq (fVar 0)) (gN 1) (fYes) (fTab kGRADE_OF (fVar 1)) [1]) fNil ([.dat (.tup (xs.map L))] ++ List.replicate (2 - [Sl.dat (.tup (xs.map L))].length) .un) () = .ok [.lst (xs.map I7)] () :=
    ev_cons (m1 := ()) (ev_lc (ds := xs.map L) (m1 := ()) rfl (by rw [List.length_map]; exact hl) (best_lc _ xs)) rfl
  rw [e1]
  show ofO () (oMinD [.lst (xs.map I7)] [.int 6]) = _
  unfold oMinD
  simp only [intsOf_I7, Option.bind_some]
  cases xs with
  | nil => rfl
  | cons a xs =>
    rw [if_neg (by simp), foldl_min, foldl_min6]
    rfl
end DL

namespace K15
open PySem PySem.Spec PyProof.Rows L2 DL
/-! ### the text by places -/
def top (i : Nat) : Stmt := PySem.Challenge.pw_neverdry_k15_values_joined.main.body.getD i (.Pass ⟨0, 0, 0, 0⟩)
def k_GRADES : D := (.str "aseudwx")
def k_GRADE_OF : List (Str × D) := [("a", (.int 0)), ("s", (.int 1)), ("e", (.int 2)), ("u", (.int 3)), ("d", (.int 4)), ("w", (.int 5)), ("x", (.int 6))]
def k_JOINED : D := (.tup [(.tup [(.int 0), (.int 0), (.int 0), (.int 0), (.int 0), (.int 5), (.int 6)]), (.tup [(.int 0), (.int 1), (.int 1), (.int 1), (.int 4), (.int 5), (.int 6)]), (.tup [(.int 0), (.int 1), (.int 2), (.int 3), (.int 4), (.int 5), (.int 6)]), (.tup [(.int 0), (.int 1), (.int 3), (.int 3), (.int 4), (.int 5), (.int 6)]), (.tup [(.int 0), (.int 4), (.int 4), (.int 4), (.int 4), (.int 5), (.int 6)]), (.tup [(.int 5), (.int 5), (.int 5), (.int 5), (.int 5), (.int 5), (.int 6)]), (.tup [(.int 6), (.int 6), (.int 6), (.int 6), (.int 6), (.int 6), (.int 6)])])
def k_AGAIN : D := (.tup [(.int 0), (.int 1), (.int 2), (.int 5), (.int 5), (.int 5), (.int 6)])
def k_NONE : D := (.int 6)
/-! ### what the top leaves -/
structure Txt (K : PySem.W.Frag) (w : World) (mg : Str → Option Value) (cn : Str → Addr) : Prop where
  c_GRADES : Gc K mg cn "GRADES" k_GRADES
  c_GRADE_OF : Tc K w mg cn "GRADE_OF" k_GRADE_OF
  c_JOINED : Gc K mg cn "JOINED" k_JOINED
  c_AGAIN : Gc K mg cn "AGAIN" k_AGAIN
  c_NONE : Gc K mg cn "NONE" k_NONE
  b_abs : mg "abs" = none
  b_all : mg "all" = none
  b_bool : mg "bool" = none
  b_int : mg "int" = none
  b_isinstance : mg "isinstance" = none
  b_len : mg "len" = none
  b_list : mg "list" = none
  b_min : mg "min" = none
  b_range : mg "range" = none
  b_str : mg "str" = none
  b_tuple : mg "tuple" = none
  b_zip : mg "zip" = none
  d_joined : Df K mg "joined" (top 6) ["one", "other"]
  d_best : DfS K mg "best" (top 7) "values"
  d_repeated : Df K mg "repeated" (top 8) ["value"]
  d_law_pull : Df K mg "_law_pull" (top 10) ["_law_bag_here", "_law_sides"]
  d_law_of : Df K mg "_law_of" (top 11) ["_law_bag_here", "_law_some"]
  d_law_same : Df K mg "_law_same" (top 12) ["_law_found", "_law_due"]
  d_law_bag : Df K mg "_law_bag" (top 13) ["_law_script"]
  d_law_joined : Df K mg "_law_joined" (top 14) ["_law_one_z", "_law_other_z"]
  d_law_best : Df K mg "_law_best" (top 15) ["_law_some"]
  d_law_repeated : Df K mg "_law_repeated" (top 16) ["_law_value_z"]
  kw_repeated_value : Kb K mg "repeated" ["value"] ["value"] [0]
  kw_joined_other_one : Kb K mg "joined" ["one", "other"] ["other", "one"] [1, 0]
section
variable {P : Program} {w : World} {K : PySem.W.Frag} {mg : Str → Option Value} {base : Heap} {cn : Str → Addr}
/-! ### the defs -/
theorem sc_joined : FnScope ["one", "other"] ["one", "other"] (defScope (top 6)) := ⟨rfl, rfl, rfl, by decide +kernel, rfl, by decide +kernel, by decide +kernel⟩
def g_joined : Fs Unit :=
  sRet (f2 oIx (fC k_GRADES) (f2 oIx (f2 oIx (fC k_JOINED) (fTab k_GRADE_OF (fVar 0))) (fTab k_GRADE_OF (fVar 1))))
def F_joined : Sls → Unit → Rs Unit D := runF 2 g_joined
theorem fd_joined (T : Txt K w mg cn) : Fd P w K mg base "joined" ["one", "other"] 1 (spD ⟨K, cn⟩ w0 2 F_joined) := by
  have hnd := sc_joined.nd
  refine Df.fd (N := ["one", "other"]) T.d_joined sc_joined fun f cdv A outer s H E hr => ?_
  unfold g_joined
  exact ds_last (ds_ret (de_ix (de_gc T.c_GRADES rfl) (de_ix (de_ix (de_gc T.c_JOINED rfl) (de_tabc T.c_GRADE_OF rfl (de_var 0))) (de_tabc T.c_GRADE_OF rfl (de_var 1)))))
theorem sc_best : FnScope ["values", "value"] ["values"] (defScope (top 7)) := ⟨rfl, rfl, rfl, by decide +kernel, rfl, by decide +kernel, by decide +kernel⟩
def g_best : Fs Unit :=
  sRet (f2 oIx (fC k_GRADES) (fCK oMinD (fCons (fLc (fSeq (fVar 0)) (gN 1) (fYes) (fTab k_GRADE_OF (fVar 1)) [1]) (fNil)) (fCons (fC k_NONE) fNil)))
def F_best : Sls → Unit → Rs Unit D := runF 2 g_best
theorem fd_best (T : Txt K w mg cn) : Fst P w K mg base "best" 1 (spSt ⟨K, cn⟩ F_best) := by
  have hnd := sc_best.nd
  refine DfS.fd (N := ["values", "value"]) T.d_best sc_best fun f cdv A outer s H E hr => ?_
  unfold g_best
  exact ds_last (ds_ret (de_ix (de_gc T.c_GRADES rfl) (de_bk (bk_minD hr) rfl T.b_min (by decide +kernel) (da_cons (de_lc [("value", 1)] hnd (di_seq (de_var 0)) (tg_name) (fun _ _ _ _ _ => pg_name (i := 1) hnd rfl (by first | exact Or.inl rfl | exact Or.inr rfl)) (fun _ _ _ _ _ => dts_nil) (fun _ _ _ _ _ => de_tabc T.c_GRADE_OF rfl (de_var 1))) (da_nil)) (dk_cons (de_gc T.c_NONE rfl) dk_nil))))
theorem sc_repeated : FnScope ["value"] ["value"] (defScope (top 8)) := ⟨rfl, rfl, rfl, by decide +kernel, rfl, by decide +kernel, by decide +kernel⟩
def g_repeated : Fs Unit :=
  sRet (f2 oIx (fC k_GRADES) (f2 oIx (fC k_AGAIN) (fTab k_GRADE_OF (fVar 0))))
def F_repeated : Sls → Unit → Rs Unit D := runF 1 g_repeated
theorem fd_repeated (T : Txt K w mg cn) : Fd P w K mg base "repeated" ["value"] 1 (spD ⟨K, cn⟩ w0 1 F_repeated) := by
  have hnd := sc_repeated.nd
  refine Df.fd (N := ["value"]) T.d_repeated sc_repeated fun f cdv A outer s H E hr => ?_
  unfold g_repeated
  exact ds_last (ds_ret (de_ix (de_gc T.c_GRADES rfl) (de_ix (de_gc T.c_AGAIN rfl) (de_tabc T.c_GRADE_OF rfl (de_var 0)))))
theorem sc_law_pull : FnScope ["_law_bag_here", "_law_sides", "_law_cell", "_law_digit", "_law_twice"] ["_law_bag_here", "_law_sides"] (defScope (top 10)) := ⟨rfl, rfl, rfl, by decide +kernel, rfl, by decide +kernel, by decide +kernel⟩
def g_law_pull : Fs Bag :=
  sSeq (sIf (fAnd (fB (f2 oEq (fBag 0 2) (fC (.int 0)))) (fB (f2 oLt (fBag 0 1) (fBagLen 0)))) (sSeq (sSet 2 (fBagIx 0 (fBag 0 1))) (sSeq (sBag 0 1 (f2 oAdd (fBag 0 1) (fC (.int 1)))) (sIf (fB (f2 oGe (fCB oAbs (fCons (fVar 2) (fNil))) (f2 oPow (fC (.int 10)) (fC (.int 18))))) (sBag 0 2 (fCB oAbs (fCons (fVar 2) (fNil)))) (sBag 0 3 (f2 oMod (fCB oInt (fCons (f2 oAdd (f2 oAdd (f2 oMul (fBag 0 3) (fC (.int 48271))) (f2 oMul (f2 oMod (fCB oInt (fCons (fVar 2) (fNil))) (fC (.int 1000003))) (fC (.int 911)))) (fC (.int 7))) (fNil))) (fC (.int 2147483647))))))) (sNx)) (sSeq (sIf (fB (f2 oGt (fBag 0 2) (fC (.int 0)))) (sSeq (sSet 3 (f2 oMod (fCB oInt (fCons (fBag 0 2) (fNil))) (fVar 1))) (sSeq (sBag 0 2 (f2 oFdiv (fBag 0 2) (fVar 1))) (sRet (fVar 3)))) (sNx)) (sSeq (sSet 4 (f2 oMod (fCB oInt (fCons (f2 oMul (fBag 0 3) (fBag 0 3)) (fNil))) (fC (.int 2147483629)))) (sSeq (sBag 0 3 (f2 oMod (fCB oInt (fCons (f2 oAdd (f2 oAdd (f2 oMul (fVar 4) (fC (.int 16807))) (f2 oMul (fBag 0 3) (fC (.int 40692)))) (fC (.int 12345))) (fNil))) (fC (.int 2147483647)))) (sRet (f2 oMod (fCB oInt (fCons (f2 oFdiv (fBag 0 3) (fC (.int 64))) (fNil))) (fVar 1))))))
def F_law_pull : Sls → Bag → Rs Bag D := runF 5 g_law_pull
theorem fd_law_pull (T : Txt K w mg cn) : Fd P w K mg base "_law_pull" ["_law_bag_here", "_law_sides"] 1 (spD ⟨K, cn⟩ wB 2 F_law_pull) := by
  have hnd := sc_law_pull.nd
  refine Df.fd (N := ["_law_bag_here", "_law_sides", "_law_cell", "_law_digit", "_law_twice"]) T.d_law_pull sc_law_pull fun f cdv A outer s H E hr => ?_
  unfold g_law_pull
  exact ds_cons (ds_if (dt_w (dw_and (dt_cmp (cm_eq hr) (de_bag 0 2) (de_int)) (dw_and1 (dt_cmp cm_lt (de_bag 0 1) (de_bagLen 0 rfl T.b_len boot_len))))) (ds_cons (ds_set 2 (de_bagIx 0 (de_bag 0 1)) hnd) (ds_cons (ds_bag 0 1 (de_add (de_bag 0 1) (de_int))) (ds_last (ds_if (dt_cmp cm_ge (de_bi bf_abs rfl T.b_abs (by decide +kernel) (da_cons (de_var 2) (da_nil))) (de_pow (de_int) (de_int))) (ds_last (ds_bag 0 2 (de_bi bf_abs rfl T.b_abs (by decide +kernel) (da_cons (de_var 2) (da_nil))))) (ds_last (ds_bag 0 3 (de_mod (de_ty bf_int rfl T.b_int (by decide +kernel) (da_cons (de_add (de_add (de_mul (de_bag 0 3) (de_int)) (de_mul (de_mod (de_ty bf_int rfl T.b_int (by decide +kernel) (da_cons (de_var 2) (da_nil))) (de_int)) (de_int))) (de_int)) (da_nil))) (de_int)))))))) (ds_nil)) (ds_cons (ds_if (dt_cmp cm_gt (de_bag 0 2) (de_int)) (ds_cons (ds_set 3 (de_mod (de_ty bf_int rfl T.b_int (by decide +kernel) (da_cons (de_bag 0 2) (da_nil))) (de_var 1)) hnd) (ds_cons (ds_bag 0 2 (de_fdiv (de_bag 0 2) (de_var 1))) (ds_last (ds_ret (de_var 3))))) (ds_nil)) (ds_cons (ds_set 4 (de_mod (de_ty bf_int rfl T.b_int (by decide +kernel) (da_cons (de_mul (de_bag 0 3) (de_bag 0 3)) (da_nil))) (de_int)) hnd) (ds_cons (ds_bag 0 3 (de_mod (de_ty bf_int rfl T.b_int (by decide +kernel) (da_cons (de_add (de_add (de_mul (de_var 4) (de_int)) (de_mul (de_bag 0 3) (de_int))) (de_int)) (da_nil))) (de_int))) (ds_last (ds_ret (de_mod (de_ty bf_int rfl T.b_int (by decide +kernel) (da_cons (de_fdiv (de_bag 0 3) (de_int)) (da_nil))) (de_var 1)))))))
theorem sc_law_same : FnScope ["_law_found", "_law_due", "_law_a", "_law_b"] ["_law_found", "_law_due"] (defScope (top 12)) := ⟨rfl, rfl, rfl, by decide +kernel, rfl, by decide +kernel, by decide +kernel⟩
def g_law_same (Fr : Sls → Unit → Rs Unit D) : Fs Unit :=
  sSeq (sIf (fOr (fB (f2 oIs2 (fVar 1) (fC .non))) (fB (f2 oIs2 (fVar 0) (fC .non)))) (sRet (fAndV (f2 oIs2 (fVar 1) (fC .non)) (f2 oIs2 (fVar 0) (fC .non)))) (sNx)) (sSeq (sIf (fOr (fB (fIs ["bool"] (fVar 1))) (fB (fIs ["bool"] (fVar 0)))) (sRet (fAndV (fIs ["bool"] (fVar 1)) (fAndV (fIs ["bool"] (fVar 0)) (f2 oEq (fVar 0) (fVar 1))))) (sNx)) (sSeq (sIf (fOr (fB (fIs ["list", "tuple"] (fVar 1))) (fB (fIs ["list", "tuple"] (fVar 0)))) (sSeq (sIf (fOr (fB (f2 oNe (fIs ["list"] (fVar 1)) (fIs ["list"] (fVar 0)))) (fB (f2 oNe (fIs ["tuple"] (fVar 1)) (fIs ["tuple"] (fVar 0))))) (sRet (fC (.bl false))) (sNx)) (sRet (fAndV (f2 oEq (fCB oLen (fCons (fVar 0) (fNil))) (fCB oLen (fCons (fVar 1) (fNil)))) (fCB oAll (fCons (fLc (fZip (fCons (fVar 0) (fCons (fVar 1) (fNil)))) (gT (gsCons (gN 2) (gsCons (gN 3) (gsNil)))) (fYes) (fCallN 2 Fr (saD (fVar 2) (saD (fVar 3) (saNil)))) [2, 3]) (fNil)))))) (sNx)) (sSeq (sIf (fOr (fB (f2 oNe (fIs ["int"] (fVar 1)) (fIs ["int"] (fVar 0)))) (fB (f2 oNe (fIs ["str"] (fVar 1)) (fIs ["str"] (fVar 0))))) (sRet (fC (.bl false))) (sNx)) (sRet (f2 oEq (fVar 0) (fVar 1))))))
def F_law_same : Nat → Sls → Unit → Rs Unit D
  | 0 => fun _ _ => .bad
  | n + 1 => runF 4 (g_law_same (F_law_same n))
theorem fd_law_same (T : Txt K w mg cn) : ∀ n, Fd P w K mg base "_law_same" ["_law_found", "_law_due"] (1 + n) (spD ⟨K, cn⟩ w0 2 (F_law_same n))
  | 0 => Df.bad T.d_law_same sc_law_same
  | n + 1 => by
    have Dr := fd_law_same T n
    have hnd := sc_law_same.nd
    refine Df.fd (N := ["_law_found", "_law_due", "_law_a", "_law_b"]) T.d_law_same sc_law_same fun f cdv A outer s H E hr => ?_
    unfold g_law_same
    exact ds_cons (ds_if (dt_w (dw_or (dt_cmp cm_is (de_var 1) (de_non)) (dw_or1 (dt_cmp cm_is (de_var 0) (de_non))))) (ds_last (ds_ret (de_and (de_cmp cm_is (de_var 1) (de_non)) (de_one (de_cmp cm_is (de_var 0) (de_non)))))) (ds_nil)) (ds_cons (ds_if (dt_w (dw_or (dt_val (de_isi rfl T.b_isinstance (by decide +kernel) rfl T.b_bool (by decide +kernel) (by decide +kernel) (de_var 1))) (dw_or1 (dt_val (de_isi rfl T.b_isinstance (by decide +kernel) rfl T.b_bool (by decide +kernel) (by decide +kernel) (de_var 0)))))) (ds_last (ds_ret (de_and (de_isi rfl T.b_isinstance (by decide +kernel) rfl T.b_bool (by decide +kernel) (by decide +kernel) (de_var 1)) (de_and (de_isi rfl T.b_isinstance (by decide +kernel) rfl T.b_bool (by decide +kernel) (by decide +kernel) (de_var 0)) (de_one (de_cmp (cm_eq hr) (de_var 0) (de_var 1))))))) (ds_nil)) (ds_cons (ds_if (dt_w (dw_or (dt_val (de_isi2 rfl T.b_isinstance (by decide +kernel) rfl T.b_list (by decide +kernel) (by decide +kernel) rfl T.b_tuple (by decide +kernel) (by decide +kernel) (de_var 1))) (dw_or1 (dt_val (de_isi2 rfl T.b_isinstance (by decide +kernel) rfl T.b_list (by decide +kernel) (by decide +kernel) rfl T.b_tuple (by decide +kernel) (by decide +kernel) (de_var 0)))))) (ds_cons (ds_if (dt_w (dw_or (dt_cmp (cm_ne hr) (de_isi rfl T.b_isinstance (by decide +kernel) rfl T.b_list (by decide +kernel) (by decide +kernel) (de_var 1)) (de_isi rfl T.b_isinstance (by decide +kernel) rfl T.b_list (by decide +kernel) (by decide +kernel) (de_var 0))) (dw_or1 (dt_cmp (cm_ne hr) (de_isi rfl T.b_isinstance (by decide +kernel) rfl T.b_tuple (by decide +kernel) (by decide +kernel) (de_var 1)) (de_isi rfl T.b_isinstance (by decide +kernel) rfl T.b_tuple (by decide +kernel) (by decide +kernel) (de_var 0)))))) (ds_last (ds_ret (de_bl))) (ds_nil)) (ds_last (ds_ret (de_and (de_cmp (cm_eq hr) (de_bi bf_len rfl T.b_len (by decide +kernel) (da_cons (de_var 0) (da_nil))) (de_bi bf_len rfl T.b_len (by decide +kernel) (da_cons (de_var 1) (da_nil)))) (de_one (de_bi (bf_all rfl) rfl T.b_all (by decide +kernel) (da_cons (de_lc [("_law_a", 2), ("_law_b", 3)] hnd (di_zip rfl T.b_zip (da_cons (de_var 0) (da_cons (de_var 1) (da_nil)))) (pyLen_ok (gsCons_len (gsCons_len (gsNil_len))) (tgs_cons tg_name (tgs_cons tg_name (tgs_nil)))) (fun _ _ _ _ _ => pg_tup rfl (pgs_cons (pg_name (i := 2) hnd rfl (by first | exact Or.inl rfl | exact Or.inr rfl)) (pgs_cons (pg_name (i := 3) hnd rfl (by first | exact Or.inl rfl | exact Or.inr rfl)) (pgs_nil)))) (fun _ _ _ _ _ => dts_nil) (fun _ _ _ _ _ => de_fn Dr hr passL (das_cons (de_var 2) (das_cons (de_var 3) (das_nil))))) (da_nil)))))))) (ds_nil)) (ds_cons (ds_if (dt_w (dw_or (dt_cmp (cm_ne hr) (de_isi rfl T.b_isinstance (by decide +kernel) rfl T.b_int (by decide +kernel) (by decide +kernel) (de_var 1)) (de_isi rfl T.b_isinstance (by decide +kernel) rfl T.b_int (by decide +kernel) (by decide +kernel) (de_var 0))) (dw_or1 (dt_cmp (cm_ne hr) (de_isi rfl T.b_isinstance (by decide +kernel) rfl T.b_str (by decide +kernel) (by decide +kernel) (de_var 1)) (de_isi rfl T.b_isinstance (by decide +kernel) rfl T.b_str (by decide +kernel) (by decide +kernel) (de_var 0)))))) (ds_last (ds_ret (de_bl))) (ds_nil)) (ds_last (ds_ret (de_cmp (cm_eq hr) (de_var 0) (de_var 1)))))))
theorem sc_law_joined : FnScope ["_law_one_z", "_law_other_z"] ["_law_one_z", "_law_other_z"] (defScope (top 14)) := ⟨rfl, rfl, rfl, by decide +kernel, rfl, by decide +kernel, by decide +kernel⟩
def g_law_joined : Fs Unit :=
  sRet (fIf (fB (f2 oGt (fS2 oIndex (fC (.str "eusdawx")) (fVar 0)) (fS2 oIndex (fC (.str "eusdawx")) (fVar 1)))) (fVar 0) (fVar 1))
def F_law_joined : Sls → Unit → Rs Unit D := runF 2 g_law_joined
theorem fd_law_joined (T : Txt K w mg cn) : Fd P w K mg base "_law_joined" ["_law_one_z", "_law_other_z"] 1 (spD ⟨K, cn⟩ w0 2 F_law_joined) := by
  have hnd := sc_law_joined.nd
  refine Df.fd (N := ["_law_one_z", "_law_other_z"]) T.d_law_joined sc_law_joined fun f cdv A outer s H E hr => ?_
  unfold g_law_joined
  exact ds_last (ds_ret (de_if (dt_cmp cm_gt (de_index (de_str) (de_var 0)) (de_index (de_str) (de_var 1))) (de_var 0) (de_var 1)))
theorem sc_law_best : FnScope ["_law_some", "_law_found", "_law_value_z"] ["_law_some"] (defScope (top 15)) := ⟨rfl, rfl, rfl, by decide +kernel, rfl, by decide +kernel, by decide +kernel⟩
def b_law_best_1 : Fs Unit :=
  sIf (fB (f2 oLt (fS2 oIndex (fC (.str "aseudwx")) (fVar 2)) (fS2 oIndex (fC (.str "aseudwx")) (fVar 1)))) (sSet 1 (fVar 2)) (sNx)
def g_law_best : Fs Unit :=
  sSeq (sSet 1 (fC (.str "x"))) (sSeq (sFor (fSeq (fVar 0)) (gN 2) (b_law_best_1)) (sRet (fVar 1)))
def F_law_best : Sls → Unit → Rs Unit D := runF 3 g_law_best
theorem fd_law_best (T : Txt K w mg cn) : Fd P w K mg base "_law_best" ["_law_some"] 1 (spD ⟨K, cn⟩ w0 1 F_law_best) := by
  have hnd := sc_law_best.nd
  refine Df.fd (N := ["_law_some", "_law_found", "_law_value_z"]) T.d_law_best sc_law_best fun f cdv A outer s H E hr => ?_
  unfold g_law_best
  exact ds_cons (ds_set 1 (de_str) hnd) (ds_cons (ds_for (di_seq (de_var 0)) (pg_name (i := 2) hnd rfl (by first | exact Or.inl rfl | exact Or.inr rfl)) (tg_name) (ds_last (ds_if (dt_cmp cm_lt (de_index (de_str) (de_var 2)) (de_index (de_str) (de_var 1))) (ds_last (ds_set 1 (de_var 2) hnd)) (ds_nil))) (passes_of rfl)) (ds_last (ds_ret (de_var 1))))
theorem sc_law_repeated : FnScope ["_law_value_z"] ["_law_value_z"] (defScope (top 16)) := ⟨rfl, rfl, rfl, by decide +kernel, rfl, by decide +kernel, by decide +kernel⟩
def g_law_repeated : Fs Unit :=
  sRet (fIf (fB (f2 oIn (fVar 0) (fC (.str "udw")))) (fC (.str "w")) (fVar 0))
def F_law_repeated : Sls → Unit → Rs Unit D := runF 1 g_law_repeated
theorem fd_law_repeated (T : Txt K w mg cn) : Fd P w K mg base "_law_repeated" ["_law_value_z"] 1 (spD ⟨K, cn⟩ w0 1 F_law_repeated) := by
  have hnd := sc_law_repeated.nd
  refine Df.fd (N := ["_law_value_z"]) T.d_law_repeated sc_law_repeated fun f cdv A outer s H E hr => ?_
  unfold g_law_repeated
  exact ds_last (ds_ret (de_if (dt_cmp cm_in (de_var 0) (de_str)) (de_str) (de_var 0)))
theorem sc_law_bag : FnScope ["_law_script"] ["_law_script"] (defScope (top 13)) := ⟨rfl, rfl, rfl, by decide +kernel, rfl, by decide +kernel, by decide +kernel⟩
theorem fd_law_bag (T : Txt K w mg cn) : Fd P w K mg base "_law_bag" ["_law_script"] 1 (spBag K) :=
  Df.raw T.d_law_bag sc_law_bag bag_len fun f cdv A outer s H vs Q E hr h => ⟨_, pss_one (ps_ret (pe_lst (pa_cons (pe_callTy call_list_of (by rfl) T.b_list boot_list (pa_cons (pe_slice sl_list (pv 0) po_none (po_some pe_int)) pa_nil)) (pa_cons pe_int (pa_cons pe_int (pa_cons pe_int pa_nil)))))), bag_read h⟩
theorem sc_law_of : FnScope ["_law_bag_here", "_law_some"] ["_law_bag_here", "_law_some"] (defScope (top 11)) := ⟨rfl, rfl, rfl, by decide +kernel, rfl, by decide +kernel, by decide +kernel⟩
def g_law_of : Fs Bag :=
  sRet (f2 oIx (fVar 1) (fCallN 2 F_law_pull (saV 0 (saD (fCB oLen (fCons (fVar 1) (fNil))) (saNil)))))
def F_law_of : Sls → Bag → Rs Bag D := runF 2 g_law_of
theorem fd_law_of (T : Txt K w mg cn) : Fd P w K mg base "_law_of" ["_law_bag_here", "_law_some"] 2 (spD ⟨K, cn⟩ wB 2 F_law_of) := by
  have hnd := sc_law_of.nd
  have D_law_pull := fd_law_pull (P := P) (base := base) T
  refine Df.fd (N := ["_law_bag_here", "_law_some"]) T.d_law_of sc_law_of fun f cdv A outer s H E hr => ?_
  unfold g_law_of
  exact ds_last (ds_ret (de_ix (de_var 1) (de_fn D_law_pull (hr.mono (by decide)) (passes_call (takes_of rfl rfl rfl rfl) fun _ _ _ _ h => h) (das_var 0 (das_cons (de_bi bf_len rfl T.b_len (by decide +kernel) (da_cons (de_var 1) (da_nil))) (das_nil))))))
theorem sc_law : FnScope ["_law_script", "_law_bag_here", "_law_one_z", "_law_other_z", "_law_some", "_law_k"] ["_law_script"] (defScope (top 17)) := ⟨rfl, rfl, rfl, by decide +kernel, rfl, by decide +kernel, by decide +kernel⟩
def b_law_1 : Fs Bag :=
  sSeq (sIf (fOr (fNot (fB (fCallU 2 (F_law_same 9) (saD (fCallU 2 F_joined (saD (fVar 2) (saD (fVar 3) (saNil)))) (saD (fCallU 2 F_law_joined (saD (fVar 2) (saD (fVar 3) (saNil)))) (saNil)))))) (fB (f2 oNe (fKw 2 [1, 0] F_joined (fCons (fVar 2) (fCons (fVar 3) (fNil)))) (fCallU 2 F_joined (saD (fVar 2) (saD (fVar 3) (saNil))))))) (sRet (fC (.bl false))) (sNx)) (sIf (fNot (fB (fCallU 2 (F_law_same 9) (saD (fLst (fCons (fStar F_best (fCons (fVar 2) (fCons (fVar 3) (fNil)))) (fCons (fStar F_best (fCons (fVar 2) (fNil))) (fCons (fStar F_best (fCons (fVar 3) (fCons (fVar 2) (fCons (fVar 2) (fNil))))) (fNil))))) (saD (fLst (fCons (fCallU 1 F_law_best (saD (fLst (fCons (fVar 2) (fCons (fVar 3) (fNil)))) (saNil))) (fCons (fVar 2) (fCons (fCallU 1 F_law_best (saD (fLst (fCons (fVar 3) (fCons (fVar 2) (fNil)))) (saNil))) (fNil))))) (saNil)))))) (sRet (fC (.bl false))) (sNx))
def b_law_2 : Fs Bag :=
  sSeq (sFor (fSeq (fC (.str "aseudwx"))) (gN 3) (b_law_1)) (sIf (fNot (fB (fCallU 2 (F_law_same 9) (saD (fLst (fCons (fCallU 1 F_repeated (saD (fVar 2) (saNil))) (fCons (fKw 1 [0] F_repeated (fCons (fVar 2) (fNil))) (fNil)))) (saD (f2 oMul (fLst (fCons (fCallU 1 F_law_repeated (saD (fVar 2) (saNil))) (fNil))) (fC (.int 2))) (saNil)))))) (sRet (fC (.bl false))) (sNx))
def g_law : Fs Bag :=
  sSeq (sFor (fSeq (fC (.str "aseudwx"))) (gN 2) (b_law_2)) (sSeq (sSet 4 (fLc (fRange1 (fCons (fC (.int 5)) (fNil))) (gN 5) (fYes) (fCallN 2 F_law_of (saV 1 (saD (fC (.str "aseudwx")) (saNil)))) [5])) (sSeq (sIf (fOr (fB (f2 oNe (fStar F_best (fCons (f2 oIx (fVar 4) (fC (.int 0))) (fCons (f2 oIx (fVar 4) (fC (.int 1))) (fCons (f2 oIx (fVar 4) (fC (.int 2))) (fCons (f2 oIx (fVar 4) (fC (.int 3))) (fCons (f2 oIx (fVar 4) (fC (.int 4))) (fNil))))))) (fCallU 1 F_law_best (saD (fVar 4) (saNil))))) (fB (f2 oNe (fStar F_best fNil) (fC (.str "x"))))) (sRet (fC (.bl false))) (sNx)) (sRet (f2 oEq (fLst (fCons (fCallU 2 F_joined (saD (fC (.str "s")) (saD (fC (.str "d")) (saNil)))) (fCons (fCallU 2 F_joined (saD (fC (.str "u")) (saD (fC (.str "s")) (saNil)))) (fCons (fCallU 2 F_joined (saD (fC (.str "e")) (saD (fC (.str "u")) (saNil)))) (fCons (fCallU 2 F_joined (saD (fC (.str "w")) (saD (fC (.str "a")) (saNil)))) (fCons (fStar F_best (fCons (fC (.str "u")) (fCons (fC (.str "s")) (fNil)))) (fCons (fStar F_best (fCons (fC (.str "e")) (fCons (fC (.str "a")) (fNil)))) (fNil)))))))) (fLst (fCons (fC (.str "d")) (fCons (fC (.str "s")) (fCons (fC (.str "u")) (fCons (fC (.str "w")) (fCons (fC (.str "s")) (fCons (fC (.str "a")) (fNil))))))))))))
theorem ok_law {f : Addr} {fd : FuncData} (F : Fun K "law" "law" (top 17) f fd) (T : Txt K w mg cn) (run : ∀ ns : List Int, ns.length ≤ 63 → ∃ m, g_law (.un :: .hnd 0 :: List.replicate 4 .un) ⟨ns, 0, 0, 3846⟩ = .rt (.bl true) m) :
    FnOk P w K mg base (L2.CX P w) 11 f fd ["_law_script"] (spLaw K) := by
  refine F.okX sc_law law_len fun cdv A outer s H vs Q E hr h => ?_
  have hnd := sc_law.nd
  have D_best := fd_best (P := P) (base := base) T
  have D_joined := fd_joined (P := P) (base := base) T
  have D_law_best := fd_law_best (P := P) (base := base) T
  have D_law_of := fd_law_of (P := P) (base := base) T
  have D_law_same := fd_law_same (P := P) (base := base) T 9
  have D_law_repeated := fd_law_repeated (P := P) (base := base) T
  have D_repeated := fd_repeated (P := P) (base := base) T
  have D_law_joined := fd_law_joined (P := P) (base := base) T
  obtain ⟨fB, fdB, hmB, hkB, hbB, FoB, _⟩ := (fd_law_bag (P := P) (base := base) T).ex
  refine ⟨_, pss_cons (ps_set (i := 1) hnd rfl (by first | exact Or.inl rfl | exact Or.inr rfl) (pe_call FoB (hr.mono (by decide)) rfl hmB hkB hbB .nil (passes_call (takes_of rfl rfl rfl rfl) fun _ _ _ _ h => h) (pa_cons (pv 0) pa_nil))) (?_ : DSs _ cn wB E _ g_law), law_read (by decide) h run⟩
  unfold g_law
  exact ds_cons (ds_for (di_seq (de_str)) (pg_name (i := 2) hnd rfl (by first | exact Or.inl rfl | exact Or.inr rfl)) (tg_name) (ds_cons (ds_for (di_seq (de_str)) (pg_name (i := 3) hnd rfl (by first | exact Or.inl rfl | exact Or.inr rfl)) (tg_name) (ds_cons (ds_if (dt_w (dw_or (dt_not (dt_val (de_fnU D_law_same (hr.mono (by decide)) (passes_call (takes_of rfl rfl rfl rfl) fun _ _ _ _ h => h) (das_cons (de_fnU D_joined (hr.mono (by decide)) (passes_call (takes_of rfl rfl rfl rfl) fun _ _ _ _ h => h) (das_cons (de_var 2) (das_cons (de_var 3) (das_nil)))) (das_cons (de_fnU D_law_joined (hr.mono (by decide)) (passes_call (takes_of rfl rfl rfl rfl) fun _ _ _ _ h => h) (das_cons (de_var 2) (das_cons (de_var 3) (das_nil)))) (das_nil)))))) (dw_or1 (dt_cmp (cm_ne hr) (de_fnKw D_joined T.kw_joined_other_one (hr.mono (by decide)) (passes_call (takes_of rfl rfl rfl rfl) fun _ _ _ _ h => h) (dk_cons (de_var 2) (dk_cons (de_var 3) (dk_nil)))) (de_fnU D_joined (hr.mono (by decide)) (passes_call (takes_of rfl rfl rfl rfl) fun _ _ _ _ h => h) (das_cons (de_var 2) (das_cons (de_var 3) (das_nil)))))))) (ds_last (ds_ret (de_bl))) (ds_nil)) (ds_last (ds_if (dt_not (dt_val (de_fnU D_law_same (hr.mono (by decide)) (passes_call (takes_of rfl rfl rfl rfl) fun _ _ _ _ h => h) (das_cons (de_lst (da_cons (de_fnStar D_best (hr.mono (by decide)) (passes_call (takes_of rfl rfl rfl rfl) fun _ _ _ _ h => h) (da_cons (de_var 2) (da_cons (de_var 3) (da_nil)))) (da_cons (de_fnStar D_best (hr.mono (by decide)) (passes_call (takes_of rfl rfl rfl rfl) fun _ _ _ _ h => h) (da_cons (de_var 2) (da_nil))) (da_cons (de_fnStar D_best (hr.mono (by decide)) (passes_call (takes_of rfl rfl rfl rfl) fun _ _ _ _ h => h) (da_cons (de_var 3) (da_cons (de_var 2) (da_cons (de_var 2) (da_nil))))) (da_nil))))) (das_cons (de_lst (da_cons (de_fnU D_law_best (hr.mono (by decide)) (passes_call (takes_of rfl rfl rfl rfl) fun _ _ _ _ h => h) (das_cons (de_lst (da_cons (de_var 2) (da_cons (de_var 3) (da_nil)))) (das_nil))) (da_cons (de_var 2) (da_cons (de_fnU D_law_best (hr.mono (by decide)) (passes_call (takes_of rfl rfl rfl rfl) fun _ _ _ _ h => h) (das_cons (de_lst (da_cons (de_var 3) (da_cons (de_var 2) (da_nil)))) (das_nil))) (da_nil))))) (das_nil)))))) (ds_last (ds_ret (de_bl))) (ds_nil)))) (passes_of rfl)) (ds_last (ds_if (dt_not (dt_val (de_fnU D_law_same (hr.mono (by decide)) (passes_call (takes_of rfl rfl rfl rfl) fun _ _ _ _ h => h) (das_cons (de_lst (da_cons (de_fnU D_repeated (hr.mono (by decide)) (passes_call (takes_of rfl rfl rfl rfl) fun _ _ _ _ h => h) (das_cons (de_var 2) (das_nil))) (da_cons (de_fnKw D_repeated T.kw_repeated_value (hr.mono (by decide)) (passes_call (takes_of rfl rfl rfl rfl) fun _ _ _ _ h => h) (dk_cons (de_var 2) (dk_nil))) (da_nil)))) (das_cons (de_mul (de_lst (da_cons (de_fnU D_law_repeated (hr.mono (by decide)) (passes_call (takes_of rfl rfl rfl rfl) fun _ _ _ _ h => h) (das_cons (de_var 2) (das_nil))) (da_nil))) (de_int)) (das_nil)))))) (ds_last (ds_ret (de_bl))) (ds_nil)))) (passes_of rfl)) (ds_cons (ds_setLc 4 [("_law_k", 5)] hnd (di_range1 rfl T.b_range (da_cons (de_int) (da_nil))) (tg_name) (fun _ _ _ _ _ => pg_name (i := 5) hnd rfl (by first | exact Or.inl rfl | exact Or.inr rfl)) (fun _ _ _ _ _ => dts_nil) (fun _ _ _ _ _ => de_fn D_law_of (hr.mono (by decide)) passL (das_var 1 (das_cons (de_str) (das_nil))))) (ds_cons (ds_if (dt_w (dw_or (dt_cmp (cm_ne hr) (de_fnStar D_best (hr.mono (by decide)) (passes_call (takes_of rfl rfl rfl rfl) fun _ _ _ _ h => h) (da_cons (de_ix (de_var 4) (de_int)) (da_cons (de_ix (de_var 4) (de_int)) (da_cons (de_ix (de_var 4) (de_int)) (da_cons (de_ix (de_var 4) (de_int)) (da_cons (de_ix (de_var 4) (de_int)) (da_nil))))))) (de_fnU D_law_best (hr.mono (by decide)) (passes_call (takes_of rfl rfl rfl rfl) fun _ _ _ _ h => h) (das_cons (de_var 4) (das_nil)))) (dw_or1 (dt_cmp (cm_ne hr) (de_fnStar0 D_best (hr.mono (by decide)) (passes_call (takes_of rfl rfl rfl rfl) fun _ _ _ _ h => h)) (de_str))))) (ds_last (ds_ret (de_bl))) (ds_nil)) (ds_last (ds_ret (de_cmp (cm_eq hr) (de_lst (da_cons (de_fnU D_joined (hr.mono (by decide)) (passes_call (takes_of rfl rfl rfl rfl) fun _ _ _ _ h => h) (das_cons (de_str) (das_cons (de_str) (das_nil)))) (da_cons (de_fnU D_joined (hr.mono (by decide)) (passes_call (takes_of rfl rfl rfl rfl) fun _ _ _ _ h => h) (das_cons (de_str) (das_cons (de_str) (das_nil)))) (da_cons (de_fnU D_joined (hr.mono (by decide)) (passes_call (takes_of rfl rfl rfl rfl) fun _ _ _ _ h => h) (das_cons (de_str) (das_cons (de_str) (das_nil)))) (da_cons (de_fnU D_joined (hr.mono (by decide)) (passes_call (takes_of rfl rfl rfl rfl) fun _ _ _ _ h => h) (das_cons (de_str) (das_cons (de_str) (das_nil)))) (da_cons (de_fnStar D_best (hr.mono (by decide)) (passes_call (takes_of rfl rfl rfl rfl) fun _ _ _ _ h => h) (da_cons (de_str) (da_cons (de_str) (da_nil)))) (da_cons (de_fnStar D_best (hr.mono (by decide)) (passes_call (takes_of rfl rfl rfl rfl) fun _ _ _ _ h => h) (da_cons (de_str) (da_cons (de_str) (da_nil)))) (da_nil)))))))) (de_lst (da_cons (de_str) (da_cons (de_str) (da_cons (de_str) (da_cons (de_str) (da_cons (de_str) (da_cons (de_str) (da_nil)))))))))))))
end
end K15

namespace K15
open PySem PySem.Spec PyProof.Rows L2 DL
theorem first_part (m : Bag) : sFor (fSeq (fC (.str "aseudwx"))) (gN 2) (b_law_2) (.un :: .hnd 0 :: List.replicate 4 .un) m = .nx [.un, .hnd 0, .dat (L 6), .dat (L 6), .un, .un] m := by
  kernel_rfl
theorem drawn (m : Bag) (hm : OkB m) (δ : Sls) : ∃ xs : List (Fin 7), xs.length = 5 ∧ ∃ m1, sSet 4 (fLc (fRange1 (fCons (fC (.int 5)) (fNil))) (gN 5) (fYes) (fCallN 2 F_law_of (saV 1 (saD (fC (.str "aseudwx")) (saNil)))) [5]) [.un, .hnd 0, .dat (L 6), .dat (L 6), .un, .un] m = .nx [.un, .hnd 0, .dat (L 6), .dat (L 6), .dat (.lst (xs.map L)), .un] m1 := by
  obtain ⟨ys, m1, e1, al, _⟩ := lcL_all (t := gN 5) (tt := fYes) (te := fCallN 2 F_law_of (saV 1 (saD (fC (.str "aseudwx")) (saNil)))) (δ0 := [.un, .hnd 0, .dat (L 6), .dat (L 6), .un, .un]) OkB (fun _ y => ∃ i : Fin 7, y = L i) (rng 0 5) m (fun d hd m hm => by
    refine ⟨_, rfl, m, rfl, ?_⟩
    obtain ⟨y, m2, e, hy, k⟩ := of_ok hm (x := .str "aseudwx") rfl (by decide +kernel) (by decide +kernel)
    exact ⟨y, m2, ev_callN (as := [.hnd 0, .dat (.str "aseudwx")]) rfl rfl e, signs7 y hy, k⟩) hm
  have hy : ∃ xs : List (Fin 7), ys = xs.map L := by
    have h : ∀ y ∈ ys, ∃ i : Fin 7, y = L i := fun d hd => by
      obtain ⟨_, _, h⟩ := forall2_mem al d hd
      exact h
    clear al e1
    induction ys with
    | nil => exact ⟨[], rfl⟩
    | cons y ys ih =>
      obtain ⟨xs, h1⟩ := ih fun z hz => h z (List.mem_cons_of_mem _ hz)
      obtain ⟨i, h2⟩ := h y (List.mem_cons_self ..)
      exact ⟨i :: xs, by rw [h1, h2]; rfl⟩
  obtain ⟨xs, rfl⟩ := hy
  have hl := forall2_len al
  rw [List.length_map] at hl
  refine ⟨xs, hl, m1, ?_⟩
  exact ev_set (i := 4) (ev_lc (ds := rng 0 5) (m1 := m) rfl (by decide +kernel) e1)
theorem last_part (m : Bag) (δ : Sls) : (f2 oEq (fLst (fCons (fCallU 2 F_joined (saD (fC (.str "s")) (saD (fC (.str "d")) (saNil)))) (fCons (fCallU 2 F_joined (saD (fC (.str "u")) (saD (fC (.str "s")) (saNil)))) (fCons (fCallU 2 F_joined (saD (fC (.str "e")) (saD (fC (.str "u")) (saNil)))) (fCons (fCallU 2 F_joined (saD (fC (.str "w")) (saD (fC (.str "a")) (saNil)))) (fCons (fStar F_best (fCons (fC (.str "u")) (fCons (fC (.str "s")) (fNil)))) (fCons (fStar F_best (fCons (fC (.str "e")) (fCons (fC (.str "a")) (fNil)))) (fNil)))))))) (fLst (fCons (fC (.str "d")) (fCons (fC (.str "s")) (fCons (fC (.str "u")) (fCons (fC (.str "w")) (fCons (fC (.str "s")) (fCons (fC (.str "a")) (fNil))))))))) δ m = .ok (.bl true) m := by
  kernel_rfl
theorem strOk_L : ∀ i : Fin 7, ∃ z : Str, L i = .str z ∧ PyData.strOk z = true := by
  refine all7 ?_ ?_ ?_ ?_ ?_ ?_ ?_ <;> exact ⟨_, rfl, by decide +kernel⟩
theorem ne_self (i : Fin 7) : oNe (L i) (L i) = some (.bl false) := by
  revert i
  refine all7 ?_ ?_ ?_ ?_ ?_ ?_ ?_ <;> kernel_rfl
theorem test_part (m : Bag) (xs : List (Fin 7)) (hl : xs.length = 5) : sIf (fOr (fB (f2 oNe (fStar F_best (fCons (f2 oIx (fVar 4) (fC (.int 0))) (fCons (f2 oIx (fVar 4) (fC (.int 1))) (fCons (f2 oIx (fVar 4) (fC (.int 2))) (fCons (f2 oIx (fVar 4) (fC (.int 3))) (fCons (f2 oIx (fVar 4) (fC (.int 4))) (fNil))))))) (fCallU 1 F_law_best (saD (fVar 4) (saNil))))) (fB (f2 oNe (fStar F_best fNil) (fC (.str "x"))))) (sRet (fC (.bl false))) (sNx) [.un, .hnd 0, .dat (L 6), .dat (L 6), .dat (.lst (xs.map L)), .un] m = .nx [.un, .hnd 0, .dat (L 6), .dat (L 6), .dat (.lst (xs.map L)), .un] m := by
  match xs, hl with
  | [a, b, c, d, e], _ =>
    have h1 : F_best [.dat (.tup [L a, L b, L c, L d, L e])] () = .ok (L ([a, b, c, d, e].foldl minF 6)) () := best_eq (xs := [a, b, c, d, e]) (show 5 < sizeLine by decide +kernel)
    have h2 : F_law_best [.dat (.lst [L a, L b, L c, L d, L e])] () = .ok (L ([a, b, c, d, e].foldl minF 6)) () := lawBest_eq (xs := [a, b, c, d, e]) rfl
    have h3 : fStar F_best (fCons (f2 oIx (fVar 4) (fC (.int 0))) (fCons (f2 oIx (fVar 4) (fC (.int 1))) (fCons (f2 oIx (fVar 4) (fC (.int 2))) (fCons (f2 oIx (fVar 4) (fC (.int 3))) (fCons (f2 oIx (fVar 4) (fC (.int 4))) (fNil)))))) [.un, .hnd 0, .dat (L 6), .dat (L 6), .dat (.lst ([a, b, c, d, e].map L)), .un] m = .ok (L ([a, b, c, d, e].foldl minF 6)) m := by
      show unU m (F_best [.dat (.tup [L a, L b, L c, L d, L e])] ()) = _
      rw [h1]; rfl
    have h4 : fCallU 1 F_law_best (saD (fVar 4) (saNil)) [.un, .hnd 0, .dat (L 6), .dat (L 6), .dat (.lst ([a, b, c, d, e].map L)), .un] m = .ok (L ([a, b, c, d, e].foldl minF 6)) m :=
      ev_callU (as := [.dat (.lst [L a, L b, L c, L d, L e])]) rfl ⟨rfl, rfl⟩ h2
    refine (ev_if (b := false) (m1 := m) ?_).trans rfl
    unfold fOr
    rw [ev_fB (ev_f2 h3 h4 (ne_self _))]
    kernel_rfl
theorem run (ns : List Int) (hn : ns.length ≤ 63) : ∃ m, g_law (.un :: .hnd 0 :: List.replicate 4 .un) ⟨ns, 0, 0, 3846⟩ = .rt (.bl true) m := by
  obtain ⟨xs, hl, m1, e1⟩ := drawn ⟨ns, 0, 0, 3846⟩ (okB0 ns) []
  exact ⟨m1, (ev_seq (first_part _)).trans ((ev_seq e1).trans ((ev_seq (test_part m1 xs hl)).trans (ev_ret (last_part m1 _))))⟩
end K15

namespace K15
open PySem PySem.Spec PyProof.Rows L2 DL
theorem all_mk {l : PySem.W.OpenLaw} {w : World} {K : PySem.W.Frag} {h : Heap} {mg : Str → Option Value} {fa : Addr} (X : K.In h) (G : h.Ns mainGlobals mg) (hfa : mg "law" = some (.ref fa))
    {u0 : Value} (e0 : PySem.W.nsIn K mainGlobals "GRADES" = some (some u0)) (er0 : readC K 9 u0 = some k_GRADES)
    {q1 : Addr} {es1 : Array DictEntry} {m1 : Nat} (e1 : PySem.W.nsIn K mainGlobals "GRADE_OF" = some (some (.ref q1))) (el1 : K.lookup q1 = some ⟨.type "dict", none, .dict es1 m1, #[]⟩) (ek1 : PySem.W.KeysLit w.params es1.toList) (er1 : ∀ p ∈ k_GRADE_OF, ∃ u, PySem.W.nsIn K q1 p.1 = some (some u) ∧ readC K 9 u = some p.2)
    {u2 : Value} (e2 : PySem.W.nsIn K mainGlobals "JOINED" = some (some u2)) (er2 : readC K 9 u2 = some k_JOINED)
    {u3 : Value} (e3 : PySem.W.nsIn K mainGlobals "AGAIN" = some (some u3)) (er3 : readC K 9 u3 = some k_AGAIN)
    {u4 : Value} (e4 : PySem.W.nsIn K mainGlobals "NONE" = some (some u4)) (er4 : readC K 9 u4 = some k_NONE)
    (b_abs : PySem.W.nsIn K mainGlobals "abs" = some none)
    (b_all : PySem.W.nsIn K mainGlobals "all" = some none)
    (b_bool : PySem.W.nsIn K mainGlobals "bool" = some none)
    (b_int : PySem.W.nsIn K mainGlobals "int" = some none)
    (b_isinstance : PySem.W.nsIn K mainGlobals "isinstance" = some none)
    (b_len : PySem.W.nsIn K mainGlobals "len" = some none)
    (b_list : PySem.W.nsIn K mainGlobals "list" = some none)
    (b_min : PySem.W.nsIn K mainGlobals "min" = some none)
    (b_range : PySem.W.nsIn K mainGlobals "range" = some none)
    (b_str : PySem.W.nsIn K mainGlobals "str" = some none)
    (b_tuple : PySem.W.nsIn K mainGlobals "tuple" = some none)
    (b_zip : PySem.W.nsIn K mainGlobals "zip" = some none)
    {f0 : Addr} {od0 an0 : Option Addr} {sl0 : Array (Option Value)} {oc0 kV0 dc0 pm0 cd0 ct0 : Value} (a0 : PySem.W.nsIn K mainGlobals "joined" = some (some (.ref f0))) (l0 : K.lookup f0 = some ⟨oc0, od0, .func (PySem.W.fnOf "joined" "joined" (defArgs (top 6)) (defBody (top 6)) (defScope (top 6)) .none kV0 dc0 pm0 an0 cd0 ct0), sl0⟩) (c0 : PySem.W.codeIn K cd0 "joined" = true) (k0 : PySem.W.keepIn K (.ref f0) = true)
    {f1 : Addr} {od1 an1 : Option Addr} {sl1 : Array (Option Value)} {oc1 kV1 dc1 pm1 cd1 ct1 : Value} (a1 : PySem.W.nsIn K mainGlobals "best" = some (some (.ref f1))) (l1 : K.lookup f1 = some ⟨oc1, od1, .func (PySem.W.fnOf "best" "best" (defArgs (top 7)) (defBody (top 7)) (defScope (top 7)) .none kV1 dc1 pm1 an1 cd1 ct1), sl1⟩) (c1 : PySem.W.codeIn K cd1 "best" = true) (k1 : PySem.W.keepIn K (.ref f1) = true)
    {f2 : Addr} {od2 an2 : Option Addr} {sl2 : Array (Option Value)} {oc2 kV2 dc2 pm2 cd2 ct2 : Value} (a2 : PySem.W.nsIn K mainGlobals "repeated" = some (some (.ref f2))) (l2 : K.lookup f2 = some ⟨oc2, od2, .func (PySem.W.fnOf "repeated" "repeated" (defArgs (top 8)) (defBody (top 8)) (defScope (top 8)) .none kV2 dc2 pm2 an2 cd2 ct2), sl2⟩) (c2 : PySem.W.codeIn K cd2 "repeated" = true) (k2 : PySem.W.keepIn K (.ref f2) = true)
    {f3 : Addr} {od3 an3 : Option Addr} {sl3 : Array (Option Value)} {oc3 kV3 dc3 pm3 cd3 ct3 : Value} (a3 : PySem.W.nsIn K mainGlobals "_law_pull" = some (some (.ref f3))) (l3 : K.lookup f3 = some ⟨oc3, od3, .func (PySem.W.fnOf "_law_pull" "_law_pull" (defArgs (top 10)) (defBody (top 10)) (defScope (top 10)) .none kV3 dc3 pm3 an3 cd3 ct3), sl3⟩) (c3 : PySem.W.codeIn K cd3 "_law_pull" = true) (k3 : PySem.W.keepIn K (.ref f3) = true)
    {f4 : Addr} {od4 an4 : Option Addr} {sl4 : Array (Option Value)} {oc4 kV4 dc4 pm4 cd4 ct4 : Value} (a4 : PySem.W.nsIn K mainGlobals "_law_of" = some (some (.ref f4))) (l4 : K.lookup f4 = some ⟨oc4, od4, .func (PySem.W.fnOf "_law_of" "_law_of" (defArgs (top 11)) (defBody (top 11)) (defScope (top 11)) .none kV4 dc4 pm4 an4 cd4 ct4), sl4⟩) (c4 : PySem.W.codeIn K cd4 "_law_of" = true) (k4 : PySem.W.keepIn K (.ref f4) = true)
    {f5 : Addr} {od5 an5 : Option Addr} {sl5 : Array (Option Value)} {oc5 kV5 dc5 pm5 cd5 ct5 : Value} (a5 : PySem.W.nsIn K mainGlobals "_law_same" = some (some (.ref f5))) (l5 : K.lookup f5 = some ⟨oc5, od5, .func (PySem.W.fnOf "_law_same" "_law_same" (defArgs (top 12)) (defBody (top 12)) (defScope (top 12)) .none kV5 dc5 pm5 an5 cd5 ct5), sl5⟩) (c5 : PySem.W.codeIn K cd5 "_law_same" = true) (k5 : PySem.W.keepIn K (.ref f5) = true)
    {f6 : Addr} {od6 an6 : Option Addr} {sl6 : Array (Option Value)} {oc6 kV6 dc6 pm6 cd6 ct6 : Value} (a6 : PySem.W.nsIn K mainGlobals "_law_bag" = some (some (.ref f6))) (l6 : K.lookup f6 = some ⟨oc6, od6, .func (PySem.W.fnOf "_law_bag" "_law_bag" (defArgs (top 13)) (defBody (top 13)) (defScope (top 13)) .none kV6 dc6 pm6 an6 cd6 ct6), sl6⟩) (c6 : PySem.W.codeIn K cd6 "_law_bag" = true) (k6 : PySem.W.keepIn K (.ref f6) = true)
    {f7 : Addr} {od7 an7 : Option Addr} {sl7 : Array (Option Value)} {oc7 kV7 dc7 pm7 cd7 ct7 : Value} (a7 : PySem.W.nsIn K mainGlobals "_law_joined" = some (some (.ref f7))) (l7 : K.lookup f7 = some ⟨oc7, od7, .func (PySem.W.fnOf "_law_joined" "_law_joined" (defArgs (top 14)) (defBody (top 14)) (defScope (top 14)) .none kV7 dc7 pm7 an7 cd7 ct7), sl7⟩) (c7 : PySem.W.codeIn K cd7 "_law_joined" = true) (k7 : PySem.W.keepIn K (.ref f7) = true)
    {f8 : Addr} {od8 an8 : Option Addr} {sl8 : Array (Option Value)} {oc8 kV8 dc8 pm8 cd8 ct8 : Value} (a8 : PySem.W.nsIn K mainGlobals "_law_best" = some (some (.ref f8))) (l8 : K.lookup f8 = some ⟨oc8, od8, .func (PySem.W.fnOf "_law_best" "_law_best" (defArgs (top 15)) (defBody (top 15)) (defScope (top 15)) .none kV8 dc8 pm8 an8 cd8 ct8), sl8⟩) (c8 : PySem.W.codeIn K cd8 "_law_best" = true) (k8 : PySem.W.keepIn K (.ref f8) = true)
    {f9 : Addr} {od9 an9 : Option Addr} {sl9 : Array (Option Value)} {oc9 kV9 dc9 pm9 cd9 ct9 : Value} (a9 : PySem.W.nsIn K mainGlobals "_law_repeated" = some (some (.ref f9))) (l9 : K.lookup f9 = some ⟨oc9, od9, .func (PySem.W.fnOf "_law_repeated" "_law_repeated" (defArgs (top 16)) (defBody (top 16)) (defScope (top 16)) .none kV9 dc9 pm9 an9 cd9 ct9), sl9⟩) (c9 : PySem.W.codeIn K cd9 "_law_repeated" = true) (k9 : PySem.W.keepIn K (.ref f9) = true)
    {f10 : Addr} {od10 an10 : Option Addr} {sl10 : Array (Option Value)} {oc10 kV10 dc10 pm10 cd10 ct10 : Value} (a10 : PySem.W.nsIn K mainGlobals "law" = some (some (.ref f10))) (l10 : K.lookup f10 = some ⟨oc10, od10, .func (PySem.W.fnOf "law" "law" (defArgs (top 17)) (defBody (top 17)) (defScope (top 17)) .none kV10 dc10 pm10 an10 cd10 ct10), sl10⟩) (c10 : PySem.W.codeIn K cd10 "law" = true) (k10 : PySem.W.keepIn K (.ref f10) = true)
    (run : ∀ ns : List Int, ns.length ≤ 63 → ∃ m, g_law (.un :: .hnd 0 :: List.replicate 4 .un) ⟨ns, 0, 0, 3846⟩ = .rt (.bl true) m) :
    ∃ fd : FuncData, (∀ (s : Shared) (v : Value), BindsTo s fd ⟨[v], []⟩ [("_law_script", v)]) ∧ ∀ base : Heap, K.In base → base.Ns mainGlobals mg → FnOk l.prog w K mg base (L2.CX l.prog w) 11 fa fd ["_law_script"] (spLaw K) := by
  have e := hfa.symm.trans (PySem.W.mg_of X G a10)
  cases e
  have T : Txt K w mg (fun _ => 0) := ⟨gc_of 9 (PySem.W.mg_of X G e0) er0,
    tc_of (PySem.W.mg_of X G e1) el1 ek1 (lookup_cases er1),
    gc_of 9 (PySem.W.mg_of X G e2) er2,
    gc_of 9 (PySem.W.mg_of X G e3) er3,
    gc_of 9 (PySem.W.mg_of X G e4) er4,
    PySem.W.mg_none_of X G b_abs,
    PySem.W.mg_none_of X G b_all,
    PySem.W.mg_none_of X G b_bool,
    PySem.W.mg_none_of X G b_int,
    PySem.W.mg_none_of X G b_isinstance,
    PySem.W.mg_none_of X G b_len,
    PySem.W.mg_none_of X G b_list,
    PySem.W.mg_none_of X G b_min,
    PySem.W.mg_none_of X G b_range,
    PySem.W.mg_none_of X G b_str,
    PySem.W.mg_none_of X G b_tuple,
    PySem.W.mg_none_of X G b_zip,
    ⟨f0, _, PySem.W.mg_of X G a0, fun_mk (st := top 6) l0 c0 k0, (fun_mk (st := top 6) l0 c0 k0).binds (ps := ["one", "other"]) fun _ _ _ _ _ _ us hl => match us, hl with | [_, _], _ => rfl⟩,
    ⟨f1, _, PySem.W.mg_of X G a1, fun_mk (st := top 7) l1 c1 k1, fun _ _ _ _ _ _ rest => by cases rest <;> rfl⟩,
    ⟨f2, _, PySem.W.mg_of X G a2, fun_mk (st := top 8) l2 c2 k2, (fun_mk (st := top 8) l2 c2 k2).binds (ps := ["value"]) fun _ _ _ _ _ _ us hl => match us, hl with | [_], _ => rfl⟩,
    ⟨f3, _, PySem.W.mg_of X G a3, fun_mk (st := top 10) l3 c3 k3, (fun_mk (st := top 10) l3 c3 k3).binds (ps := ["_law_bag_here", "_law_sides"]) fun _ _ _ _ _ _ us hl => match us, hl with | [_, _], _ => rfl⟩,
    ⟨f4, _, PySem.W.mg_of X G a4, fun_mk (st := top 11) l4 c4 k4, (fun_mk (st := top 11) l4 c4 k4).binds (ps := ["_law_bag_here", "_law_some"]) fun _ _ _ _ _ _ us hl => match us, hl with | [_, _], _ => rfl⟩,
    ⟨f5, _, PySem.W.mg_of X G a5, fun_mk (st := top 12) l5 c5 k5, (fun_mk (st := top 12) l5 c5 k5).binds (ps := ["_law_found", "_law_due"]) fun _ _ _ _ _ _ us hl => match us, hl with | [_, _], _ => rfl⟩,
    ⟨f6, _, PySem.W.mg_of X G a6, fun_mk (st := top 13) l6 c6 k6, (fun_mk (st := top 13) l6 c6 k6).binds (ps := ["_law_script"]) fun _ _ _ _ _ _ us hl => match us, hl with | [_], _ => rfl⟩,
    ⟨f7, _, PySem.W.mg_of X G a7, fun_mk (st := top 14) l7 c7 k7, (fun_mk (st := top 14) l7 c7 k7).binds (ps := ["_law_one_z", "_law_other_z"]) fun _ _ _ _ _ _ us hl => match us, hl with | [_, _], _ => rfl⟩,
    ⟨f8, _, PySem.W.mg_of X G a8, fun_mk (st := top 15) l8 c8 k8, (fun_mk (st := top 15) l8 c8 k8).binds (ps := ["_law_some"]) fun _ _ _ _ _ _ us hl => match us, hl with | [_], _ => rfl⟩,
    ⟨f9, _, PySem.W.mg_of X G a9, fun_mk (st := top 16) l9 c9 k9, (fun_mk (st := top 16) l9 c9 k9).binds (ps := ["_law_value_z"]) fun _ _ _ _ _ _ us hl => match us, hl with | [_], _ => rfl⟩,
    kb_of (⟨f2, _, PySem.W.mg_of X G a2, fun_mk (st := top 8) l2 c2 k2, (fun_mk (st := top 8) l2 c2 k2).binds (ps := ["value"]) fun _ _ _ _ _ _ us hl => match us, hl with | [_], _ => rfl⟩ : Df K mg "repeated" (top 8) ["value"]) [0] (fun _ _ _ _ _ _ ws hl => match ws, hl with | [_], _ => rfl),
    kb_of (⟨f0, _, PySem.W.mg_of X G a0, fun_mk (st := top 6) l0 c0 k0, (fun_mk (st := top 6) l0 c0 k0).binds (ps := ["one", "other"]) fun _ _ _ _ _ _ us hl => match us, hl with | [_, _], _ => rfl⟩ : Df K mg "joined" (top 6) ["one", "other"]) [1, 0] (fun _ _ _ _ _ _ ws hl => match ws, hl with | [_, _], _ => rfl)⟩
  have FL := fun_mk (st := top 17) l10 c10 k10
  exact ⟨_, fun s v => .of_eq rfl, fun base _ _ => ok_law FL T run⟩
theorem walk {l : PySem.W.OpenLaw} {q : Program} {loose : List Str} {XP : (Str → Option Value) → Heap → Prop} {YP : World → Heap → Prop} {d : DefRec} {K : Params → PySem.W.Frag} (hn : l.most = some 63) (hdf : d.params.defaults = [])
    (hY : ∀ (w : World) (h : Heap), YP w h → (K w.params).In h)
    (F : ∀ (w : World) (mg : Str → Option Value) (fa : Addr) (h : Heap), (K w.params).In h → h.Ns mainGlobals mg → mg d.name = some (.ref fa) →
      ∃ fd : FuncData, (∀ (s : Shared) (u : Value), BindsTo s fd ⟨[u], []⟩ [("_law_script", u)]) ∧ ∀ base : Heap, (K w.params).In base → base.Ns mainGlobals mg → FnOk l.prog w (K w.params) mg base (L2.CX l.prog w) 11 fa fd ["_law_script"] (spLaw (K w.params))) :
    PySem.W.WalkO q loose XP YP l.row.toRowW d [] (fun f vs => PySem.call f vs) :=
  L2.walk_of (n := 63) (k := 11) (x := "_law_script") (CX := fun w => L2.CX l.prog w) (sp := fun w => spLaw (K w.params)) hn (by decide) hdf ⟨rfl, by decide, by decide⟩ hY F (fun _ _ a ns hl _ hS => ⟨a, ns, rfl, hS, hl, fun _ => rfl⟩) fun _ _ _ _ _ z => by
    obtain ⟨_, _, _, _, _, _, _, _, _, _, _, _, z⟩ := z
    exact z
end K15
local macro_rules | `(tactic| walk_at "keys_lit") => `(tactic| (repeat (refine ⟨⟨_, _, rfl, rfl⟩, ?_⟩)); exact trivial)
open PySem PySem.W PyProof.Rows
set_option maxRecDepth 100000 in
set_option maxHeartbeats 0 in
theorem PySem.Challenge.cw_neverdry_k15_values_joined_holds : PySem.Challenge.rw_neverdry_k15_values_joined.Holds := by
  w_on; o_law; k_head; (case hw => w_witness2)
  k_fill
  refine K15.walk (l := PySem.Challenge.rw_neverdry_k15_values_joined) rfl rfl (fun w h Y => PySem.W.kIn_of Y) ?F
  case F =>
    intro w mg fa h KX G hmg
    refine' K15.all_mk KX G hmg ?e0 ?er0 ?e1 ?el1 ?ek1 ?er1 ?e2 ?er2 ?e3 ?er3 ?e4 ?er4 ?b_abs ?b_all ?b_bool ?b_int ?b_isinstance ?b_len ?b_list ?b_min ?b_range ?b_str ?b_tuple ?b_zip ?a0 ?l0 ?c0 ?k0 ?a1 ?l1 ?c1 ?k1 ?a2 ?l2 ?c2 ?k2 ?a3 ?l3 ?c3 ?k3 ?a4 ?l4 ?c4 ?k4 ?a5 ?l5 ?c5 ?k5 ?a6 ?l6 ?c6 ?k6 ?a7 ?l7 ?c7 ?k7 ?a8 ?l8 ?c8 ?k8 ?a9 ?l9 ?c9 ?k9 ?a10 ?l10 ?c10 ?k10 K15.run
    (case e0 => k_is); (case er0 => kernel_rfl)
    (case e1 => k_is); (case el1 => k_is); (case ek1 => exact by repeat (first | exact trivial | refine ⟨⟨_, _, rfl, rfl⟩, ?_⟩)); (case er1 => (intro p hp; simp only [K15.k_GRADE_OF, List.mem_cons, List.not_mem_nil, or_false] at hp; rcases hp with rfl | rfl | rfl | rfl | rfl | rfl | rfl) <;> (exact ⟨_, by k_is, by kernel_rfl⟩))
    (case e2 => k_is); (case er2 => kernel_rfl)
    (case e3 => k_is); (case er3 => kernel_rfl)
    (case e4 => k_is); (case er4 => kernel_rfl)
    (case b_abs => k_is)
    (case b_all => k_is)
    (case b_bool => k_is)
    (case b_int => k_is)
    (case b_isinstance => k_is)
    (case b_len => k_is)
    (case b_list => k_is)
    (case b_min => k_is)
    (case b_range => k_is)
    (case b_str => k_is)
    (case b_tuple => k_is)
    (case b_zip => k_is)
    (case a0 => k_is); (case l0 => k_is); (case c0 => k_is); (case k0 => k_is)
    (case a1 => k_is); (case l1 => k_is); (case c1 => k_is); (case k1 => k_is)
    (case a2 => k_is); (case l2 => k_is); (case c2 => k_is); (case k2 => k_is)
    (case a3 => k_is); (case l3 => k_is); (case c3 => k_is); (case k3 => k_is)
    (case a4 => k_is); (case l4 => k_is); (case c4 => k_is); (case k4 => k_is)
    (case a5 => k_is); (case l5 => k_is); (case c5 => k_is); (case k5 => k_is)
    (case a6 => k_is); (case l6 => k_is); (case c6 => k_is); (case k6 => k_is)
    (case a7 => k_is); (case l7 => k_is); (case c7 => k_is); (case k7 => k_is)
    (case a8 => k_is); (case l8 => k_is); (case c8 => k_is); (case k8 => k_is)
    (case a9 => k_is); (case l9 => k_is); (case c9 => k_is); (case k9 => k_is)
    (case a10 => k_is); (case l10 => k_is); (case c10 => k_is); (case k10 => k_is)

