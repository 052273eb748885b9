import PyProof.Rows.All
import Wide.All
import OpenK.AllK
import Wide.FinOn
import KE.KNestM
import HandS.EndTab
import HandS.ForMost
import HandS.Walk
import HandS.Exc
import HandS.ExcOwn
import HandS.WordsExc
import HandS.ExcCtx
import HandS.Lambda
import HandS.Nested
import HandS.TupAny
import HandS.Star
import HandS.Defaults
import PyProof.MinMaxWalk
import PyProof.WalkInts
import PyProof.ListStr
import KE.DatumOrd
import HandS.SortKw
import HandS.StrMore
import HandS.More
import HandS.Conv
import HandS.IsInst
import HandS.Zip
import HandS.Replace
import HandS.Style
import HandS.FStr
import HandS.RaiseMore
import HandS.SortInts
import HandS.Property
import HandS.ClsMeth
import HandS.Records
import PyProof.InstEq
import HandS.OwnEq
import HandS.SlotsOwn
import KE.GoesMore
import HandS.GenList
import PyProof.Draws
import HandS.Deep
import HandS.ExcInit
import KE.KExcSuper
import KE.KSuper
import HandS.ExcField
import HandS.ExcValue
import HandS.HotCalls
import KE.KTryMore
import HandS.NoneIn
import PyProof.Rows.Range3
import PySem.Challenge.RW_neverdry_k17_tables_told
set_option Elab.async false
set_option linter.all false
set_option maxRecDepth 100000
set_option maxHeartbeats 4000000
/-! Data over the hand layer: values as pure data, a mirror of the objects that may change, states as lists of slots, code as functions on them. -/
namespace DM
open PySem PySem.Spec PyProof.Rows L2

/-- pure data; an instance by its class's name, its attributes' names and their data; an object that may change by its place in the mirror -/
inductive D where
  | non | bl (b : Bool) | int (i : Int) | str (x : Str) | lst (ds : List D) | tup (ds : List D)
  | ins (c : Str) (ns : List Str) (ds : List D)
  | dK (ks : List Key) (ds : List D) | dT (ks : List (List Key)) (ds : List D)
  | ref (n : Nat)
  | lam (i : Nat) | tbl (q : Str)
  deriving Inhabited
/-- the mirror: what stands at each place; none: it is not looked at any more -/
abbrev Mir := List (Option D)

/-- what is told of the lambda i whose object is at a -/
structure Lm where
  p : Nat → Addr → Hp → Prop
  up : ∀ {i : Nat} {a : Addr} {H H' : Hp}, Same H H' → p i a H → p i a H'
def Lm.nil : Lm := ⟨fun _ _ _ => False, fun _ h => h⟩
/-- where the mirror's objects stand; what is hidden besides; what a lambda's object is told as -/
structure Wv where
  pi : List Addr
  hb : Addr → Bool
  lm : Lm
/-- a later world -/
structure Wle (π π' : Wv) : Prop where
  pre : π.pi <+: π'.pi
  lm : π'.lm = π.lm
theorem Wle.refl {π : Wv} : Wle π π := ⟨List.prefix_refl _, rfl⟩
theorem Wle.trans {π π1 π2 : Wv} (a : Wle π π1) (b : Wle π1 π2) : Wle π π2 := ⟨a.pre.trans b.pre, b.lm.trans a.lm⟩
/-- what a context tells of the world besides -/
structure Jx where
  p : Wv → Hp → Prop
  up : ∀ {π π' : Wv} {H H' : Hp}, Wle π π' → Same H H' → p π H → p π' H'
def Jx.top : Jx := ⟨fun _ _ => True, fun _ _ _ => trivial⟩
/-- where the classes stand; what the context tells -/
structure Cn where
  f : Str → Addr
  j : Jx
instance : CoeFun Cn (fun _ => Str → Addr) := ⟨Cn.f⟩
instance : CoeOut Cn (Str → Addr) := ⟨Cn.f⟩
abbrev c0 (f : Str → Addr) : Cn := ⟨f, Jx.top⟩
/-- the written part, where the classes stand, where the mirror's objects stand -/
structure Gx where
  K : PySem.W.Frag
  cn : Str → Addr
  pi : List Addr
  lm : Lm
  j : Jx
def Gx.at (G : Gx) (π : Wv) : Gx := ⟨G.K, G.cn, π.pi, π.lm, Jx.top⟩
def Gx.j0 (G : Gx) : Gx := ⟨G.K, G.cn, G.pi, G.lm, Jx.top⟩
abbrev gx (K : PySem.W.Frag) (cn : Cn) : Gx := ⟨K, cn.f, [], Lm.nil, cn.j⟩

mutual
def Rep (G : Gx) (H : Hp) : D → V → Prop
  | .non, v => v = .non
  | .bl b, v => v = .bl b
  | .int i, v => v = .int i
  | .str x, v => v = .str x ∧ x.length ≤ sizeLine
  | .lst ds, v => ∃ a xs, v = .ref a ∧ H a = some (.lst xs) ∧ RepAll G H ds xs
  | .tup ds, v => ∃ a xs, v = .ref a ∧ SqT G.K H a xs ∧ RepAll G H ds xs
  | .ins c ns ds, v => ∃ a dx xs, v = .ref a ∧ H a = some (.ins (G.cn c) dx (ns.zip xs)) ∧ RepAll G H ds xs
  | .dK ks ds, v => ∃ a xs, v = .ref a ∧ H a = some (.dK (ks.zip xs)) ∧ ks.length = ds.length ∧ RepAll G H ds xs
  | .dT ks ds, v => ∃ a xs, v = .ref a ∧ H a = some (.dT (ks.zip xs)) ∧ ks.length = ds.length ∧ RepAll G H ds xs
  | .ref n, v => ∃ a, v = .ref a ∧ G.pi[n]? = some a
  | .lam i, v => ∃ a, v = .ref a ∧ G.lm.p i a H
  | .tbl _, _ => False
def RepAll (G : Gx) (H : Hp) : List D → List V → Prop
  | [], vs => vs = []
  | d :: ds, vs => ∃ v r, vs = v :: r ∧ Rep G H d v ∧ RepAll G H ds r
end
/-- the object at a is d's, what is in it lies in H' -/
def Top (G : Gx) (H H' : Hp) (d : D) (a : Addr) : Prop := match d with
  | .lst ds => ∃ xs, H a = some (.lst xs) ∧ RepAll G H' ds xs
  | .ins c ns ds => ∃ dx xs, H a = some (.ins (G.cn c) dx (ns.zip xs)) ∧ ns.length = ds.length ∧ RepAll G H' ds xs
  | .dK ks ds => ∃ xs, H a = some (.dK (ks.zip xs)) ∧ ks.length = ds.length ∧ RepAll G H' ds xs
  | .dT ks ds => ∃ xs, H a = some (.dT (ks.zip xs)) ∧ ks.length = ds.length ∧ RepAll G H' ds xs
  | .tbl q => ∃ ps : Array Value, H a = some (.tbl ps) ∧ TriplesOk ps.toList ∧ ∀ (pos : Pos) (cv : Value), codeAmong pos ps.toList = some cv → ∃ c, cv = .ref c ∧ H' c = some (LamX.CodeO c q)
  | _ => False

theorem Same.sqL {K : PySem.W.Frag} {H H' : Hp} {a : Addr} {xs : List V} (e : Same H H') (h : SqL K H a xs) : SqL K H' a xs := e.seq h
theorem Same.sqT {K : PySem.W.Frag} {H H' : Hp} {a : Addr} {xs : List V} (e : Same H H') (h : SqT K H a xs) : SqT K H' a xs := by
  rcases h with (h | ⟨o, h⟩) | h
  · exact .inl (.inl (e _ _ h))
  · exact .inl (.inr ⟨o, e _ _ h⟩)
  · exact .inr h

theorem pre_get {π π' : Wv} (h : Wle π π') {n : Nat} {a : Addr} (e : π.pi[n]? = some a) : π'.pi[n]? = some a := by
  obtain ⟨t, h⟩ := h.pre
  rw [← h]
  rw [List.getElem?_append_left (List.getElem?_eq_some_iff.mp e).1]
  exact e
section
variable {G : Gx} {H H' : Hp} {π π' : Wv}
mutual
/-- more objects, a longer mirror -/
theorem Rep.up (p : Wle π π') (e : Same H H') : ∀ (d : D) {v : V}, Rep (G.at π) H d v → Rep (G.at π') H' d v
  | .non, _, h => h
  | .bl _, _, h => h
  | .int _, _, h => h
  | .str _, _, h => h
  | .lst ds, _, ⟨a, xs, h1, h2, h3⟩ => ⟨a, xs, h1, e _ _ h2, RepAll.up p e ds h3⟩
  | .tup ds, _, ⟨a, xs, h1, h2, h3⟩ => ⟨a, xs, h1, Same.sqT e h2, RepAll.up p e ds h3⟩
  | .ins c ns ds, _, ⟨a, dx, xs, h1, h2, h3⟩ => ⟨a, dx, xs, h1, e _ _ h2, RepAll.up p e ds h3⟩
  | .dK ks ds, _, ⟨a, xs, h1, h2, h4, h3⟩ => ⟨a, xs, h1, e _ _ h2, h4, RepAll.up p e ds h3⟩
  | .dT ks ds, _, ⟨a, xs, h1, h2, h4, h3⟩ => ⟨a, xs, h1, e _ _ h2, h4, RepAll.up p e ds h3⟩
  | .ref n, _, ⟨a, h1, h2⟩ => ⟨a, h1, pre_get p h2⟩
  | .lam i, _, ⟨a, h1, h2⟩ => ⟨a, h1, by
    have h3 : π.lm.p i a H := h2
    show π'.lm.p i a H'
    rw [p.lm]
    exact π.lm.up e h3⟩
  | .tbl _, _, h => h
theorem RepAll.up (p : Wle π π') (e : Same H H') : ∀ (ds : List D) {vs : List V}, RepAll (G.at π) H ds vs → RepAll (G.at π') H' ds vs
  | [], _, h => h
  | d :: ds, _, ⟨v, r, h1, h2, h3⟩ => ⟨v, r, h1, Rep.up p e d h2, RepAll.up p e ds h3⟩
end
mutual
theorem Rep.mono (e : Same H H') : ∀ (d : D) {v : V}, Rep G H d v → Rep G H' d v
  | .non, _, h => h
  | .bl _, _, h => h
  | .int _, _, h => h
  | .str _, _, h => h
  | .lst ds, _, ⟨a, xs, h1, h2, h3⟩ => ⟨a, xs, h1, e _ _ h2, RepAll.mono e ds h3⟩
  | .tup ds, _, ⟨a, xs, h1, h2, h3⟩ => ⟨a, xs, h1, Same.sqT e h2, RepAll.mono e ds h3⟩
  | .ins c ns ds, _, ⟨a, dx, xs, h1, h2, h3⟩ => ⟨a, dx, xs, h1, e _ _ h2, RepAll.mono e ds h3⟩
  | .dK ks ds, _, ⟨a, xs, h1, h2, h4, h3⟩ => ⟨a, xs, h1, e _ _ h2, h4, RepAll.mono e ds h3⟩
  | .dT ks ds, _, ⟨a, xs, h1, h2, h4, h3⟩ => ⟨a, xs, h1, e _ _ h2, h4, RepAll.mono e ds h3⟩
  | .ref n, _, h => h
  | .lam i, _, ⟨a, h1, h2⟩ => ⟨a, h1, G.lm.up e h2⟩
  | .tbl _, _, h => h
theorem RepAll.mono (e : Same H H') : ∀ (ds : List D) {vs : List V}, RepAll G H ds vs → RepAll G H' ds vs
  | [], _, h => h
  | d :: ds, _, ⟨v, r, h1, h2, h3⟩ => ⟨v, r, h1, Rep.mono e d h2, RepAll.mono e ds h3⟩
end
theorem RepAll.length : ∀ {ds : List D} {vs : List V}, RepAll G H ds vs → vs.length = ds.length
  | [], _, h => by
    have h : _ = [] := h
    rw [h]; rfl
  | d :: ds, _, ⟨v, r, h1, h2, h3⟩ => by
    rw [h1, List.length_cons, List.length_cons, RepAll.length h3]
theorem RepAll.get : ∀ {ds : List D} {vs : List V} {i : Nat} {v : V}, RepAll G H ds vs → vs[i]? = some v → ∃ d, ds[i]? = some d ∧ Rep G H d v
  | [], _, i, v, h, e => by
    have h : _ = [] := h
    rw [h] at e; simp at e
  | d :: ds, _, 0, v, ⟨u, r, h1, h2, h3⟩, e => by
    rw [h1] at e
    simp at e
    exact ⟨d, rfl, e ▸ h2⟩
  | d :: ds, _, i + 1, v, ⟨u, r, h1, h2, h3⟩, e => by
    rw [h1] at e
    simp at e
    simpa using RepAll.get h3 e
theorem RepAll.getD : ∀ {ds : List D} {vs : List V} {i : Nat} {d : D}, RepAll G H ds vs → ds[i]? = some d → ∃ v, vs[i]? = some v ∧ Rep G H d v
  | [], _, i, d, h, e => by simp at e
  | d :: ds, _, 0, d', ⟨u, r, h1, h2, h3⟩, e => by
    simp at e
    subst e; subst h1
    exact ⟨u, rfl, h2⟩
  | d :: ds, _, i + 1, d', ⟨u, r, h1, h2, h3⟩, e => by
    simp at e
    subst h1
    simpa using RepAll.getD h3 e
theorem RepAll.append : ∀ {ds es : List D} {vs us : List V}, RepAll G H ds vs → RepAll G H es us → RepAll G H (ds ++ es) (vs ++ us)
  | [], es, vs, us, h, k => by
    have h : vs = [] := h
    subst h; exact k
  | d :: ds, es, vs, us, ⟨v, r, h1, h2, h3⟩, k => by
    subst h1
    exact ⟨v, r ++ us, rfl, h2, RepAll.append h3 k⟩
theorem RepAll.one {d : D} {v : V} (h : Rep G H d v) : RepAll G H [d] [v] := ⟨v, [], rfl, h, rfl⟩
theorem RepAll.set : ∀ {ds : List D} {vs : List V} {i : Nat} {d : D} {v : V}, RepAll G H ds vs → Rep G H d v → RepAll G H (ds.set i d) (vs.set i v)
  | [], vs, i, d, v, h, k => by
    have h : vs = [] := h
    subst h; exact (rfl : ([] : List V) = [])
  | e :: ds, vs, 0, d, v, ⟨u, r, h1, h2, h3⟩, k => by
    subst h1
    exact ⟨v, r, rfl, k, h3⟩
  | e :: ds, vs, i + 1, d, v, ⟨u, r, h1, h2, h3⟩, k => by
    subst h1
    exact ⟨u, r.set i v, rfl, h2, RepAll.set h3 k⟩
theorem RepAll.take : ∀ {ds : List D} {vs : List V} (n : Nat), RepAll G H ds vs → RepAll G H (ds.take n) (vs.take n)
  | _, _, 0, _ => (rfl : ([] : List V) = [])
  | [], vs, n + 1, h => by
    have h : vs = [] := h
    subst h; exact (rfl : ([] : List V) = [])
  | d :: ds, vs, n + 1, ⟨u, r, h1, h2, h3⟩ => by
    subst h1
    exact ⟨u, r.take n, rfl, h2, RepAll.take n h3⟩
theorem RepAll.drop : ∀ {ds : List D} {vs : List V} (n : Nat), RepAll G H ds vs → RepAll G H (ds.drop n) (vs.drop n)
  | _, _, 0, h => h
  | [], vs, n + 1, h => by
    have h : vs = [] := h
    subst h; exact (rfl : ([] : List V) = [])
  | d :: ds, vs, n + 1, ⟨u, r, h1, h2, h3⟩ => by
    subst h1
    exact RepAll.drop n h3
theorem RepAll.flat : ∀ {d : D} {n : Nat} {v : V}, Rep G H d v → RepAll G H (List.replicate n d) (List.replicate n v)
  | _, 0, _, _ => (rfl : ([] : List V) = [])
  | d, n + 1, v, h => ⟨v, List.replicate n v, rfl, h, RepAll.flat h⟩
end

/-! ### hidden objects -/
def hid (hd : Addr → Bool) (H : Hp) : Hp := fun a => if hd a = true then none else H a
theorem hid_some {hd : Addr → Bool} {H : Hp} {a : Addr} {o : HO} : hid hd H a = some o ↔ hd a = false ∧ H a = some o := by
  unfold hid
  cases h : hd a <;> simp
theorem hid_same {hd : Addr → Bool} {H H' : Hp} (e : ∀ a o, hd a = false → H a = some o → H' a = some o) : Same (hid hd H) (hid hd H') := fun a o h => by
  obtain ⟨h1, h2⟩ := hid_some.mp h
  exact hid_some.mpr ⟨h1, e a o h1 h2⟩
theorem hid_le {hd hd' : Addr → Bool} {H : Hp} (e : ∀ a o, H a = some o → hd a = false → hd' a = false) : Same (hid hd H) (hid hd' H) := fun a o h => by
  obtain ⟨h1, h2⟩ := hid_some.mp h
  exact hid_some.mpr ⟨e a o h2 h1, h2⟩
theorem hid_self {hd : Addr → Bool} {H : Hp} : Same (hid hd H) H := fun a o h => (hid_some.mp h).2

/-- the objects that the mirror looks at -/
noncomputable def mlv (π : Wv) (m : Mir) : Addr → Bool := fun a => @decide (∃ (n : Nat) (d : D), π.pi[n]? = some a ∧ m[n]? = some (some d)) (Classical.propDecidable _)
theorem mlv_iff {π : Wv} {m : Mir} {a : Addr} : mlv π m a = true ↔ ∃ (n : Nat) (d : D), π.pi[n]? = some a ∧ m[n]? = some (some d) := by
  unfold mlv
  exact @decide_eq_true_iff _ (Classical.propDecidable _)
theorem mlv_mem {π : Wv} {m : Mir} {a : Addr} (h : mlv π m a = true) : a ∈ π.pi := by
  obtain ⟨n, d, h1, _⟩ := mlv_iff.mp h
  exact List.mem_of_getElem? h1
/-- what is hidden to data -/
noncomputable def lv (π : Wv) (m : Mir) : Addr → Bool := fun a => π.hb a || mlv π m a
theorem lv_false {π : Wv} {m : Mir} {a : Addr} : lv π m a = false ↔ π.hb a = false ∧ mlv π m a = false := by
  unfold lv
  exact Bool.or_eq_false_iff

/-- the mirror tells what stands -/
structure MOk (G : Gx) (π : Wv) (H : Hp) (m : Mir) : Prop where
  len : π.pi.length = m.length
  nd : π.pi.Nodup
  al : ∀ a ∈ π.pi, H a ≠ none
  alb : ∀ a, π.hb a = true → H a ≠ none
  sep : ∀ a ∈ π.pi, π.hb a = false
  cel : ∀ (n : Nat) (d : D) (a : Addr), m[n]? = some (some d) → π.pi[n]? = some a → Top (G.at π) H (hid (lv π m) H) d a
theorem MOk.fresh {G : Gx} {π : Wv} {H : Hp} {m : Mir} (k : MOk G π H m) {p : Addr} (hp : H p = none) : lv π m p = false := by
  refine lv_false.mpr ⟨?_, ?_⟩
  · cases q : π.hb p with
    | false => rfl
    | true => exact absurd hp (k.alb p q)
  · cases q : mlv π m p with
    | false => rfl
    | true => exact absurd hp (k.al p (mlv_mem q))
theorem MOk.at {G : Gx} {π : Wv} {H : Hp} {m : Mir} (k : MOk G π H m) {n : Nat} {d : D} (h : m[n]? = some (some d)) : ∃ a, π.pi[n]? = some a := by
  have h1 := (List.getElem?_eq_some_iff.mp h).1
  have h2 := k.len
  exact ⟨π.pi[n]'(by omega), List.getElem?_eq_getElem (by omega)⟩
/-- all but the mirror's objects stands, and is not in the mirror -/
structure Ex (π : Wv) (m : Mir) (H : Hp) (π2 : Wv) (m2 : Mir) (H2 : Hp) : Prop where
  pre : Wle π π2
  hb : π2.hb = π.hb
  st : ∀ a o, mlv π m a = false → H a = some o → H2 a = some o ∧ mlv π2 m2 a = false
theorem Ex.refl {π : Wv} {m : Mir} {H : Hp} : Ex π m H π m H := ⟨Wle.refl, rfl, fun _ _ h1 h2 => ⟨h2, h1⟩⟩
theorem Ex.trans {π π1 π2 : Wv} {m m1 m2 : Mir} {H H1 H2 : Hp} (a : Ex π m H π1 m1 H1) (b : Ex π1 m1 H1 π2 m2 H2) : Ex π m H π2 m2 H2 :=
  ⟨a.pre.trans b.pre, b.hb.trans a.hb, fun x o h1 h2 => by
    obtain ⟨h3, h4⟩ := a.st x o h1 h2
    exact b.st x o h4 h3⟩
theorem Ex.same {π π2 : Wv} {m m2 : Mir} {H H2 : Hp} (e : Ex π m H π2 m2 H2) : Same (hid (lv π m) H) (hid (lv π2 m2) H2) := fun a o h => by
  obtain ⟨h1, h2⟩ := hid_some.mp h
  obtain ⟨h5, h6⟩ := lv_false.mp h1
  obtain ⟨h3, h4⟩ := e.st a o h6 h2
  exact hid_some.mpr ⟨lv_false.mpr ⟨by rw [e.hb]; exact h5, h4⟩, h3⟩
theorem Ex.of {π : Wv} {m : Mir} {H H2 : Hp} (e : Same H H2) : Ex π m H π m H2 := ⟨Wle.refl, rfl, fun a o h1 h2 => ⟨e a o h2, h1⟩⟩
theorem Ex.rep {G : Gx} {π π2 : Wv} {m m2 : Mir} {H H2 : Hp} (e : Ex π m H π2 m2 H2) (d : D) {v : V} (r : Rep (G.at π) (hid (lv π m) H) d v) : Rep (G.at π2) (hid (lv π2 m2) H2) d v := Rep.up e.pre e.same d r
theorem Ex.repAll {G : Gx} {π π2 : Wv} {m m2 : Mir} {H H2 : Hp} (e : Ex π m H π2 m2 H2) (d : List D) {v : List V} (r : RepAll (G.at π) (hid (lv π m) H) d v) : RepAll (G.at π2) (hid (lv π2 m2) H2) d v := RepAll.up e.pre e.same d r
theorem Top.up {G : Gx} {π π' : Wv} {H H2 Hh Hh2 : Hp} {d : D} {a : Addr} (p : Wle π π') (e : Same Hh Hh2) (h : ∀ o, H a = some o → H2 a = some o) (t : Top (G.at π) H Hh d a) : Top (G.at π') H2 Hh2 d a := by
  cases d with
  | lst ds => obtain ⟨xs, h1, h2⟩ := t; exact ⟨xs, h _ h1, RepAll.up p e ds h2⟩
  | ins c ns ds => obtain ⟨dx, xs, h1, h3, h2⟩ := t; exact ⟨dx, xs, h _ h1, h3, RepAll.up p e ds h2⟩
  | dK ks ds => obtain ⟨xs, h1, h3, h2⟩ := t; exact ⟨xs, h _ h1, h3, RepAll.up p e ds h2⟩
  | dT ks ds => obtain ⟨xs, h1, h3, h2⟩ := t; exact ⟨xs, h _ h1, h3, RepAll.up p e ds h2⟩
  | tbl q =>
    obtain ⟨ps, h1, h2, h3⟩ := t
    exact ⟨ps, h _ h1, h2, fun pos cv hc => by
      obtain ⟨c, e1, e2⟩ := h3 pos cv hc
      exact ⟨c, e1, e _ _ e2⟩⟩
  | _ => exact t
theorem MOk.keep {G : Gx} {π : Wv} {H H2 : Hp} {m : Mir} (k : MOk G π H m) (e : Same H H2) : MOk G π H2 m := by
  have al : ∀ a, H a ≠ none → H2 a ≠ none := fun a ha => by
    cases q : H a with
    | none => exact absurd q ha
    | some o => rw [e a o q]; simp
  exact ⟨k.len, k.nd, fun a ha => al a (k.al a ha), fun a ha => al a (k.alb a ha), k.sep, fun n d a h1 h2 => Top.up (Wle.refl) (hid_same fun b o _ q => e b o q) (fun o q => e a o q) (k.cel n d a h1 h2)⟩
/-- a step: from one state to a later one -/
structure Go (G : Gx) (π : Wv) (m : Mir) (H : Hp) (π2 : Wv) (m2 : Mir) (H2 : Hp) : Prop where
  ex : Ex π m H π2 m2 H2
  ok : MOk G π2 H2 m2
theorem Go.refl {G : Gx} {π : Wv} {m : Mir} {H : Hp} (k : MOk G π H m) : Go G π m H π m H := ⟨Ex.refl, k⟩
theorem Go.trans {G : Gx} {π π1 π2 : Wv} {m m1 m2 : Mir} {H H1 H2 : Hp} (a : Go G π m H π1 m1 H1) (b : Go G π1 m1 H1 π2 m2 H2) : Go G π m H π2 m2 H2 := ⟨a.ex.trans b.ex, b.ok⟩
theorem Go.of {G : Gx} {π : Wv} {m : Mir} {H H2 : Hp} (k : MOk G π H m) (e : Same H H2) : Go G π m H π m H2 := ⟨Ex.of e, k.keep e⟩
theorem Go.new {G : Gx} {π π1 : Wv} {m m1 : Mir} {H H1 H2 : Hp} (a : Go G π m H π1 m1 H1) (e : Same H1 H2) : Go G π m H π1 m1 H2 := a.trans (Go.of a.ok e)

/-- an exception: its class's name, its attributes -/
structure Exn where
  c : Str
  ns : List Str
  ds : List D
/-- what comes of an expression: data, an exception, or nothing that is known -/
inductive Rs (α : Type) where
  | ok (a : α) (m : Mir) | exc (x : Exn) (m : Mir) | bad
def Rs.bind {α β : Type} (r : Rs α) (f : α → Mir → Rs β) : Rs β := match r with
  | .ok a m => f a m
  | .exc x m => .exc x m
  | .bad => .bad
/-- what a slot holds: nothing that is known, or data -/
inductive Sl where
  | un | dat (d : D)
  deriving Inhabited
abbrev Sls := List Sl
abbrev Fe := Sls → Mir → Rs D
abbrev Ft := Sls → Mir → Rs Bool
abbrev Fa := Sls → Mir → Rs (List D)
/-- what is wanted of an exception, by the slots where it is raised -/
abbrev XKS := L2.St → XK

def SlOk (G : Gx) (H : Hp) : Sl → Option V → Prop
  | .un, _ => True
  | .dat d, v => ∃ x, v = some x ∧ Rep G H d x
/-- the slots' values are what δ says -/
structure EnvOk (G : Gx) (H : Hp) (σ : L2.St) (δ : Sls) : Prop where
  len : δ.length = σ.length
  sl : ∀ (i : Nat) s, δ[i]? = some s → ∃ v, σ[i]? = some v ∧ SlOk G H s v
/-- the state at hand -/
structure At (G : Gx) (π : Wv) (σ : L2.St) (H : Hp) (δ : Sls) (m : Mir) : Prop where
  env : EnvOk (G.at π) (hid (lv π m) H) σ δ
  mok : MOk G π H m
  inv : G.j.p π (hid (lv π m) H)
section
variable {G : Gx} {π π1 π2 : Wv} {σ : L2.St} {H H1 H2 : Hp} {δ : Sls} {m m1 m2 : Mir} {E : XK}
theorem EnvOk.up (e : EnvOk (G.at π) H σ δ) (p : Wle π π2) (s : Same H H2) : EnvOk (G.at π2) H2 σ δ :=
  ⟨e.len, fun i x h => by
    obtain ⟨v, h1, h2⟩ := e.sl i x h
    refine ⟨v, h1, ?_⟩
    cases x with
    | un => trivial
    | dat d =>
      obtain ⟨y, h3, h4⟩ := h2
      exact ⟨y, h3, Rep.up p s d h4⟩⟩
theorem At.step (a : At G π σ H δ m) (g : Go G π m H π2 m2 H2) : At G π2 σ H2 δ m2 := ⟨a.env.up g.ex.pre g.ex.same, g.ok, G.j.up g.ex.pre g.ex.same a.inv⟩
theorem At.new (a : At G π σ H δ m) : ∀ p, H p = none → lv π m p = false := fun _ hp => a.mok.fresh hp
theorem At.go (a : At G π σ H δ m) : Go G π m H π m H := Go.refl a.mok

/-- how an exception lies: its class, its own dict's attributes -/
def ExcOk (G : Gx) (H : Hp) (x : Exn) (cls : Value) (dd : Option Addr) : Prop :=
  cls = .ref (G.cn x.c) ∧ ((dd = none ∧ x.ns = [] ∧ x.ds = []) ∨ ∃ d xs, dd = some d ∧ H d = some (.xd (x.ns.zip xs)) ∧ RepAll G H x.ds xs)
theorem ExcOk.up {x : Exn} {cls : Value} {dd : Option Addr} (p : Wle π π2) (e : Same H H2) (h : ExcOk (G.at π) H x cls dd) : ExcOk (G.at π2) H2 x cls dd := by
  obtain ⟨h1, h2⟩ := h
  refine ⟨h1, ?_⟩
  rcases h2 with h2 | ⟨d, xs, h2, h3, h4⟩
  · exact .inl h2
  · exact .inr ⟨d, xs, h2, e _ _ h3, RepAll.up p e _ h4⟩

/-- what is wanted behind a result -/
def Post (G : Gx) (E : XK) (π : Wv) (m : Mir) (H : Hp) (Q : VK) : Rs D → Prop
  | .ok d m2 => ∀ π2 v H2, Go G π m H π2 m2 H2 → Rep (G.at π2) (hid (lv π2 m2) H2) d v → Q v H2
  | .exc x m2 => ∀ π2 cls dd H2, Go G π m H π2 m2 H2 → ExcOk (G.at π2) (hid (lv π2 m2) H2) x cls dd → E cls dd H2
  | .bad => False
def PostT (G : Gx) (E : XK) (π : Wv) (m : Mir) (H : Hp) (Q : Bool → Hp → Prop) : Rs Bool → Prop
  | .ok b m2 => ∀ π2 H2, Go G π m H π2 m2 H2 → Q b H2
  | .exc x m2 => ∀ π2 cls dd H2, Go G π m H π2 m2 H2 → ExcOk (G.at π2) (hid (lv π2 m2) H2) x cls dd → E cls dd H2
  | .bad => False
def PostA (G : Gx) (E : XK) (π : Wv) (m : Mir) (H : Hp) (Q : List V → Hp → Prop) : Rs (List D) → Prop
  | .ok ds m2 => ∀ π2 vs H2, Go G π m H π2 m2 H2 → RepAll (G.at π2) (hid (lv π2 m2) H2) ds vs → Q vs H2
  | .exc x m2 => ∀ π2 cls dd H2, Go G π m H π2 m2 H2 → ExcOk (G.at π2) (hid (lv π2 m2) H2) x cls dd → E cls dd H2
  | .bad => False
end
/-- the readings: an expression's, a test's, an argument list's -/
def tD (G : Gx) (E : XKS) (f : Fe) : TE := fun σ H Q => ∃ π δ m, At G π σ H δ m ∧ Post G (E σ) π m H Q (f δ m)
def tDT (G : Gx) (E : XKS) (f : Ft) : TT := fun σ H Q => ∃ π δ m, At G π σ H δ m ∧ PostT G (E σ) π m H Q (f δ m)
def tDA (G : Gx) (E : XKS) (f : Fa) : TA := fun σ H Q => ∃ π δ m, At G π σ H δ m ∧ PostA G (E σ) π m H Q (f δ m)

section
variable {G : Gx} {π π1 π2 : Wv} {σ : L2.St} {H H1 H2 : Hp} {δ : Sls} {m m1 m2 : Mir} {E : XK}
theorem Post.from_ {Q : VK} {r : Rs D} (e : Go G π m H π1 m1 H1) (h : Post G E π m H Q r) : Post G E π1 m1 H1 Q r := by
  cases r with
  | ok d m => exact fun π2 v H3 s => h π2 v H3 (e.trans s)
  | exc x m => exact fun π2 c dd H3 s => h π2 c dd H3 (e.trans s)
  | bad => exact h
theorem PostT.from_ {Q : Bool → Hp → Prop} {r : Rs Bool} (e : Go G π m H π1 m1 H1) (h : PostT G E π m H Q r) : PostT G E π1 m1 H1 Q r := by
  cases r with
  | ok d m => exact fun π2 H3 s => h π2 H3 (e.trans s)
  | exc x m => exact fun π2 c dd H3 s => h π2 c dd H3 (e.trans s)
  | bad => exact h
theorem PostA.from_ {Q : List V → Hp → Prop} {r : Rs (List D)} (e : Go G π m H π1 m1 H1) (h : PostA G E π m H Q r) : PostA G E π1 m1 H1 Q r := by
  cases r with
  | ok d m => exact fun π2 v H3 s => h π2 v H3 (e.trans s)
  | exc x m => exact fun π2 c dd H3 s => h π2 c dd H3 (e.trans s)
  | bad => exact h
end

/-! ### what a context tells besides plays no part in a result -/
theorem MOk.j0 {G : Gx} {π : Wv} {H : Hp} {m : Mir} (k : MOk G π H m) : MOk G.j0 π H m := ⟨k.len, k.nd, k.al, k.alb, k.sep, k.cel⟩
theorem MOk.ofJ0 {G : Gx} {π : Wv} {H : Hp} {m : Mir} (k : MOk G.j0 π H m) : MOk G π H m := ⟨k.len, k.nd, k.al, k.alb, k.sep, k.cel⟩
theorem At.j0 {G : Gx} {π : Wv} {σ : L2.St} {H : Hp} {δ : Sls} {m : Mir} (a : At G π σ H δ m) : At G.j0 π σ H δ m := ⟨a.env, a.mok.j0, trivial⟩
theorem Post.j0 {G : Gx} {E : XK} {π : Wv} {m : Mir} {H : Hp} {Q : VK} {r : Rs D} (p : Post G E π m H Q r) : Post G.j0 E π m H Q r := by
  cases r with
  | ok d m1 => exact fun π2 v H2 s r => p π2 v H2 ⟨s.ex, s.ok.ofJ0⟩ r
  | exc x m1 => exact fun π2 c dd H2 s r => p π2 c dd H2 ⟨s.ex, s.ok.ofJ0⟩ r
  | bad => exact p
theorem Post.ofJ0 {G : Gx} {E : XK} {π : Wv} {m : Mir} {H : Hp} {Q : VK} {r : Rs D} (p : Post G.j0 E π m H Q r) : Post G E π m H Q r := by
  cases r with
  | ok d m1 => exact fun π2 v H2 s r => p π2 v H2 ⟨s.ex, s.ok.j0⟩ r
  | exc x m1 => exact fun π2 c dd H2 s r => p π2 c dd H2 ⟨s.ex, s.ok.j0⟩ r
  | bad => exact p

/-! ### what stands at a place of the mirror, at once -/
/-- the object itself may be in the mirror, what is in it is not hidden -/
def RepT (G : Gx) (H Hh : Hp) : D → V → Prop
  | .lst ds, v => ∃ a xs, v = .ref a ∧ H a = some (.lst xs) ∧ RepAll G Hh ds xs
  | .ins c ns ds, v => ∃ a dx xs, v = .ref a ∧ H a = some (.ins (G.cn c) dx (ns.zip xs)) ∧ RepAll G Hh ds xs
  | .dK ks ds, v => ∃ a xs, v = .ref a ∧ H a = some (.dK (ks.zip xs)) ∧ ks.length = ds.length ∧ RepAll G Hh ds xs
  | .dT ks ds, v => ∃ a xs, v = .ref a ∧ H a = some (.dT (ks.zip xs)) ∧ ks.length = ds.length ∧ RepAll G Hh ds xs
  | .tbl _, _ => False
  | d, v => Rep G Hh d v
def RepTs (G : Gx) (H Hh : Hp) : List D → List V → Prop
  | [], vs => vs = []
  | d :: ds, vs => ∃ v r, vs = v :: r ∧ RepT G H Hh d v ∧ RepTs G H Hh ds r
theorem Rep.top {G : Gx} {hd : Addr → Bool} {H : Hp} {d : D} {v : V} (r : Rep G (hid hd H) d v) : RepT G H (hid hd H) d v := by
  cases d with
  | lst ds => obtain ⟨a, xs, h1, h2, h3⟩ := r; exact ⟨a, xs, h1, hid_self _ _ h2, h3⟩
  | ins c ns ds => obtain ⟨a, dx, xs, h1, h2, h3⟩ := r; exact ⟨a, dx, xs, h1, hid_self _ _ h2, h3⟩
  | dK ks ds => obtain ⟨a, xs, h1, h2, h3⟩ := r; exact ⟨a, xs, h1, hid_self _ _ h2, h3⟩
  | dT ks ds => obtain ⟨a, xs, h1, h2, h3⟩ := r; exact ⟨a, xs, h1, hid_self _ _ h2, h3⟩
  | _ => exact r
theorem RepT.rep {G : Gx} {hd : Addr → Bool} {H : Hp} {d : D} {v : V} (r : RepT G H (hid hd H) d v) : Rep G H d v := by
  cases d with
  | lst ds => obtain ⟨a, xs, h1, h2, h3⟩ := r; exact ⟨a, xs, h1, h2, RepAll.mono hid_self ds h3⟩
  | ins c ns ds => obtain ⟨a, dx, xs, h1, h2, h3⟩ := r; exact ⟨a, dx, xs, h1, h2, RepAll.mono hid_self ds h3⟩
  | dK ks ds => obtain ⟨a, xs, h1, h2, h3, h4⟩ := r; exact ⟨a, xs, h1, h2, h3, RepAll.mono hid_self ds h4⟩
  | dT ks ds => obtain ⟨a, xs, h1, h2, h3, h4⟩ := r; exact ⟨a, xs, h1, h2, h3, RepAll.mono hid_self ds h4⟩
  | _ => exact Rep.mono (hid_self (hd := hd) (H := H)) _ r
def cell : Mir → Nat → Option D
  | [], _ => none
  | c :: _, 0 => c
  | _ :: m, n + 1 => cell m n
theorem cell_iff : ∀ {m : Mir} {n : Nat} {d : D}, cell m n = some d ↔ m[n]? = some (some d)
  | [], n, d => by simp [cell]
  | c :: m, 0, d => by simp [cell]
  | c :: m, n + 1, d => by simpa [cell] using cell_iff (m := m) (n := n) (d := d)
mutual
def D.same : D → D → Bool
  | .non, .non => true
  | .bl a, .bl b => a == b
  | .int a, .int b => a == b
  | .str a, .str b => a == b
  | .lst a, .lst b => D.sames a b
  | .tup a, .tup b => D.sames a b
  | .ins c ns a, .ins c' ns' b => c == c' && (ns == ns' && D.sames a b)
  | .dK ks a, .dK ks' b => decide (ks = ks') && D.sames a b
  | .dT ks a, .dT ks' b => decide (ks = ks') && D.sames a b
  | .ref n, .ref k => n == k
  | .lam n, .lam k => n == k
  | .tbl n, .tbl k => n == k
  | _, _ => false
def D.sames : List D → List D → Bool
  | [], [] => true
  | a :: as, b :: bs => D.same a b && D.sames as bs
  | _, _ => false
end
mutual
theorem D.same_eq : ∀ {a b : D}, D.same a b = true → a = b
  | .non, b, h => by cases b <;> first | rfl | cases h
  | .bl a, b, h => by cases b <;> simp_all [D.same]
  | .int a, b, h => by cases b <;> simp_all [D.same]
  | .str a, b, h => by cases b <;> simp_all [D.same]
  | .lst a, b, h => by
    cases b <;> simp only [D.same] at h <;> first | contradiction | skip
    rw [D.sames_eq h]
  | .tup a, b, h => by
    cases b <;> simp only [D.same] at h <;> first | contradiction | skip
    rw [D.sames_eq h]
  | .ins c ns a, b, h => by
    cases b <;> simp only [D.same, Bool.and_eq_true, beq_iff_eq] at h <;> first | contradiction | skip
    rw [h.1, h.2.1, D.sames_eq h.2.2]
  | .dK ks a, b, h => by
    cases b <;> simp only [D.same, Bool.and_eq_true, decide_eq_true_eq] at h <;> first | contradiction | skip
    rw [h.1, D.sames_eq h.2]
  | .dT ks a, b, h => by
    cases b <;> simp only [D.same, Bool.and_eq_true, decide_eq_true_eq] at h <;> first | contradiction | skip
    rw [h.1, D.sames_eq h.2]
  | .ref n, b, h => by cases b <;> simp_all [D.same]
  | .lam n, b, h => by cases b <;> simp_all [D.same]
  | .tbl n, b, h => by cases b <;> simp_all [D.same]
theorem D.sames_eq : ∀ {a b : List D}, D.sames a b = true → a = b
  | [], b, h => by cases b <;> first | rfl | cases h
  | a :: as, b, h => by
    cases b with
    | nil => cases h
    | cons b bs =>
      have h2 := Bool.and_eq_true_iff.mp (show (D.same a b && D.sames as bs) = true from h)
      rw [D.same_eq h2.1, D.sames_eq h2.2]
end
/-- a list of the mirror that must stay as it is while it is walked -/
abbrev Gd := Option (Nat × List D)
def gdOk (g : Gd) (m : Mir) : Bool := match g with
  | none => true
  | some (n, ds) => match cell m n with
    | some (.lst es) => D.sames es ds
    | _ => false
theorem gd_some {n : Nat} {ds : List D} {m : Mir} (h : gdOk (some (n, ds)) m = true) : m[n]? = some (some (.lst ds)) := by
  simp only [gdOk] at h
  cases q : cell m n with
  | none => rw [q] at h; cases h
  | some d =>
    rw [q] at h
    cases d with
    | lst es =>
      rw [← D.sames_eq (a := es) (b := ds) h]
      exact cell_iff.mp q
    | _ => cases h
/-- data as it stands at this moment -/
def view (m : Mir) : D → Option D
  | .ref n => match cell m n with
    | some (.tbl _) => none
    | x => x
  | .tbl _ => none
  | d => some d
def views (m : Mir) : List D → Option (List D)
  | [] => some []
  | d :: ds => (view m d).bind fun x => (views m ds).bind fun xs => some (x :: xs)
theorem view_ref {m : Mir} {n : Nat} {x : D} (h : view m (.ref n) = some x) : cell m n = some x ∧ ∀ q, x ≠ .tbl q := by
  have h : (match cell m n with | some (.tbl _) => none | x => x) = some x := h
  cases e : cell m n with
  | none => rw [e] at h; cases h
  | some d =>
    rw [e] at h
    cases d <;> first | (cases h; done) | (cases h; exact ⟨rfl, fun q z => by cases z⟩)
theorem view_rep {G : Gx} {π : Wv} {m : Mir} {H : Hp} {d x : D} {v : V} (k : MOk G π H m) (r : Rep (G.at π) (hid (lv π m) H) d v) (h : view m d = some x) : RepT (G.at π) H (hid (lv π m) H) x v := by
  cases d with
  | ref n =>
    obtain ⟨a, rfl, h2⟩ := r
    obtain ⟨h0, hq⟩ := view_ref h
    have h3 := cell_iff.mp h0
    have t := k.cel n x a h3 h2
    cases x with
    | lst ds => obtain ⟨xs, h4, h5⟩ := t; exact ⟨a, xs, rfl, h4, h5⟩
    | ins c ns ds => obtain ⟨dx, xs, h4, _, h5⟩ := t; exact ⟨a, dx, xs, rfl, h4, h5⟩
    | dK ks ds => obtain ⟨xs, h4, h6, h5⟩ := t; exact ⟨a, xs, rfl, h4, h6, h5⟩
    | dT ks ds => obtain ⟨xs, h4, h6, h5⟩ := t; exact ⟨a, xs, rfl, h4, h6, h5⟩
    | tbl q => exact absurd rfl (hq q)
    | _ => exact False.elim t
  | tbl q => exact False.elim r
  | _ => cases h; exact Rep.top r
theorem views_rep {G : Gx} {π : Wv} {m : Mir} {H : Hp} (k : MOk G π H m) : ∀ {ds xs : List D} {vs : List V}, RepAll (G.at π) (hid (lv π m) H) ds vs → views m ds = some xs → RepTs (G.at π) H (hid (lv π m) H) xs vs
  | [], xs, vs, r, h => by
    cases h
    exact r
  | d :: ds, xs, vs, ⟨v, r, h1, h2, h3⟩, h => by
    simp only [views] at h
    cases q : view m d with
    | none => rw [q] at h; cases h
    | some x =>
      rw [q] at h
      cases q2 : views m ds with
      | none => rw [q2] at h; cases h
      | some ys =>
        rw [q2] at h
        cases h
        exact ⟨v, r, h1, view_rep k h2 q, views_rep k h3 q2⟩
theorem RepTs.length {G : Gx} {H Hh : Hp} : ∀ {ds : List D} {vs : List V}, RepTs G H Hh ds vs → vs.length = ds.length
  | [], _, h => by
    have h : _ = [] := h
    rw [h]; rfl
  | d :: ds, _, ⟨v, r, h1, h2, h3⟩ => by
    rw [h1, List.length_cons, List.length_cons, RepTs.length h3]

theorem PE.imp {X : Cx} {e : Expr} {t t' : TE} (h : PE X e t) (k : ∀ σ H Q, t' σ H Q → t σ H Q) : PE X e t' := ⟨fun pins s σ H Q I q => h.run pins s σ H Q I (k σ H Q q)⟩
theorem PT.imp {X : Cx} {e : Expr} {t t' : TT} (h : PT X e t) (k : ∀ σ H Q, t' σ H Q → t σ H Q) : PT X e t' := ⟨fun pins s σ H Q I q => h.run pins s σ H Q I (k σ H Q q)⟩
theorem PW.imp {X : Cx} {e : Expr} {t t' : TT} (h : PW X e t) (k : ∀ σ H Q, t' σ H Q → t σ H Q) : PW X e t' := ⟨fun wh pins s σ H Q I q => h.run wh pins s σ H Q I (k σ H Q q)⟩
theorem PA.imp {X : Cx} {e : List Expr} {t t' : TA} (h : PA X e t) (k : ∀ σ H Q, t' σ H Q → t σ H Q) : PA X e t' := ⟨fun pos pins s σ H Q I q => h.run pos pins s σ H Q I (k σ H Q q)⟩
theorem PS.imp {X : Cx} {e : Stmt} {t t' : TS} (h : PS X e t) (k : ∀ D σ H, t' D σ H → t D σ H) : PS X e t' := ⟨fun pins s σ H D I q => h.run pins s σ H D I (k D σ H q)⟩
theorem PSs.imp {X : Cx} {e : List Stmt} {t t' : TS} (h : PSs X e t) (k : ∀ D σ H, t' D σ H → t D σ H) : PSs X e t' := ⟨fun pins s σ H D I q => h.run pins s σ H D I (k D σ H q)⟩

end DM

/-! Expressions over data: one rule for each construct. -/
namespace DM
open PySem PySem.Spec PyProof.Rows L2

/-! ### combinators -/
section
def fVar (i : Nat) : Fe := fun δ m => match δ[i]? with
  | some (.dat d) => .ok d m
  | _ => .bad
def fC (d : D) : Fe := fun _ m => .ok d m
def ofO (m : Mir) : Option D → Rs D
  | some d => .ok d m
  | none => .bad
def f1 (o : D → Option D) (f : Fe) : Fe := fun δ m => (f δ m).bind fun x m1 => ofO m1 ((view m1 x).bind o)
def f2 (o : D → D → Option D) (f g : Fe) : Fe := fun δ m => (f δ m).bind fun x m1 => (g δ m1).bind fun y m2 => ofO m2 ((view m2 x).bind fun x1 => (view m2 y).bind fun y1 => o x1 y1)
def tru : D → Option Bool
  | .non => some false
  | .bl b => some b
  | .int i => some (i != 0)
  | .str x => some ((x.length : Int) != 0)
  | .lst ds => some (!ds.isEmpty)
  | .tup ds => some (!ds.isEmpty)
  | .dK _ _ => none
  | .dT _ _ => none
  | .ins _ _ _ => none
  | .ref _ => none
  | .lam _ => none
  | .tbl _ => none
/-- a value as a test: a bool -/
def fB (f : Fe) : Ft := fun δ m => (f δ m).bind fun x m1 => match x with
  | .bl b => .ok b m1
  | _ => .bad
/-- a value's truth -/
def fTr (f : Fe) : Ft := fun δ m => (f δ m).bind fun x m1 => match (view m1 x).bind tru with
  | some b => .ok b m1
  | none => .bad
def fNot (f : Ft) : Ft := fun δ m => (f δ m).bind fun b m1 => .ok (!b) m1
def fAnd (f g : Ft) : Ft := fun δ m => (f δ m).bind fun b m1 => if b = true then g δ m1 else .ok false m1
def fOr (f g : Ft) : Ft := fun δ m => (f δ m).bind fun b m1 => if b = true then .ok true m1 else g δ m1
def fIf (t : Ft) (f g : Fe) : Fe := fun δ m => (t δ m).bind fun b m1 => if b = true then f δ m1 else g δ m1
def fNotV (f : Fe) : Fe := fun δ m => (f δ m).bind fun x m1 => match x with
  | .bl b => .ok (.bl (!b)) m1
  | _ => .bad
def fAndV (f g : Fe) : Fe := fun δ m => (f δ m).bind fun x m1 => match x with
  | .bl true => g δ m1
  | .bl false => .ok (.bl false) m1
  | _ => .bad
def fOrV (f g : Fe) : Fe := fun δ m => (f δ m).bind fun x m1 => match x with
  | .bl false => g δ m1
  | .bl true => .ok (.bl true) m1
  | _ => .bad
def fNil : Fa := fun _ m => .ok [] m
def fCons (f : Fe) (g : Fa) : Fa := fun δ m => (f δ m).bind fun x m1 => (g δ m1).bind fun xs m2 => .ok (x :: xs) m2
def fTup (g : Fa) : Fe := fun δ m => (g δ m).bind fun xs m1 => if xs.length ≤ sizeLine then .ok (.tup xs) m1 else .bad
def fLst (g : Fa) : Fe := fun δ m => (g δ m).bind fun xs m1 => if xs.length ≤ sizeLine then .ok (.lst xs) m1 else .bad
/-- a call of a built-in by its values -/
def fCB (o : List D → Option D) (g : Fa) : Fe := fun δ m => (g δ m).bind fun xs m1 => ofO m1 ((views m1 xs).bind o)
/-- two comparisons in a row -/
def fChain (o o' : D → D → Option D) (f g h : Fe) : Fe := fun δ m => (f δ m).bind fun x m1 => (g δ m1).bind fun y m2 => match (view m2 x).bind fun x1 => (view m2 y).bind fun y1 => o x1 y1 with
  | some (.bl true) => (h δ m2).bind fun z m3 => ofO m3 ((view m3 y).bind fun y1 => (view m3 z).bind fun z1 => o' y1 z1)
  | some (.bl false) => .ok (.bl false) m2
  | _ => .bad
end

/-! ### operators on data -/
mutual
def D.py : D → Option PyData
  | .non => some .none
  | .bl b => some (.bool b)
  | .int i => some (.int i)
  | .str x => some (.str x)
  | .lst ds => (D.pyAll ds).map .list
  | .tup ds => (D.pyAll ds).map .tuple
  | .dK _ _ => none
  | .dT _ _ => none
  | .ins _ _ _ => none
  | .ref _ => none
  | .lam _ => none
  | .tbl _ => none
def D.pyAll : List D → Option (List PyData)
  | [] => some []
  | d :: ds => (D.py d).bind fun x => (D.pyAll ds).map fun xs => x :: xs
end
def oEq (x y : D) : Option D := (D.py x).bind fun a => (D.py y).bind fun b => if SeqAt.shaped a = true ∧ SeqAt.shaped b = true then some (.bl (PyData.eqv a b)) else none
def oNe (x y : D) : Option D := (D.py x).bind fun a => (D.py y).bind fun b => if SeqAt.shaped a = true ∧ SeqAt.shaped b = true then some (.bl (!PyData.eqv a b)) else none
def oAdd : D → D → Option D
  | .int i, .int j => some (.int (i + j))
  | .str a, .str b => if a.length + b.length ≤ sizeLine then some (.str (a ++ b)) else none
  | .lst a, .lst b => if a.length + b.length ≤ sizeLine then some (.lst (a ++ b)) else none
  | .tup a, .tup b => if a.length + b.length ≤ sizeLine then some (.tup (a ++ b)) else none
  | _, _ => none
def oSub : D → D → Option D
  | .int i, .int j => some (.int (i - j))
  | _, _ => none
def oMul : D → D → Option D
  | .int i, .int j => if (-(2 ^ 64) < i ∧ i < 2 ^ 64) ∨ (-(2 ^ 64) < j ∧ j < 2 ^ 64) then some (.int (i * j)) else none
  | .lst a, .int k => if -(2 ^ 63) ≤ k ∧ k < 2 ^ 63 ∧ a.length * k.toNat ≤ sizeLine then some (.lst (List.replicate k.toNat a).flatten) else none
  | _, _ => none
def oMod : D → D → Option D
  | .int i, .int j => if 0 < j then some (.int (i % j)) else none
  | _, _ => none
def oFdiv : D → D → Option D
  | .int i, .int j => if 0 < j ∧ j < 1073741824 then some (.int (i / j)) else none
  | _, _ => none
def oPow : D → D → Option D
  | .int i, .int j => if 0 ≤ j ∧ j ≤ 1000000 ∧ i.natAbs < 2 ^ 64 then some (.int (i ^ j.toNat)) else none
  | _, _ => none
def oLt : D → D → Option D
  | .int i, .int j => some (.bl (decide (i < j)))
  | .str a, .str b => some (.bl (decide (a.cps.toList < b.cps.toList)))
  | _, _ => none
def oLe : D → D → Option D
  | .int i, .int j => some (.bl (decide (i ≤ j)))
  | _, _ => none
def oGt : D → D → Option D
  | .int i, .int j => some (.bl (decide (j < i)))
  | _, _ => none
def oGe : D → D → Option D
  | .int i, .int j => some (.bl (decide (j ≤ i)))
  | _, _ => none
def oIsN : D → Option D
  | .non => some (.bl true)
  | _ => some (.bl false)
def oNotN : D → Option D
  | .non => some (.bl false)
  | _ => some (.bl true)
def oNeg : D → Option D
  | .int i => some (.int (-i))
  | _ => none
/-- flat data -/
def D.flat : D → Bool
  | .non | .bl _ | .int _ | .str _ => true
  | _ => false
def D.eqF : D → D → Bool
  | .non, .non => true
  | .bl a, .bl b => a == b
  | .bl a, .int j => (if a then 1 else 0) == j
  | .int i, .bl b => i == (if b then 1 else 0)
  | .int i, .int j => i == j
  | .str x, .str y => x == y
  | _, _ => false
def oIn : D → D → Option D
  | .str c, .str z => if h : c.cps.size = 1 then some (.bl (decide (c.cps[0] ∈ z.cps.toList))) else some (.bl (!(Builtin.Str.occurrences z c 0 z.length 1).isEmpty))
  | x, .lst ys => if x.flat = true ∧ ys.all D.flat = true then some (.bl (ys.any fun y => D.eqF y x)) else none
  | x, .tup ys => if x.flat = true ∧ ys.all D.flat = true then some (.bl (ys.any fun y => D.eqF y x)) else none
  | _, _ => none
def neg1 : Option D → Option D
  | some (.bl b) => some (.bl (!b))
  | _ => none
def oNotIn (x y : D) : Option D := neg1 (oIn x y)
/-- an item by its place -/
def oIx : D → D → Option D
  | .lst ds, .int i => atI ds i
  | .tup ds, .int i => atI ds i
  | .str z, .int i => (atI z.cps.toList i).map fun c => .str ⟨#[c]⟩
  | _, _ => none
def oLen : List D → Option D
  | [.lst ds] => some (.int ds.length)
  | [.tup ds] => some (.int ds.length)
  | [.str z] => some (.int z.length)
  | _ => none
def oInt : List D → Option D
  | [.int i] => some (.int i)
  | [.bl b] => some (.int (if b then 1 else 0))
  | _ => none
def oAbs : List D → Option D
  | [.int i] => some (.int (if i < 0 then -i else i))
  | _ => none
def signsOf (z : Str) : List D := z.cps.toList.map fun c => .str ⟨#[c]⟩
def oList : List D → Option D
  | [.lst ds] => some (.lst ds)
  | [.tup ds] => some (.lst ds)
  | _ => none
def oTuple : List D → Option D
  | [.lst ds] => some (.tup ds)
  | [.tup ds] => some (.tup ds)
  | _ => none
def boolsOf : List D → Option (List Bool)
  | [] => some []
  | .bl b :: ds => (boolsOf ds).map fun bs => b :: bs
  | _ :: _ => none
def oAll : List D → Option D
  | [.lst ds] => (boolsOf ds).map fun bs => .bl (bs.all id)
  | _ => none
def oAny : List D → Option D
  | [.lst ds] => (boolsOf ds).map fun bs => .bl (bs.any id)
  | _ => none
def intsOf : List D → Option (List Int)
  | [] => some []
  | .int b :: ds => (intsOf ds).map fun bs => b :: bs
  | _ :: _ => none

/-! ### what a rule by values must keep -/
def RD1 (G : Gx) (r : V → Hp → VK → Prop) (o : D → Option D) : Prop := ∀ (π : Wv) (hd : Addr → Bool) (H : Hp) (x d : D) (v : V) (Q : VK), (∀ p, H p = none → hd p = false) →
  RepT (G.at π) H (hid hd H) x v → o x = some d → (∀ w H2, Same H H2 → Rep (G.at π) (hid hd H2) d w → Q w H2) → r v H Q
def RD2 (G : Gx) (r : R2) (o : D → D → Option D) : Prop := ∀ (π : Wv) (hd : Addr → Bool) (H : Hp) (x y d : D) (v u : V) (Q : VK), (∀ p, H p = none → hd p = false) →
  RepT (G.at π) H (hid hd H) x v → RepT (G.at π) H (hid hd H) y u → o x y = some d → (∀ w H2, Same H H2 → Rep (G.at π) (hid hd H2) d w → Q w H2) → r v u H Q
def RDA (G : Gx) (r : List V → Hp → VK → Prop) (o : List D → Option D) : Prop := ∀ (π : Wv) (hd : Addr → Bool) (H : Hp) (xs : List D) (d : D) (vs : List V) (Q : VK), (∀ p, H p = none → hd p = false) →
  RepTs (G.at π) H (hid hd H) xs vs → o xs = some d → (∀ w H2, Same H H2 → Rep (G.at π) (hid hd H2) d w → Q w H2) → r vs H Q

section
variable {G : Gx} {E : XKS} {σ : L2.St} {H : Hp} {Q : VK}
theorem post_of {π1 π2 : Wv} {m1 m2 : Mir} {H1 H2 H3 : Hp} {E : XK} {d : D} {Q : VK} (s : Go G π1 m1 H1 π2 m2 H2) (p : Post G E π1 m1 H1 Q (.ok d m2)) (e : Same H2 H3) {w : V} (rw_ : Rep (G.at π2) (hid (lv π2 m2) H3) d w) : Q w H3 :=
  p π2 w H3 (s.new e) rw_
theorem lift2 {r : R2} {o : D → D → Option D} {f g : Fe} (hr : RD2 G r o) (h : tD G E (f2 o f g) σ H Q) : tOp r (tD G E f) (tD G E g) σ H Q := by
  obtain ⟨π, δ, m, at0, p⟩ := h
  refine ⟨π, δ, m, at0, ?_⟩
  unfold f2 at p
  cases hf : f δ m with
  | bad => rw [hf] at p; exact p
  | exc x m1 => rw [hf] at p; exact p
  | ok x m1 =>
    rw [hf] at p
    intro π1 v H1 s1 rx
    have a1 := at0.step s1
    refine ⟨π1, δ, m1, a1, ?_⟩
    replace p := Post.from_ s1 p
    simp only [Rs.bind] at p
    cases hg : g δ m1 with
    | bad => rw [hg] at p; exact p
    | exc x2 m2 => rw [hg] at p; exact p
    | ok y m2 =>
      rw [hg] at p
      intro π2 u H2 s2 ry
      have a2 := a1.step s2
      simp only at p
      cases v1 : view m2 x with
      | none => rw [v1] at p; exact False.elim p
      | some x1 =>
        rw [v1] at p
        cases v2 : view m2 y with
        | none => rw [v2] at p; exact False.elim p
        | some y1 =>
          rw [v2] at p
          simp only [Option.bind_some] at p
          cases ho : o x1 y1 with
          | none => rw [ho] at p; exact False.elim p
          | some d =>
            rw [ho] at p
            exact hr π2 _ H2 x1 y1 d v u Q a2.new (view_rep s2.ok (s2.ex.rep x rx) v1) (view_rep s2.ok ry v2) ho fun w H3 e rw_ => post_of s2 p e rw_
theorem lift1 {r : V → Hp → VK → Prop} {o : D → Option D} {f : Fe} (hr : RD1 G r o) (h : tD G E (f1 o f) σ H Q) : tUn r (tD G E f) σ H Q := by
  obtain ⟨π, δ, m, at0, p⟩ := h
  refine ⟨π, δ, m, at0, ?_⟩
  unfold f1 at p
  cases hf : f δ m with
  | bad => rw [hf] at p; exact p
  | exc x m1 => rw [hf] at p; exact p
  | ok x m1 =>
    rw [hf] at p
    intro π1 v H1 s1 rx
    have a1 := at0.step s1
    simp only [Rs.bind] at p
    cases v1 : view m1 x with
    | none => rw [v1] at p; exact False.elim p
    | some x1 =>
      rw [v1] at p
      simp only [Option.bind_some] at p
      cases ho : o x1 with
      | none => rw [ho] at p; exact False.elim p
      | some d =>
        rw [ho] at p
        exact hr π1 _ H1 x1 d v Q a1.new (view_rep s1.ok rx v1) ho fun w H3 e rw_ => post_of s1 p e rw_
theorem liftA {r : List V → Hp → VK → Prop} {o : List D → Option D} {g : Fa} (hr : RDA G r o) (h : tD G E (fCB o g) σ H Q) : tCB r (tDA G E g) σ H Q := by
  obtain ⟨π, δ, m, at0, p⟩ := h
  refine ⟨π, δ, m, at0, ?_⟩
  unfold fCB at p
  cases hf : g δ m with
  | bad => rw [hf] at p; exact p
  | exc x m1 => rw [hf] at p; exact p
  | ok xs m1 =>
    rw [hf] at p
    intro π1 vs H1 s1 rx
    have a1 := at0.step s1
    simp only [Rs.bind] at p
    cases v1 : views m1 xs with
    | none => rw [v1] at p; exact False.elim p
    | some ys =>
      rw [v1] at p
      simp only [Option.bind_some] at p
      cases ho : o ys with
      | none => rw [ho] at p; exact False.elim p
      | some d =>
        rw [ho] at p
        exact hr π1 _ H1 ys d vs Q a1.new (views_rep s1.ok rx v1) ho fun w H3 e rw_ => post_of s1 p e rw_
theorem lift_cons {f : Fe} {g : Fa} {Q : List V → Hp → Prop} (h : tDA G E (fCons f g) σ H Q) : tCons (tD G E f) (tDA G E g) σ H Q := by
  obtain ⟨π, δ, m, at0, p⟩ := h
  refine ⟨π, δ, m, at0, ?_⟩
  unfold fCons at p
  cases hf : f δ m with
  | bad => rw [hf] at p; exact p
  | exc x m1 => rw [hf] at p; exact p
  | ok x m1 =>
    rw [hf] at p
    intro π1 v H1 s1 rx
    have a1 := at0.step s1
    refine ⟨π1, δ, m1, a1, ?_⟩
    replace p := PostA.from_ s1 p
    simp only [Rs.bind] at p
    cases hg : g δ m1 with
    | bad => rw [hg] at p; exact p
    | exc x2 m2 => rw [hg] at p; exact p
    | ok y m2 =>
      rw [hg] at p
      intro π2 vs H2 s2 ry
      exact p _ (v :: vs) H2 s2 ⟨v, vs, rfl, s2.ex.rep x rx, ry⟩
theorem lift_nil {Q : List V → Hp → Prop} (h : tDA G E (fNil : Fa) σ H Q) : tNil σ H Q := by
  obtain ⟨π, δ, m, at0, p⟩ := h
  exact p _ [] H at0.go rfl
/-- a new object -/
theorem rep_lst {hd : Addr → Bool} {p : Addr} {xs : List V} {ds : List D} (hp : H p = none) (hf : hd p = false) (r : RepAll G (hid hd H) ds xs) : Rep G (hid hd (upd H p (.lst xs))) (.lst ds) (.ref p) :=
  ⟨p, xs, rfl, hid_some.mpr ⟨hf, upd_same⟩, RepAll.mono (hid_same fun a o _ h => by rw [upd_ne (ne_of_none h hp)]; exact h) ds r⟩
theorem rep_tup {hd : Addr → Bool} {p : Addr} {xs : List V} {ds : List D} (hp : H p = none) (hf : hd p = false) (r : RepAll G (hid hd H) ds xs) : Rep G (hid hd (upd H p (.tup xs))) (.tup ds) (.ref p) :=
  ⟨p, xs, rfl, .inl (.inl (hid_some.mpr ⟨hf, upd_same⟩)), RepAll.mono (hid_same fun a o _ h => by rw [upd_ne (ne_of_none h hp)]; exact h) ds r⟩
theorem same_new {p : Addr} {o : HO} (hp : H p = none) : Same H (upd H p o) := fun a u h => by
  rw [upd_ne (ne_of_none h hp)]
  exact h
theorem lift_tup {g : Fa} (h : tD G E (fTup g) σ H Q) : tTup (tDA G E g) σ H Q := by
  obtain ⟨π, δ, m, at0, p⟩ := h
  refine ⟨π, δ, m, at0, ?_⟩
  unfold fTup at p
  cases hf : g δ m with
  | bad => rw [hf] at p; exact p
  | exc x m1 => rw [hf] at p; exact p
  | ok xs m1 =>
    rw [hf] at p
    intro π1 vs H1 s1 rx
    have a1 := at0.step s1
    simp only [Rs.bind] at p
    by_cases hl : xs.length ≤ sizeLine
    · rw [if_pos hl] at p
      exact ⟨by rw [RepAll.length rx]; exact hl, fun q hq => post_of s1 p (same_new hq) (rep_tup hq (a1.new q hq) rx)⟩
    · rw [if_neg hl] at p
      exact False.elim p
theorem lift_lst {g : Fa} (h : tD G E (fLst g) σ H Q) : tLst (tDA G E g) σ H Q := by
  obtain ⟨π, δ, m, at0, p⟩ := h
  refine ⟨π, δ, m, at0, ?_⟩
  unfold fLst at p
  cases hf : g δ m with
  | bad => rw [hf] at p; exact p
  | exc x m1 => rw [hf] at p; exact p
  | ok xs m1 =>
    rw [hf] at p
    intro π1 vs H1 s1 rx
    have a1 := at0.step s1
    simp only [Rs.bind] at p
    by_cases hl : xs.length ≤ sizeLine
    · rw [if_pos hl] at p
      exact ⟨by rw [RepAll.length rx]; exact hl, fun q hq => post_of s1 p (same_new hq) (rep_lst hq (a1.new q hq) rx)⟩
    · rw [if_neg hl] at p
      exact False.elim p
/-- a value, then what its data say -/
theorem lift_b {f : Fe} {Q : Bool → Hp → Prop} (h : tDT G E (fB f) σ H Q) : tD G E f σ H fun x H' => ∃ k, x = .bl k ∧ Q k H' := by
  obtain ⟨π, δ, m, at0, p⟩ := h
  refine ⟨π, δ, m, at0, ?_⟩
  unfold fB at p
  cases hf : f δ m with
  | bad => rw [hf] at p; exact p
  | exc x m1 => rw [hf] at p; exact p
  | ok x m1 =>
    rw [hf] at p
    intro π1 v H1 s1 rx
    cases x with
    | bl b => exact ⟨b, rx, p _ H1 s1⟩
    | _ => exact False.elim p
theorem truV_of {G : Gx} {x : D} {b : Bool} {v : V} (r : Rep G H x v) (h : tru x = some b) : TruV G.K v H b := by
  cases x with
  | non => obtain rfl : v = .non := r; exact (Option.some.inj h).symm
  | bl c => obtain rfl : v = .bl c := r; exact (Option.some.inj h).symm
  | int i => obtain rfl : v = .int i := r; exact (Option.some.inj h).symm
  | str z => obtain ⟨rfl, hz⟩ := r; exact ⟨hz, (Option.some.inj h).symm⟩
  | lst ds =>
    obtain ⟨a, xs, rfl, h1, h2⟩ := r
    refine .inl ⟨xs, .inl (.inl h1), ?_⟩
    have e := RepAll.length h2
    rw [← Option.some.inj h]
    cases ds <;> cases xs <;> simp_all
  | tup ds =>
    obtain ⟨a, xs, rfl, h1, h2⟩ := r
    refine .inr (.inl ⟨xs, h1, ?_⟩)
    have e := RepAll.length h2
    rw [← Option.some.inj h]
    cases ds <;> cases xs <;> simp_all
  | ins c ns ds => cases h
  | dK ks ds => cases h
  | dT ks ds => cases h
  | ref n => cases h
  | lam n => cases h
  | tbl n => cases h
theorem lift_tr {K : PySem.W.Frag} {cn : Cn} {f : Fe} {Q : Bool → Hp → Prop} (h : tDT (gx K cn) E (fTr f) σ H Q) : tD (gx K cn) E f σ H fun x H' => ∃ k, TruV K x H' k ∧ Q k H' := by
  obtain ⟨π, δ, m, at0, p⟩ := h
  refine ⟨π, δ, m, at0, ?_⟩
  unfold fTr at p
  cases hf : f δ m with
  | bad => rw [hf] at p; exact p
  | exc x m1 => rw [hf] at p; exact p
  | ok x m1 =>
    rw [hf] at p
    intro π1 v H1 s1 rx
    simp only [Rs.bind] at p
    cases v1 : view m1 x with
    | none => rw [v1] at p; exact False.elim p
    | some x1 =>
      rw [v1] at p
      simp only [Option.bind_some] at p
      cases ht : tru x1 with
      | none => rw [ht] at p; exact False.elim p
      | some b =>
        rw [ht] at p
        exact ⟨b, truV_of (view_rep s1.ok rx v1).rep ht, p _ H1 s1⟩
theorem lift_not {t : Ft} {Q : Bool → Hp → Prop} (h : tDT G E (fNot t) σ H Q) : tNot (tDT G E t) σ H Q := by
  obtain ⟨π, δ, m, at0, p⟩ := h
  refine ⟨π, δ, m, at0, ?_⟩
  unfold fNot at p
  cases hf : t δ m with
  | bad => rw [hf] at p; exact p
  | exc x m1 => rw [hf] at p; exact p
  | ok x m1 => rw [hf] at p; exact fun π1 H1 s1 => p _ H1 s1
theorem lift_and {t u : Ft} {Q : Bool → Hp → Prop} (h : tDT G E (fAnd t u) σ H Q) : tAnd (tDT G E t) (tDT G E u) σ H Q := by
  obtain ⟨π, δ, m, at0, p⟩ := h
  refine ⟨π, δ, m, at0, ?_⟩
  unfold fAnd at p
  cases hf : t δ m with
  | bad => rw [hf] at p; exact p
  | exc x m1 => rw [hf] at p; exact p
  | ok x m1 =>
    rw [hf] at p
    intro π1 H1 s1
    cases x with
    | true =>
      rw [if_pos rfl]
      exact ⟨_, δ, m1, at0.step s1, PostT.from_ s1 p⟩
    | false =>
      rw [if_neg Bool.false_ne_true]
      exact p _ H1 s1
theorem lift_or {t u : Ft} {Q : Bool → Hp → Prop} (h : tDT G E (fOr t u) σ H Q) : tOr (tDT G E t) (tDT G E u) σ H Q := by
  obtain ⟨π, δ, m, at0, p⟩ := h
  refine ⟨π, δ, m, at0, ?_⟩
  unfold fOr at p
  cases hf : t δ m with
  | bad => rw [hf] at p; exact p
  | exc x m1 => rw [hf] at p; exact p
  | ok x m1 =>
    rw [hf] at p
    intro π1 H1 s1
    cases x with
    | false =>
      rw [if_neg Bool.false_ne_true]
      exact ⟨_, δ, m1, at0.step s1, PostT.from_ s1 p⟩
    | true =>
      rw [if_pos rfl]
      exact p _ H1 s1
theorem lift_if {t : Ft} {f g : Fe} (h : tD G E (fIf t f g) σ H Q) : tIf (tDT G E t) (tD G E f) (tD G E g) σ H Q := by
  obtain ⟨π, δ, m, at0, p⟩ := h
  refine ⟨π, δ, m, at0, ?_⟩
  unfold fIf at p
  cases hf : t δ m with
  | bad => rw [hf] at p; exact p
  | exc x m1 => rw [hf] at p; exact p
  | ok x m1 =>
    rw [hf] at p
    intro π1 H1 s1
    cases x with
    | true =>
      rw [if_pos rfl]
      exact ⟨_, δ, m1, at0.step s1, Post.from_ s1 p⟩
    | false =>
      rw [if_neg Bool.false_ne_true]
      exact ⟨_, δ, m1, at0.step s1, Post.from_ s1 p⟩
theorem lift_andV {f g : Fe} (h : tD G E (fAndV f g) σ H Q) : tAndV (tD G E f) (tD G E g) σ H Q := by
  obtain ⟨π, δ, m, at0, p⟩ := h
  refine ⟨π, δ, m, at0, ?_⟩
  unfold fAndV at p
  cases hf : f δ m with
  | bad => rw [hf] at p; exact p
  | exc x m1 => rw [hf] at p; exact p
  | ok x m1 =>
    rw [hf] at p
    intro π1 v H1 s1 rx
    cases x with
    | bl b =>
      refine ⟨b, rx, ?_⟩
      cases b with
      | true =>
        rw [if_pos rfl]
        exact ⟨_, δ, m1, at0.step s1, Post.from_ s1 p⟩
      | false =>
        rw [if_neg Bool.false_ne_true]
        exact p _ _ H1 s1 rfl
    | _ => exact False.elim p
theorem lift_orV {f g : Fe} (h : tD G E (fOrV f g) σ H Q) : tOrV (tD G E f) (tD G E g) σ H Q := by
  obtain ⟨π, δ, m, at0, p⟩ := h
  refine ⟨π, δ, m, at0, ?_⟩
  unfold fOrV at p
  cases hf : f δ m with
  | bad => rw [hf] at p; exact p
  | exc x m1 => rw [hf] at p; exact p
  | ok x m1 =>
    rw [hf] at p
    intro π1 v H1 s1 rx
    cases x with
    | bl b =>
      refine ⟨b, rx, ?_⟩
      cases b with
      | false =>
        rw [if_neg Bool.false_ne_true]
        exact ⟨_, δ, m1, at0.step s1, Post.from_ s1 p⟩
      | true =>
        rw [if_pos rfl]
        exact p _ _ H1 s1 rfl
    | _ => exact False.elim p
theorem lift_notV {f : Fe} (h : tD G E (fNotV f) σ H Q) : tNotV (tD G E f) σ H Q := by
  obtain ⟨π, δ, m, at0, p⟩ := h
  refine ⟨π, δ, m, at0, ?_⟩
  unfold fNotV at p
  cases hf : f δ m with
  | bad => rw [hf] at p; exact p
  | exc x m1 => rw [hf] at p; exact p
  | ok x m1 =>
    rw [hf] at p
    intro π1 v H1 s1 rx
    cases x with
    | bl b => exact ⟨b, rx, p _ _ H1 s1 rfl⟩
    | _ => exact False.elim p
theorem lift_chain {r r' : R2} {o o' : D → D → Option D} {f g h : Fe} (hr : RD2 G r o) (hr' : RD2 G r' o') (h0 : tD G E (fChain o o' f g h) σ H Q) : tChain r r' (tD G E f) (tD G E g) (tD G E h) σ H Q := by
  obtain ⟨π, δ, m, at0, p⟩ := h0
  refine ⟨π, δ, m, at0, ?_⟩
  unfold fChain at p
  cases hf : f δ m with
  | bad => rw [hf] at p; exact p
  | exc x m1 => rw [hf] at p; exact p
  | ok x m1 =>
    rw [hf] at p
    intro π1 v H1 s1 rx
    have a1 := at0.step s1
    refine ⟨π1, δ, m1, a1, ?_⟩
    replace p := Post.from_ s1 p
    simp only [Rs.bind] at p
    cases hg : g δ m1 with
    | bad => rw [hg] at p; exact p
    | exc x2 m2 => rw [hg] at p; exact p
    | ok y m2 =>
      rw [hg] at p
      intro π2 u H2 s2 ry
      have a2 := a1.step s2
      simp only at p
      replace p := Post.from_ s2 p
      cases ho : (view m2 x).bind fun x1 => (view m2 y).bind fun y1 => o x1 y1 with
      | none => rw [ho] at p; exact False.elim p
      | some d =>
        rw [ho] at p
        obtain ⟨x1, v1, ho⟩ := Option.bind_eq_some_iff.mp ho
        obtain ⟨y1, v2, ho⟩ := Option.bind_eq_some_iff.mp ho
        refine hr π2 _ H2 x1 y1 d v u _ a2.new (view_rep s2.ok (s2.ex.rep x rx) v1) (view_rep s2.ok ry v2) ho fun w H3 e rw_ => ?_
        cases d with
        | bl b =>
          have a3 : At G π2 σ H3 δ m2 := a2.step (Go.of a2.mok e)
          refine ⟨b, rw_, ?_⟩
          replace p := Post.from_ (Go.of a2.mok e) p
          cases b with
          | false =>
            rw [if_neg Bool.false_ne_true]
            exact p _ _ H3 a3.go rfl
          | true =>
            rw [if_pos rfl]
            refine ⟨π2, δ, m2, a3, ?_⟩
            simp only at p
            cases hh : h δ m2 with
            | bad => rw [hh] at p; exact p
            | exc x2 m3 => rw [hh] at p; exact p
            | ok z m3 =>
              rw [hh] at p
              intro π4 t H4 s4 rz
              have a4 := a3.step s4
              simp only at p
              cases ho' : (view m3 y).bind fun y1 => (view m3 z).bind fun z1 => o' y1 z1 with
              | none => rw [ho'] at p; exact False.elim p
              | some d' =>
                rw [ho'] at p
                obtain ⟨y2, v3, ho'⟩ := Option.bind_eq_some_iff.mp ho'
                obtain ⟨z2, v4, ho'⟩ := Option.bind_eq_some_iff.mp ho'
                exact hr' π4 _ H4 y2 z2 d' u t Q a4.new (view_rep s4.ok (s4.ex.rep y ((Ex.of e).rep y ry)) v3) (view_rep s4.ok rz v4) ho' fun w' H5 e' rw' => post_of s4 p e' rw'
        | _ => exact False.elim p
end

/-! ### the operators' rules keep data -/
section
variable {G : Gx}
theorem rd_add : RD2 G (fun x y H Q => rI0 (fun i j => .int (i + j)) x y H Q ∨ (∃ i j, x = .str i ∧ y = .str j ∧ i.length + j.length ≤ sizeLine ∧ Q (.str (i ++ j)) H) ∨ rCat x y H Q ∨ rCatA G.K x y H Q) oAdd := by
  intro π hd H x y d v u Q hn rx ry ho k
  cases x <;> cases y <;> simp only [oAdd] at ho <;> (try contradiction)
  · rename_i i j
    obtain rfl : v = .int i := rx
    obtain rfl : u = .int j := ry
    cases ho
    exact .inl ⟨i, j, rfl, rfl, k _ H (Same.refl H) rfl⟩
  · rename_i a b
    obtain ⟨rfl, h1⟩ := rx
    obtain ⟨rfl, h2⟩ := ry
    by_cases hl : a.length + b.length ≤ sizeLine
    · rw [if_pos hl] at ho
      cases ho
      refine .inr (.inl ⟨a, b, rfl, rfl, hl, k _ H (Same.refl H) ⟨rfl, ?_⟩⟩)
      rw [Str.length_append]
      exact hl
    · rw [if_neg hl] at ho; cases ho
  · rename_i a b
    obtain ⟨p, xs, rfl, h1, h2⟩ := rx
    obtain ⟨q, ys, rfl, h3, h4⟩ := ry
    by_cases hl : a.length + b.length ≤ sizeLine
    · rw [if_pos hl] at ho
      cases ho
      refine .inr (.inr (.inl ⟨p, q, xs, ys, rfl, rfl, h1, h3, by rw [RepAll.length h2, RepAll.length h4]; exact hl, fun l hl' => k _ _ (same_new hl') ?_⟩))
      exact rep_lst hl' (hn l hl') (RepAll.append h2 h4)
    · rw [if_neg hl] at ho; cases ho
  · rename_i a b
    obtain ⟨p, xs, rfl, h1, h2⟩ := rx
    obtain ⟨q, ys, rfl, h3, h4⟩ := ry
    by_cases hl : a.length + b.length ≤ sizeLine
    · rw [if_pos hl] at ho
      cases ho
      refine .inr (.inr (.inr ⟨p, q, xs, ys, rfl, rfl, Same.sqT hid_self h1, Same.sqT hid_self h3, by rw [RepAll.length h2, RepAll.length h4]; exact hl, fun e => ?_, fun _ e => ?_, fun _ _ l hl' => k _ _ (same_new hl') ?_⟩))
      · subst e
        have : a = [] := by
          have := RepAll.length h2
          cases a with
          | nil => rfl
          | cons _ _ => cases this
        subst this
        exact k _ H (Same.refl H) ⟨q, ys, rfl, h3, h4⟩
      · subst e
        have : b = [] := by
          have := RepAll.length h4
          cases b with
          | nil => rfl
          | cons _ _ => cases this
        subst this
        rw [List.append_nil] at *
        exact k _ H (Same.refl H) ⟨p, xs, rfl, h1, h2⟩
      · exact rep_tup hl' (hn l hl') (RepAll.append h2 h4)
    · rw [if_neg hl] at ho; cases ho
theorem rd_sub : RD2 G (rI0 fun i j => .int (i - j)) oSub := by
  intro π hd H x y d v u Q hn rx ry ho k
  cases x <;> cases y <;> simp only [oSub] at ho <;> (try contradiction)
  rename_i i j
  obtain rfl : v = .int i := rx
  obtain rfl : u = .int j := ry
  cases ho
  exact ⟨i, j, rfl, rfl, k _ H (Same.refl H) rfl⟩
theorem RepAll.rep {H : Hp} : ∀ {n : Nat} {ds : List D} {vs : List V}, RepAll G H ds vs → RepAll G H (List.replicate n ds).flatten (List.replicate n vs).flatten
  | 0, _, _, _ => (rfl : ([] : List V) = [])
  | n + 1, ds, vs, h => by
    rw [List.replicate_succ, List.replicate_succ, List.flatten_cons, List.flatten_cons]
    exact RepAll.append h (RepAll.rep h)
theorem rd_mul : RD2 G (fun x y H Q => rI CMul (fun i j => .int (i * j)) x y H Q ∨ rRep x y H Q) oMul := by
  intro π hd H x y d v u Q hn rx ry ho k
  cases x <;> cases y <;> simp only [oMul] at ho <;> (try contradiction)
  · rename_i i j
    obtain rfl : v = .int i := rx
    obtain rfl : u = .int j := ry
    by_cases hl : (-(2 ^ 64) < i ∧ i < 2 ^ 64) ∨ (-(2 ^ 64) < j ∧ j < 2 ^ 64)
    · rw [if_pos hl] at ho
      cases ho
      exact .inl ⟨i, j, rfl, rfl, hl, k _ H (Same.refl H) rfl⟩
    · rw [if_neg hl] at ho; cases ho
  · rename_i a j
    obtain ⟨p, xs, rfl, h1, h2⟩ := rx
    obtain rfl : u = .int j := ry
    by_cases hl : -(2 ^ 63) ≤ j ∧ j < 2 ^ 63 ∧ a.length * j.toNat ≤ sizeLine
    · rw [if_pos hl] at ho
      cases ho
      refine .inr ⟨p, j, xs, rfl, rfl, h1, hl.1, hl.2.1, by rw [RepAll.length h2]; exact hl.2.2, fun l hl' => k _ _ (same_new hl') ?_⟩
      exact rep_lst hl' (hn l hl') (RepAll.rep h2)
    · rw [if_neg hl] at ho; cases ho
theorem rd_mod : RD2 G (rI (fun _ j => 0 < j) fun i j => .int (i % j)) oMod := by
  intro π hd H x y d v u Q hn rx ry ho k
  cases x <;> cases y <;> simp only [oMod] at ho <;> (try contradiction)
  rename_i i j
  obtain rfl : v = .int i := rx
  obtain rfl : u = .int j := ry
  by_cases hl : 0 < j
  · rw [if_pos hl] at ho
    cases ho
    exact ⟨i, j, rfl, rfl, hl, k _ H (Same.refl H) rfl⟩
  · rw [if_neg hl] at ho; cases ho
theorem rd_fdiv : RD2 G (rI CDiv fun i j => .int (i / j)) oFdiv := by
  intro π hd H x y d v u Q hn rx ry ho k
  cases x <;> cases y <;> simp only [oFdiv] at ho <;> (try contradiction)
  rename_i i j
  obtain rfl : v = .int i := rx
  obtain rfl : u = .int j := ry
  by_cases hl : 0 < j ∧ j < 1073741824
  · rw [if_pos hl] at ho
    cases ho
    exact ⟨i, j, rfl, rfl, hl, k _ H (Same.refl H) rfl⟩
  · rw [if_neg hl] at ho; cases ho
theorem rd_pow : RD2 G (rI CPow fun i j => .int (i ^ j.toNat)) oPow := by
  intro π hd H x y d v u Q hn rx ry ho k
  cases x <;> cases y <;> simp only [oPow] at ho <;> (try contradiction)
  rename_i i j
  obtain rfl : v = .int i := rx
  obtain rfl : u = .int j := ry
  by_cases hl : 0 ≤ j ∧ j ≤ 1000000 ∧ i.natAbs < 2 ^ 64
  · rw [if_pos hl] at ho
    cases ho
    exact ⟨i, j, rfl, rfl, hl, k _ H (Same.refl H) rfl⟩
  · rw [if_neg hl] at ho; cases ho
theorem rd_neg : RD1 G (rU fun i => .int (-i)) oNeg := by
  intro π hd H x d v Q hn rx ho k
  cases x <;> simp only [oNeg] at ho <;> (try contradiction)
  rename_i i
  obtain rfl : v = .int i := rx
  cases ho
  exact ⟨i, rfl, k _ H (Same.refl H) rfl⟩
/-- a comparison of ints -/
theorem rd_int {p : Int → Int → Bool} {o : D → D → Option D} (h : ∀ x y d, o x y = some d → ∃ i j, x = .int i ∧ y = .int j ∧ d = .bl (p i j)) : RD2 G (rI0 fun i j => .bl (p i j)) o := by
  intro π hd H x y d v u Q hn rx ry ho k
  obtain ⟨i, j, rfl, rfl, rfl⟩ := h x y d ho
  obtain rfl : v = .int i := rx
  obtain rfl : u = .int j := ry
  exact ⟨i, j, rfl, rfl, k _ H (Same.refl H) rfl⟩
theorem rd_le : RD2 G (rI0 fun i j => .bl (decide (i ≤ j))) oLe := rd_int fun x y d h => by
  cases x <;> cases y <;> simp only [oLe] at h <;> (try contradiction)
  exact ⟨_, _, rfl, rfl, (Option.some.inj h).symm⟩
theorem rd_gt : RD2 G (rI0 fun i j => .bl (decide (j < i))) oGt := rd_int fun x y d h => by
  cases x <;> cases y <;> simp only [oGt] at h <;> (try contradiction)
  exact ⟨_, _, rfl, rfl, (Option.some.inj h).symm⟩
theorem rd_ge : RD2 G (rI0 fun i j => .bl (decide (j ≤ i))) oGe := rd_int fun x y d h => by
  cases x <;> cases y <;> simp only [oGe] at h <;> (try contradiction)
  exact ⟨_, _, rfl, rfl, (Option.some.inj h).symm⟩
theorem rd_lt : RD2 G (fun x y H Q => rI0 (fun i j => .bl (decide (i < j))) x y H Q ∨ (∃ i j, x = .str i ∧ y = .str j ∧ Q (.bl (decide (i.cps.toList < j.cps.toList))) H)) oLt := by
  intro π hd H x y d v u Q hn rx ry ho k
  cases x <;> cases y <;> simp only [oLt] at ho <;> (try contradiction)
  · rename_i i j
    obtain rfl : v = .int i := rx
    obtain rfl : u = .int j := ry
    cases ho
    exact .inl ⟨i, j, rfl, rfl, k _ H (Same.refl H) rfl⟩
  · rename_i a b
    obtain ⟨rfl, h1⟩ := rx
    obtain ⟨rfl, h2⟩ := ry
    cases ho
    exact .inr ⟨a, b, rfl, rfl, k _ H (Same.refl H) rfl⟩
mutual
theorem rep_dp {H : Hp} : ∀ (d : D) {v : V} {e : PyData}, Rep G H d v → D.py d = some e → Dp G.K H v e
  | .non, v, e, r, h => by
    obtain rfl : v = .non := r
    cases h; exact .non
  | .bl b, v, e, r, h => by
    obtain rfl : v = .bl b := r
    cases h; exact .bl b
  | .int i, v, e, r, h => by
    obtain rfl : v = .int i := r
    cases h; exact .int i
  | .str x, v, e, r, h => by
    obtain ⟨rfl, _⟩ := r
    cases h; exact .str x
  | .lst ds, v, e, ⟨a, xs, h1, h2, h3⟩, h => by
    subst h1
    simp only [D.py] at h
    cases q : D.pyAll ds with
    | none => rw [q] at h; cases h
    | some es =>
      rw [q] at h
      cases h
      exact .lst (.inl (.inl h2)) (rep_dpAll ds h3 q)
  | .tup ds, v, e, ⟨a, xs, h1, h2, h3⟩, h => by
    subst h1
    simp only [D.py] at h
    cases q : D.pyAll ds with
    | none => rw [q] at h; cases h
    | some es =>
      rw [q] at h
      cases h
      exact .tup h2 (rep_dpAll ds h3 q)
  | .ins c ns ds, v, e, r, h => by cases h
  | .lam i, v, e, r, h => by cases h
  | .tbl q, v, e, r, h => by cases h
theorem rep_dpAll {H : Hp} : ∀ (ds : List D) {vs : List V} {es : List PyData}, RepAll G H ds vs → D.pyAll ds = some es → DpAll G.K H vs es
  | [], vs, es, r, h => by
    obtain rfl : vs = [] := r
    cases h; exact .nil
  | d :: ds, vs, es, ⟨v, r, h1, h2, h3⟩, h => by
    subst h1
    simp only [D.pyAll] at h
    cases q : D.py d with
    | none => rw [q] at h; cases h
    | some e =>
      rw [q] at h
      cases q2 : D.pyAll ds with
      | none => rw [q2] at h; cases h
      | some es2 =>
        rw [q2] at h
        cases h
        exact .cons (rep_dp d h2 q) (rep_dpAll ds h3 q2)
end
theorem rd_eq : RD2 G (rEqD G.K) oEq := by
  intro π hd H x y d v u Q hn rx ry ho k
  unfold oEq at ho
  cases q : D.py x with
  | none => rw [q] at ho; cases ho
  | some a =>
    cases q2 : D.py y with
    | none => rw [q, q2] at ho; cases ho
    | some b =>
      rw [q, q2] at ho
      simp only [Option.bind_some] at ho
      by_cases hs : SeqAt.shaped a = true ∧ SeqAt.shaped b = true
      · rw [if_pos hs] at ho
        cases ho
        exact ⟨a, b, rep_dp (G := G.at π) x rx.rep q, rep_dp (G := G.at π) y ry.rep q2, hs.1, hs.2, k _ H (Same.refl H) rfl⟩
      · rw [if_neg hs] at ho; cases ho
theorem rd_ne : RD2 G (rNeD G.K) oNe := by
  intro π hd H x y d v u Q hn rx ry ho k
  unfold oNe at ho
  cases q : D.py x with
  | none => rw [q] at ho; cases ho
  | some a =>
    cases q2 : D.py y with
    | none => rw [q, q2] at ho; cases ho
    | some b =>
      rw [q, q2] at ho
      simp only [Option.bind_some] at ho
      by_cases hs : SeqAt.shaped a = true ∧ SeqAt.shaped b = true
      · rw [if_pos hs] at ho
        cases ho
        exact ⟨a, b, rep_dp (G := G.at π) x rx.rep q, rep_dp (G := G.at π) y ry.rep q2, hs.1, hs.2, k _ H (Same.refl H) rfl⟩
      · rw [if_neg hs] at ho; cases ho
end
end DM

/-! Statements, loops over data. -/
namespace DM
open PySem PySem.Spec PyProof.Rows L2

/-- what comes of a statement -/
inductive Fl where
  | nx (δ : Sls) (m : Mir) | rt (d : D) (m : Mir) | bk (δ : Sls) (m : Mir) | ct (δ : Sls) (m : Mir) | exc (x : Exn) (δ : Sls) (m : Mir) | bad
abbrev Fs := Sls → Mir → Fl

def PostS (G : Gx) (E : XKS) (π : Wv) (m : Mir) (H : Hp) (Dn : Ends) : Fl → Prop
  | .nx δ m2 => ∀ π2 σ2 H2, Ex π m H π2 m2 H2 → At G π2 σ2 H2 δ m2 → Dn.nx σ2 H2
  | .bk δ m2 => ∀ π2 σ2 H2, Ex π m H π2 m2 H2 → At G π2 σ2 H2 δ m2 → Dn.bk σ2 H2
  | .ct δ m2 => ∀ π2 σ2 H2, Ex π m H π2 m2 H2 → At G π2 σ2 H2 δ m2 → Dn.ct σ2 H2
  | .rt d m2 => ∀ π2 v H2, Go G π m H π2 m2 H2 → Rep (G.at π2) (hid (lv π2 m2) H2) d v → Dn.rt v H2
  | .exc x δ m2 => ∀ π2 σ2 cls dd H2, Ex π m H π2 m2 H2 → At G π2 σ2 H2 δ m2 → ExcOk (G.at π2) (hid (lv π2 m2) H2) x cls dd → E σ2 cls dd H2
  | .bad => False
def tS (G : Gx) (E : XKS) (g : Fs) : TS := fun Dn σ H => ∃ π δ m, At G π σ H δ m ∧ PostS G E π m H Dn (g δ m)

theorem PostS.from_ {G : Gx} {E : XKS} {π π1 : Wv} {m m1 : Mir} {H H1 : Hp} {Dn : Ends} {r : Fl} (e : Ex π m H π1 m1 H1) (h : PostS G E π m H Dn r) : PostS G E π1 m1 H1 Dn r := by
  cases r with
  | nx δ m => exact fun π3 σ3 H3 s => h π3 σ3 H3 (e.trans s)
  | bk δ m => exact fun π3 σ3 H3 s => h π3 σ3 H3 (e.trans s)
  | ct δ m => exact fun π3 σ3 H3 s => h π3 σ3 H3 (e.trans s)
  | rt d m => exact fun π3 v H3 s => h π3 v H3 ⟨e.trans s.ex, s.ok⟩
  | exc x δ m => exact fun π3 σ3 c dd H3 s => h π3 σ3 c dd H3 (e.trans s)
  | bad => exact h

/-! ### a slot is set -/
section
variable {G : Gx} {E : XKS} {π : Wv} {σ : L2.St} {H H2 : Hp} {δ : Sls} {m : Mir}
theorem EnvOk.set (e : EnvOk G H σ δ) (i : Nat) {d : D} {v : V} (r : Rep G H d v) : EnvOk G H (σ.set i (some v)) (δ.set i (.dat d)) := by
  refine ⟨by rw [List.length_set, List.length_set]; exact e.len, fun j s hs => ?_⟩
  by_cases hj : i = j
  · subst hj
    have hl : i < δ.length := by
      have := (List.getElem?_eq_some_iff.mp hs).1
      simpa using this
    rw [List.getElem?_set_self hl] at hs
    cases hs
    exact ⟨some v, by rw [List.getElem?_set_self (by rw [← e.len]; exact hl)], v, rfl, r⟩
  · rw [List.getElem?_set_ne hj] at hs ⊢
    exact e.sl j s hs
theorem EnvOk.unset (e : EnvOk G H σ δ) (i : Nat) (w : Option V) : EnvOk G H (σ.set i w) (δ.set i .un) := by
  refine ⟨by rw [List.length_set, List.length_set]; exact e.len, fun j s hs => ?_⟩
  by_cases hj : i = j
  · subst hj
    have hl : i < δ.length := by
      have := (List.getElem?_eq_some_iff.mp hs).1
      simpa using this
    rw [List.getElem?_set_self hl] at hs
    cases hs
    exact ⟨w, by rw [List.getElem?_set_self (by rw [← e.len]; exact hl)], trivial⟩
  · rw [List.getElem?_set_ne hj] at hs ⊢
    exact e.sl j s hs
theorem At.set (a : At G π σ H δ m) (i : Nat) {d : D} {v : V} (r : Rep (G.at π) (hid (lv π m) H) d v) : At G π (σ.set i (some v)) H (δ.set i (.dat d)) m := ⟨a.env.set i r, a.mok, a.inv⟩

/-! ### combinators -/
def sNx : Fs := fun δ m => .nx δ m
def sBk : Fs := fun δ m => .bk δ m
def sCt : Fs := fun δ m => .ct δ m
/-- behind an expression -/
def thn {α : Type} (r : Rs α) (δ : Sls) (k : α → Mir → Fl) : Fl := match r with
  | .ok a m1 => k a m1
  | .exc x m1 => .exc x δ m1
  | .bad => .bad
def sRet (f : Fe) : Fs := fun δ m => DM.thn (f δ m) δ fun d m1 => .rt d m1
def sRetN : Fs := fun _ m => .rt .non m
def sSet (i : Nat) (f : Fe) : Fs := fun δ m => DM.thn (f δ m) δ fun d m1 => .nx (δ.set i (.dat d)) m1
def sDrop (f : Fe) : Fs := fun δ m => DM.thn (f δ m) δ fun _ m1 => .nx δ m1
def sSeq (g h : Fs) : Fs := fun δ m => match g δ m with
  | .nx δ1 m1 => h δ1 m1
  | r => r
def sIf (t : Ft) (g h : Fs) : Fs := fun δ m => DM.thn (t δ m) δ fun b m1 => if b = true then g δ m1 else h δ m1
def sNever : Fs := fun _ _ => .bad

theorem liftS_nx {Dn : Ends} (h : tS G E sNx Dn σ H) : tNext Dn σ H := by
  obtain ⟨π, δ, m, a, p⟩ := h
  exact p π σ H Ex.refl a
theorem liftS_bk {Dn : Ends} (h : tS G E sBk Dn σ H) : tBreak Dn σ H := by
  obtain ⟨π, δ, m, a, p⟩ := h
  exact p π σ H Ex.refl a
theorem liftS_ct {Dn : Ends} (h : tS G E sCt Dn σ H) : tCont Dn σ H := by
  obtain ⟨π, δ, m, a, p⟩ := h
  exact p π σ H Ex.refl a
/-- an expression ahead of a rest -/
theorem post_thn {f : Fe} {k : D → Mir → Fl} {Dn : Ends} {Q : VK} (a : At G π σ H δ m) (p : PostS G E π m H Dn (DM.thn (f δ m) δ k))
    (h : ∀ d m1 π1 v H1, Go G π m H π1 m1 H1 → At G π1 σ H1 δ m1 → Rep (G.at π1) (hid (lv π1 m1) H1) d v → PostS G E π1 m1 H1 Dn (k d m1) → Q v H1) : Post G (E σ) π m H Q (f δ m) := by
  cases hf : f δ m with
  | bad => rw [hf] at p; exact p
  | exc x m1 =>
    rw [hf] at p
    exact fun π1 c dd H1 s x => p π1 σ c dd H1 s.ex (a.step s) x
  | ok d m1 =>
    rw [hf] at p
    exact fun π1 v H1 s x => h d m1 π1 v H1 s (a.step s) x (PostS.from_ s.ex p)
theorem post_thnT {t : Ft} {k : Bool → Mir → Fl} {Dn : Ends} {Q : Bool → Hp → Prop} (a : At G π σ H δ m) (p : PostS G E π m H Dn (DM.thn (t δ m) δ k))
    (h : ∀ b m1 π1 H1, Go G π m H π1 m1 H1 → At G π1 σ H1 δ m1 → PostS G E π1 m1 H1 Dn (k b m1) → Q b H1) : PostT G (E σ) π m H Q (t δ m) := by
  cases hf : t δ m with
  | bad => rw [hf] at p; exact p
  | exc x m1 =>
    rw [hf] at p
    exact fun π1 c dd H1 s x => p π1 σ c dd H1 s.ex (a.step s) x
  | ok d m1 =>
    rw [hf] at p
    exact fun π1 H1 s => h d m1 π1 H1 s (a.step s) (PostS.from_ s.ex p)
theorem liftS_ret {Dn : Ends} {f : Fe} (h : tS G E (sRet f) Dn σ H) : tRet (tD G E f) Dn σ H := by
  obtain ⟨π, δ, m, a, p⟩ := h
  exact ⟨π, δ, m, a, post_thn a p fun d m1 π1 v H1 s a1 r p => p π1 v H1 a1.go r⟩
theorem liftS_retN {Dn : Ends} (h : tS G E sRetN Dn σ H) : tRetN Dn σ H := by
  obtain ⟨π, δ, m, a, p⟩ := h
  exact p π .non H a.go rfl
theorem liftS_set {Dn : Ends} {i : Nat} {f : Fe} (h : tS G E (sSet i f) Dn σ H) : tAsg (tD G E f) (gName i) Dn σ H := by
  obtain ⟨π, δ, m, a, p⟩ := h
  exact ⟨π, δ, m, a, post_thn a p fun d m1 π1 v H1 s a1 r p => p π1 _ H1 Ex.refl (a1.set i r)⟩
theorem liftS_drop {Dn : Ends} {f : Fe} (h : tS G E (sDrop f) Dn σ H) : tDrop (tD G E f) Dn σ H := by
  obtain ⟨π, δ, m, a, p⟩ := h
  exact ⟨π, δ, m, a, post_thn a p fun d m1 π1 v H1 s a1 r p => p π1 _ H1 Ex.refl a1⟩
theorem liftS_seq {Dn : Ends} {g h : Fs} (k : tS G E (sSeq g h) Dn σ H) : tSeq (tS G E g) (tS G E h) Dn σ H := by
  obtain ⟨π, δ, m, a, p⟩ := k
  refine ⟨π, δ, m, a, ?_⟩
  unfold sSeq at p
  cases hf : g δ m with
  | nx δ1 m1 =>
    rw [hf] at p
    exact fun π2 σ2 H2 s a2 => ⟨π2, δ1, m1, a2, PostS.from_ s p⟩
  | bk δ1 m1 => rw [hf] at p; exact p
  | ct δ1 m1 => rw [hf] at p; exact p
  | rt d m1 => rw [hf] at p; exact p
  | exc x δ1 m1 => rw [hf] at p; exact p
  | bad => rw [hf] at p; exact p
theorem liftS_if {Dn : Ends} {t : Ft} {g h : Fs} (k : tS G E (sIf t g h) Dn σ H) : tIfS (tDT G E t) (tS G E g) (tS G E h) Dn σ H := by
  obtain ⟨π, δ, m, a, p⟩ := k
  refine ⟨π, δ, m, a, post_thnT a p fun b m1 π1 H1 s a1 p => ?_⟩
  cases b with
  | true =>
    rw [if_pos rfl] at p
    rw [if_pos rfl]
    exact ⟨π1, δ, m1, a1, p⟩
  | false =>
    rw [if_neg Bool.false_ne_true] at p
    rw [if_neg Bool.false_ne_true]
    exact ⟨π1, δ, m1, a1, p⟩
end

/-! ### what is walked -/
section
variable {G : Gx} {E : XKS} {σ : L2.St} {H H2 : Hp}
/-- a walk that gives the data ds, whatever is done with the mirror -/
structure Wk (G : Gx) (π : Wv) (m : Mir) (H : Hp) (J : It) (ds : List D) (gd : Gd) : Prop where
  ex : ∃ (Gv : Hp → Prop) (Y : Nat → Hp → V → Hp → Prop), Walk J ds.length Gv Y ∧ (∀ π2 m2 H2, Ex π m H π2 m2 H2 → MOk G π2 H2 m2 → gdOk gd m2 = true → Gv H2) ∧
    ∀ i H2 x H3 (π2 : Wv) m2, i < ds.length → Wle π π2 → Same (hid (lv π m) H) (hid (lv π2 m2) H2) → MOk G π2 H2 m2 → gdOk gd m2 = true → Y i H2 x H3 → Same H2 H3 ∧ ∃ d, ds[i]? = some d ∧ Rep (G.at π2) (hid (lv π2 m2) H3) d x
/-- what is walked: the items, and the list of the mirror that they are in -/
abbrev Fi := Sls → Mir → Rs (List D × Gd)
def PostI (G : Gx) (E : XK) (π : Wv) (m : Mir) (H : Hp) (R : It → Hp → Prop) : Rs (List D × Gd) → Prop
  | .ok dg m2 => ∀ π2 J H2, Go G π m H π2 m2 H2 → Wk G π2 m2 H2 J dg.1 dg.2 → R J H2
  | .exc x m2 => ∀ π2 cls dd H2, Go G π m H π2 m2 H2 → ExcOk (G.at π2) (hid (lv π2 m2) H2) x cls dd → E cls dd H2
  | .bad => False
def tDI (G : Gx) (E : XKS) (f : Fi) : TI := fun σ H R => ∃ π δ m, At G π σ H δ m ∧ PostI G (E σ) π m H R (f δ m)
/-- a target -/
abbrev Ftg := D → Sls → Option Sls
def TgOk (G : Gx) (g : TG) (t : Ftg) (ts : List Nat) : Prop := ∀ (π : Wv) (hd : Addr → Bool) (σ : L2.St) (H : Hp) (δ δ2 : Sls) (d : D) (v : V) (Q : L2.St → Hp → Prop),
  EnvOk (G.at π) (hid hd H) σ δ → Rep (G.at π) (hid hd H) d v → t d δ = some δ2 → (∀ σ2, EnvOk (G.at π) (hid hd H) σ2 δ2 → wipe σ2 ts = wipe σ ts → Q σ2 H) → g v σ H Q
theorem wipe_set (σ : L2.St) (i : Nat) (x : Option V) : ∀ ts : List Nat, (wipe (σ.set i x) ts).set i none = (wipe σ ts).set i none
  | [] => by simp [wipe]
  | t :: ts => by
    simp only [wipe]
    by_cases h : t = i
    · subst h
      rw [List.set_set, List.set_set]
      exact wipe_set σ t x ts
    · rw [List.set_comm _ _ h, wipe_set σ i x ts, List.set_comm _ _ h]
theorem wipe_wipe (σ : L2.St) : ∀ ts us : List Nat, (∀ t ∈ ts, t ∈ us) → wipe (wipe σ ts) us = wipe σ us
  | [], us, _ => rfl
  | t :: ts, us, h => by
    have ht : t ∈ us := h t (by simp)
    have ih := wipe_wipe σ ts us fun x hx => h x (by simp [hx])
    rw [← ih]
    show wipe ((wipe σ ts).set t none) us = wipe (wipe σ ts) us
    have key : ∀ (τ : L2.St) (us : List Nat), t ∈ us → wipe (τ.set t none) us = wipe τ us := by
      intro τ us
      induction us with
      | nil => intro h; cases h
      | cons u us ihu =>
        intro hm
        by_cases he : u = t
        · subst he
          exact wipe_set τ u none us
        · have hm' : t ∈ us := by
            rcases List.mem_cons.mp hm with h | h
            · exact absurd h.symm he
            · exact h
          show (wipe (τ.set t none) us).set u none = (wipe τ us).set u none
          rw [ihu hm']
    exact key _ us ht
def gN (i : Nat) : Ftg := fun d δ => some (δ.set i (.dat d))
theorem tg_name {i : Nat} : TgOk G (gName i) (gN i) [i] := fun π hd σ H δ δ2 d v Q e r h k => by
  cases h
  exact k _ (e.set i r) (wipe_set σ i (some v) [])
/-- several -/
def TgsOk (G : Gx) (g : TGs) (t : List D → Sls → Option Sls) (ts : List Nat) : Prop := ∀ (π : Wv) (hd : Addr → Bool) (σ : L2.St) (H : Hp) (δ δ2 : Sls) (ds : List D) (vs : List V) (Q : L2.St → Hp → Prop),
  EnvOk (G.at π) (hid hd H) σ δ → RepAll (G.at π) (hid hd H) ds vs → t ds δ = some δ2 → (∀ σ2, EnvOk (G.at π) (hid hd H) σ2 δ2 → wipe σ2 ts = wipe σ ts → Q σ2 H) → g vs σ H Q
def gsNil : List D → Sls → Option Sls
  | [], δ => some δ
  | _, _ => none
def gsCons (t : Ftg) (u : List D → Sls → Option Sls) : List D → Sls → Option Sls
  | d :: ds, δ => (t d δ).bind fun δ2 => u ds δ2
  | [], _ => none
def gT (u : List D → Sls → Option Sls) : Ftg
  | .tup ds, δ => u ds δ
  | _, _ => none
theorem tgs_nil : TgsOk G gNil gsNil [] := fun π hd σ H δ δ2 ds vs Q e r h k => by
  cases ds with
  | nil =>
    cases h
    exact ⟨r, k σ e rfl⟩
  | cons d ds => cases h
theorem wipe_append (σ : L2.St) (us : List Nat) : ∀ ts : List Nat, wipe σ (ts ++ us) = wipe (wipe σ us) ts
  | [] => rfl
  | t :: ts => by
    show (wipe σ (ts ++ us)).set t none = (wipe (wipe σ us) ts).set t none
    rw [wipe_append σ us ts]
theorem wipe_comm (σ : L2.St) (us : List Nat) : ∀ ts : List Nat, wipe (wipe σ us) ts = wipe (wipe σ ts) us
  | [] => rfl
  | t :: ts => by
    show (wipe (wipe σ us) ts).set t none = wipe ((wipe σ ts).set t none) us
    rw [wipe_comm σ us ts]
    have key : ∀ (τ : L2.St) (us : List Nat), (wipe τ us).set t none = wipe (τ.set t none) us := by
      intro τ us
      induction us with
      | nil => rfl
      | cons u us ih =>
        show ((wipe τ us).set u none).set t none = (wipe (τ.set t none) us).set u none
        rw [← ih]
        by_cases h : u = t
        · subst h; rfl
        · rw [List.set_comm _ _ h]
    exact key _ us
theorem tgs_cons {g : TG} {gs : TGs} {t : Ftg} {u : List D → Sls → Option Sls} {ts us : List Nat} (h1 : TgOk G g t ts) (h2 : TgsOk G gs u us) : TgsOk G (gCons g gs) (gsCons t u) (ts ++ us) := fun π hd σ H δ δ2 ds vs Q e r h k => by
  cases ds with
  | nil => cases h
  | cons d ds =>
    obtain ⟨v, vr, rfl, r1, r2⟩ := r
    simp only [gsCons] at h
    cases ht : t d δ with
    | none => rw [ht] at h; cases h
    | some δ1 =>
      rw [ht] at h
      exact ⟨v, vr, rfl, h1 π hd σ H δ δ1 d v _ e r1 ht fun σ1 e1 w1 => h2 π hd σ1 H δ1 δ2 ds vr Q e1 r2 h fun σ2 e2 w2 => k σ2 e2 (by
        rw [wipe_append, w2, ← wipe_append, wipe_append, wipe_comm, w1, wipe_comm, ← wipe_append])⟩
theorem pyLen_ok {u : List D → Sls → Option Sls} {n : Nat} (hn : ∀ ds δ δ2, u ds δ = some δ2 → ds.length = n) {gs : TGs} {ts : List Nat} (h : TgsOk G gs u ts) : TgOk G (gTup G.K n gs) (gT u) ts := fun π hd σ H δ δ2 d v Q e r ht k => by
  cases d with
  | tup ds =>
    obtain ⟨a, xs, rfl, h1, h2⟩ := r
    refine ⟨a, xs, rfl, Same.sqT hid_self h1, by rw [RepAll.length h2]; exact hn ds δ δ2 ht, h π hd σ H δ δ2 ds xs Q e h2 ht k⟩
  | _ => cases ht
theorem gsNil_len : ∀ ds δ δ2, gsNil ds δ = some δ2 → ds.length = 0 := fun ds δ δ2 h => by
  cases ds with
  | nil => rfl
  | cons d ds => cases h
theorem gsCons_len {t : Ftg} {u : List D → Sls → Option Sls} {n : Nat} (hn : ∀ ds δ δ2, u ds δ = some δ2 → ds.length = n) : ∀ ds δ δ2, gsCons t u ds δ = some δ2 → ds.length = n + 1 := fun ds δ δ2 h => by
  cases ds with
  | nil => cases h
  | cons d ds =>
    simp only [gsCons] at h
    cases ht : t d δ with
    | none => rw [ht] at h; cases h
    | some δ1 =>
      rw [ht] at h
      rw [List.length_cons, hn ds δ1 δ2 h]

/-! ### for -/
def forL (t : Ftg) (g : Fs) (gd : Gd) : List D → Sls → Mir → Fl
  | [], δ, m => if gdOk gd m = true then .nx δ m else .bad
  | d :: ds, δ, m => if gdOk gd m = true then (match t d δ with
    | none => .bad
    | some δ1 => match g δ1 m with
      | .nx δ2 m2 => forL t g gd ds δ2 m2
      | .ct δ2 m2 => forL t g gd ds δ2 m2
      | .bk δ2 m2 => .nx δ2 m2
      | .rt d m2 => .rt d m2
      | .exc x δ2 m2 => .exc x δ2 m2
      | .bad => .bad) else .bad
def sFor (f : Fi) (t : Ftg) (g : Fs) : Fs := fun δ m => DM.thn (f δ m) δ fun dg m1 => forL t g dg.2 dg.1 δ m1
theorem liftS_for {Dn : Ends} {f : Fi} {tg : TG} {t : Ftg} {g : Fs} {ts : List Nat} (ht : TgOk G tg t ts) (h : tS G E (sFor f t g) Dn σ H) : tFor (tDI G E f) tg (tS G E g) Dn σ H := by
  obtain ⟨π, δ, m, a, p⟩ := h
  refine ⟨π, δ, m, a, ?_⟩
  unfold sFor DM.thn at p
  cases hf : f δ m with
  | bad => rw [hf] at p; exact p
  | exc x m1 =>
    rw [hf] at p
    exact fun π1 c dd H1 s x => p π1 σ c dd H1 s.ex (a.step s) x
  | ok dg m1 =>
    obtain ⟨ds, gd⟩ := dg
    rw [hf] at p
    intro π1 J H1 s1 wk
    have a1 := a.step s1
    replace p := PostS.from_ s1.ex p
    obtain ⟨Gv, Y, wlk, hG, hY⟩ := wk.ex
    have gok : ∀ {ds : List D} {δ2 m2 π2 H'}, PostS G E π2 m2 H' Dn (forL t g gd ds δ2 m2) → gdOk gd m2 = true := by
      intro ds δ2 m2 π2 H' p
      cases q : gdOk gd m2 with
      | true => rfl
      | false =>
        cases ds with
        | nil =>
          simp only [forL, q] at p
          exact False.elim p
        | cons d ds =>
          simp only [forL, q] at p
          exact False.elim p
    refine for_it wlk (fun i σ' H' => ∃ π2 δ2 m2, Ex π1 m1 H1 π2 m2 H' ∧ At G π2 σ' H' δ2 m2 ∧ PostS G E π2 m2 H' Dn (forL t g gd (ds.drop i) δ2 m2)) ⟨π1, δ, m1, Ex.refl, a1, p⟩ (fun i σ' H' _ ⟨π2, _, m2, kp, a2, p2⟩ => hG π2 m2 H' kp a2.mok (gok p2)) ?_ ?_
    · rintro i x σ' H' H3 hi ⟨π2, δ2, m2, kp, a2, p2⟩ y
      have gk := gok p2
      obtain ⟨sm, d, hd, rd⟩ := hY i H' x H3 π2 m2 hi kp.pre kp.same a2.mok gk y
      have g3 : Go G π2 m2 H' π2 m2 H3 := Go.of a2.mok sm
      have a3 : At G π2 σ' H3 δ2 m2 := a2.step g3
      replace p2 := PostS.from_ g3.ex p2
      have kp3 : Ex π1 m1 H1 π2 m2 H3 := kp.trans g3.ex
      have hdrop : ds.drop i = d :: ds.drop (i + 1) := by
        obtain ⟨hlt, e⟩ := List.getElem?_eq_some_iff.mp hd
        rw [List.drop_eq_getElem_cons hlt, e]
      rw [hdrop] at p2
      simp only [forL, gk, if_pos] at p2
      cases htd : t d δ2 with
      | none => rw [htd] at p2; exact False.elim p2
      | some δ3 =>
        rw [htd] at p2
        refine ht π2 (lv π2 m2) σ' H3 δ2 δ3 d x _ a3.env rd htd fun σ3 e3 _ => ?_
        refine ⟨π2, δ3, m2, ⟨e3, a3.mok, a3.inv⟩, ?_⟩
        simp only at p2
        cases hg : g δ3 m2 with
        | nx δ4 m4 =>
          rw [hg] at p2
          exact fun π4 σ4 H4 kp4 e4 => ⟨π4, δ4, m4, kp3.trans kp4, e4, PostS.from_ kp4 p2⟩
        | ct δ4 m4 =>
          rw [hg] at p2
          exact fun π4 σ4 H4 kp4 e4 => ⟨π4, δ4, m4, kp3.trans kp4, e4, PostS.from_ kp4 p2⟩
        | bk δ4 m4 =>
          rw [hg] at p2
          exact fun π4 σ4 H4 kp4 e4 => p2 π4 σ4 H4 kp4 e4
        | rt d' m4 => rw [hg] at p2; exact p2
        | exc x' δ4 m4 => rw [hg] at p2; exact p2
        | bad => rw [hg] at p2; exact p2
    · rintro σ' H' ⟨π2, δ2, m2, kp, a2, p2⟩
      have gk := gok p2
      rw [List.drop_length] at p2
      simp only [forL, gk, if_pos] at p2
      exact p2 π2 σ' H' Ex.refl a2

/-! ### while -/
def whF (t : Ft) (g : Fs) : Nat → Sls → Mir → Fl
  | 0, _, _ => .bad
  | n + 1, δ, m => match t δ m with
    | .ok true m1 => (match g δ m1 with
      | .nx δ2 m2 => whF t g n δ2 m2
      | .ct δ2 m2 => whF t g n δ2 m2
      | .bk δ2 m2 => .nx δ2 m2
      | .rt d m2 => .rt d m2
      | .exc x δ2 m2 => .exc x δ2 m2
      | .bad => .bad)
    | .ok false m1 => .nx δ m1
    | .exc x m1 => .exc x δ m1
    | .bad => .bad
def sWhile (n : Sls → Mir → Nat) (t : Ft) (g : Fs) : Fs := fun δ m => whF t g (n δ m) δ m
theorem liftS_while {Dn : Ends} {n : Sls → Mir → Nat} {t : Ft} {g : Fs} (h : tS G E (sWhile n t g) Dn σ H) : tWhile (tDT G E t) (tS G E g) Dn σ H := by
  obtain ⟨π, δ, m, a, p⟩ := h
  refine ⟨fun k σ' H' => ∃ π2 δ2 m2, At G π2 σ' H' δ2 m2 ∧ PostS G E π2 m2 H' Dn (whF t g k δ2 m2), ⟨n δ m, π, δ, m, a, p⟩, ?_⟩
  rintro k σ' H' ⟨π2, δ2, m2, a2, p2⟩
  cases k with
  | zero => exact False.elim p2
  | succ k =>
    refine ⟨π2, δ2, m2, a2, ?_⟩
    simp only [whF] at p2
    cases ht : t δ2 m2 with
    | bad => rw [ht] at p2; exact p2
    | exc x m3 =>
      rw [ht] at p2
      exact fun π3 c dd H3 s x => p2 π3 σ' c dd H3 s.ex (a2.step s) x
    | ok b m3 =>
      rw [ht] at p2
      intro π3 H3 s3
      have a3 := a2.step s3
      replace p2 := PostS.from_ s3.ex p2
      cases b with
      | false =>
        rw [if_neg Bool.false_ne_true]
        exact p2 π3 σ' H3 Ex.refl a3
      | true =>
        rw [if_pos rfl]
        refine ⟨fun σ4 H4 => ∃ π4 δ4 m4, At G π4 σ4 H4 δ4 m4 ∧ PostS G E π4 m4 H4 Dn (whF t g k δ4 m4), fun σ4 H4 q => ⟨k, Nat.lt_succ_self k, q⟩, π3, δ2, m3, a3, ?_⟩
        simp only at p2
        cases hg : g δ2 m3 with
        | nx δ4 m4 =>
          rw [hg] at p2
          exact fun π4 σ4 H4 kp4 e4 => ⟨π4, δ4, m4, e4, PostS.from_ kp4 p2⟩
        | ct δ4 m4 =>
          rw [hg] at p2
          exact fun π4 σ4 H4 kp4 e4 => ⟨π4, δ4, m4, e4, PostS.from_ kp4 p2⟩
        | bk δ4 m4 =>
          rw [hg] at p2
          exact fun π4 σ4 H4 kp4 e4 => p2 π4 σ4 H4 kp4 e4
        | rt d' m4 => rw [hg] at p2; exact p2
        | exc x' δ4 m4 => rw [hg] at p2; exact p2
        | bad => rw [hg] at p2; exact p2
end
end DM

/-! Comprehensions over data. -/
namespace DM
open PySem PySem.Spec PyProof.Rows L2

def wipeD (δ : Sls) : List Nat → Sls
  | [] => δ
  | v :: vs => (wipeD δ vs).set v .un
abbrev ES0 : XKS := fun _ => E0
def lcL (t : Ftg) (tt : Ft) (te : Fe) (δ0 : Sls) (gd : Gd) : List D → Mir → Rs (List D)
  | [], m => if gdOk gd m = true then .ok [] m else .bad
  | d :: ds, m => if gdOk gd m = true then (match t d δ0 with
    | none => .bad
    | some δ1 => match tt δ1 m with
      | .ok true m1 => (match te δ1 m1 with
        | .ok y m2 => (lcL t tt te δ0 gd ds m2).bind fun ys m3 => .ok (y :: ys) m3
        | _ => .bad)
      | .ok false m1 => lcL t tt te δ0 gd ds m1
      | _ => .bad) else .bad
def fLc (fi : Fi) (t : Ftg) (tt : Ft) (te : Fe) (vs : List Nat) : Fe := fun δ m => (fi δ m).bind fun dg m1 =>
  if dg.1.length < sizeLine then (match lcL t tt te (wipeD δ vs) dg.2 dg.1 m1 with
    | .ok ys m2 => .ok (.lst ys) m2
    | _ => .bad) else .bad
def fYes : Ft := fun _ m => .ok true m

section
variable {G : Gx} {E : XKS} {σ : L2.St} {H H2 : Hp} {π : Wv} {δ : Sls} {m : Mir}
theorem wipeD_len (δ : Sls) : ∀ vs : List Nat, (wipeD δ vs).length = δ.length
  | [] => rfl
  | v :: vs => by
    simp only [wipeD]
    rw [List.length_set, wipeD_len δ vs]
theorem wipeD_some {δ : Sls} {i : Nat} {s : Sl} : ∀ {vs : List Nat}, (wipeD δ vs)[i]? = some s → (s = .un) ∨ (δ[i]? = some s ∧ i ∉ vs)
  | [], h => .inr ⟨h, by simp⟩
  | v :: vs, h => by
    simp only [wipeD] at h
    by_cases hv : v = i
    · subst hv
      have hl : v < (wipeD δ vs).length := by
        have := (List.getElem?_eq_some_iff.mp h).1
        simpa using this
      rw [List.getElem?_set_self hl] at h
      cases h
      exact .inl rfl
    · rw [List.getElem?_set_ne hv] at h
      rcases wipeD_some (vs := vs) h with h1 | ⟨h1, h2⟩
      · exact .inl h1
      · exact .inr ⟨h1, fun z => by
          rcases List.mem_cons.mp z with z | z
          · exact hv z.symm
          · exact h2 z⟩
theorem EnvOk.wipe (e : EnvOk G H σ δ) (vs : List Nat) : EnvOk G H (wipe σ vs) (wipeD δ vs) := by
  refine ⟨by rw [wipeD_len, wipe_length]; exact e.len, fun i s hs1 => ?_⟩
  have hl : i < (L2.wipe σ vs).length := by
    have := (List.getElem?_eq_some_iff.mp hs1).1
    rw [wipeD_len, e.len] at this
    rw [wipe_length]; exact this
  rcases wipeD_some hs1 with h1 | ⟨h1, h2⟩
  · subst h1
    exact ⟨(L2.wipe σ vs)[i], List.getElem?_eq_getElem hl, trivial⟩
  · obtain ⟨v, h3, h4⟩ := e.sl i s h1
    exact ⟨v, by rw [wipe_out h2]; exact h3, h4⟩

/-! ### one object more is hidden -/
def hide (hb : Addr → Bool) (p : Addr) : Addr → Bool := fun b => hb b || b == p
theorem hide_at {hb : Addr → Bool} {p : Addr} : hide hb p p = true := by unfold hide; simp
theorem hide_le {hb : Addr → Bool} {p a : Addr} (h : hide hb p a = false) : hb a = false ∧ a ≠ p := by
  unfold hide at h
  obtain ⟨h1, h2⟩ := Bool.or_eq_false_iff.mp h
  exact ⟨h1, fun z => by rw [z] at h2; simp at h2⟩
theorem hide_of {hb : Addr → Bool} {p a : Addr} (h1 : hb a = false) (h2 : a ≠ p) : hide hb p a = false := by
  unfold hide
  rw [h1, Bool.false_or]
  exact beq_eq_false_iff_ne.mpr h2
theorem mlv_pi {q : List Addr} {h1 h2 : Addr → Bool} {l1 l2 : Lm} {m : Mir} : mlv ⟨q, h1, l1⟩ m = mlv ⟨q, h2, l2⟩ m := rfl
theorem hide_new {p : Addr} {o : HO} {q : List Addr} {hb : Addr → Bool} {lm : Lm} (hp : H p = none) : Same (hid (lv ⟨q, hb, lm⟩ m) H) (hid (lv ⟨q, hide hb p, lm⟩ m) (upd H p o)) := fun a u h => by
  obtain ⟨h1, h2⟩ := hid_some.mp h
  obtain ⟨h3, h4⟩ := lv_false.mp h1
  have ne : a ≠ p := ne_of_none h2 hp
  exact hid_some.mpr ⟨lv_false.mpr ⟨hide_of h3 ne, h4⟩, by rw [upd_ne ne]; exact h2⟩
theorem unhide {p : Addr} {q : List Addr} {hb : Addr → Bool} {lm : Lm} : Same (hid (lv ⟨q, hide hb p, lm⟩ m) H) (hid (lv ⟨q, hb, lm⟩ m) H) := hid_le fun a o _ h => by
  obtain ⟨h3, h4⟩ := lv_false.mp h
  exact lv_false.mpr ⟨(hide_le h3).1, h4⟩
theorem MOk.hideNew {p : Addr} {o : HO} {q : List Addr} {hb : Addr → Bool} {lm : Lm} (k : MOk G ⟨q, hb, lm⟩ H m) (hp : H p = none) : MOk G ⟨q, hide hb p, lm⟩ (upd H p o) m := by
  have al : ∀ a, H a ≠ none → upd H p o a ≠ none := fun a ha => by
    rw [upd_ne (fun z => ha (by rw [z]; exact hp))]
    exact ha
  refine ⟨k.len, k.nd, fun a ha => al a (k.al a ha), fun a ha => ?_, fun a ha => ?_, fun n d a h1 h2 => ?_⟩
  · by_cases e : a = p
    · rw [e, upd_same]; simp
    · have h3 : hb a = true := by
        cases q : hb a with
        | true => rfl
        | false =>
          have ha' : hide hb p a = true := ha
          rw [hide_of q e] at ha'; cases ha'
      exact al a (k.alb a h3)
  · refine hide_of (k.sep a ha) fun z => k.al a ha ?_
    rw [z]; exact hp
  · exact Top.up (π := ⟨q, hb, lm⟩) (π' := ⟨q, hide hb p, lm⟩) ⟨List.prefix_refl _, rfl⟩ (hide_new hp) (fun u h => by rw [upd_ne (ne_of_none h hp)]; exact h) (k.cel n d a h1 h2)
theorem MOk.updHid {p : Addr} {o : HO} (k : MOk G π H m) (hp : π.hb p = true) : MOk G π (upd H p o) m := by
  have al : ∀ a, H a ≠ none → upd H p o a ≠ none := fun a ha => by
    by_cases z : a = p
    · rw [z, upd_same]; simp
    · rw [upd_ne z]; exact ha
  refine ⟨k.len, k.nd, fun a ha => al a (k.al a ha), fun a ha => al a (k.alb a ha), k.sep, fun n d a h1 h2 => ?_⟩
  refine Top.up (Wle.refl) (fun b u h => ?_) (fun u h => ?_) (k.cel n d a h1 h2)
  · obtain ⟨h3, h4⟩ := hid_some.mp h
    refine hid_some.mpr ⟨h3, ?_⟩
    rw [upd_ne]
    · exact h4
    · intro z
      rw [z] at h3
      rw [(lv_false.mp h3).1] at hp
      cases hp
  · rw [upd_ne]
    · exact h
    · intro z
      have := k.sep a (List.mem_of_getElem? h2)
      rw [z, hp] at this
      cases this
theorem MOk.unhide {p : Addr} {q : List Addr} {hb : Addr → Bool} {lm : Lm} (k : MOk G ⟨q, hide hb p, lm⟩ H m) : MOk G ⟨q, hb, lm⟩ H m :=
  ⟨k.len, k.nd, k.al, fun a ha => k.alb a (by show (hb a || a == p) = true; rw [show hb a = true from ha]; rfl), fun a ha => (hide_le (k.sep a ha)).1, fun n d a h1 h2 => Top.up (π := ⟨q, hide hb p, lm⟩) (π' := ⟨q, hb, lm⟩) ⟨List.prefix_refl _, rfl⟩ DM.unhide (fun _ h => h) (k.cel n d a h1 h2)⟩

theorem lift_lc {Q : VK} {fi : Fi} {tg : TG} {t : Ftg} {tt : Ft} {te : Fe} {vs : List Nat} (ht : TgOk G tg t vs) (h : tD G E (fLc fi t tt te vs) σ H Q) : tLc (tDI G E fi) tg (tDT G ES0 tt) (tD G ES0 te) vs σ H Q := by
  obtain ⟨π, δ, m, a, p⟩ := h
  refine ⟨π, δ, m, a, ?_⟩
  unfold fLc at p
  cases hf : fi δ m with
  | bad => rw [hf] at p; exact p
  | exc x m1 => rw [hf] at p; exact p
  | ok dg m1 =>
    obtain ⟨ds, gd⟩ := dg
    rw [hf] at p
    simp only [Rs.bind] at p
    intro π1 J H1 s1 wk Dl hD
    have a1 := a.step s1
    replace p := Post.from_ s1 p
    by_cases hsz : ds.length < sizeLine
    · rw [if_pos hsz] at p
      obtain ⟨Gv, Y, wlk, hG, hY⟩ := wk.ex
      have gok : ∀ {δ0 : Sls} {ds : List D} {m' : Mir} {zs : List D} {mz : Mir}, lcL t tt te δ0 gd ds m' = .ok zs mz → gdOk gd m' = true := by
        intro δ0 ds m' zs mz h
        cases q : gdOk gd m' with
        | true => rfl
        | false => cases ds <;> simp [lcL, q] at h
      generalize hδ0 : wipeD δ vs = δ0 at p
      cases hall : lcL t tt te δ0 gd ds m1 with
      | bad => rw [hall] at p; exact False.elim p
      | exc x m2 => rw [hall] at p; exact False.elim p
      | ok zs0 mz =>
        rw [hall] at p
        simp only at p
        have hDb : ∀ q, (⟨q, hide π1.hb Dl, π1.lm⟩ : Wv).hb Dl = true := fun q => hide_at
        refine lc_it wlk (fun i H' => ∃ acc ys m' q, Ex π1 m1 H1 ⟨q, π1.hb, π1.lm⟩ m' H' ∧ MOk G ⟨q, hide π1.hb Dl, π1.lm⟩ H' m' ∧ H' Dl = some (.lst acc) ∧ RepAll (G.at ⟨q, hide π1.hb Dl, π1.lm⟩) (hid (lv ⟨q, hide π1.hb Dl, π1.lm⟩ m') H') ys acc ∧ ys.length ≤ i ∧
          ∃ zs, lcL t tt te δ0 gd (ds.drop i) m' = .ok zs mz ∧ ys ++ zs = zs0) ?_ ?_ ?_ ?_
        · exact ⟨[], [], m1, π1.pi, Ex.of (same_new hD), MOk.hideNew s1.ok hD, upd_same, rfl, Nat.le_refl _, zs0, by simpa using hall, rfl⟩
        · rintro i H' _ ⟨acc, ys, m', q, k1, k2, _, _, _, zs, k6, _⟩
          exact hG ⟨q, π1.hb, π1.lm⟩ m' H' k1 k2.unhide (gok k6)
        · rintro i x H' H3 hi ⟨acc, ys, m', q, k1, k2, k3, k4, k5, zs, k6, k7⟩ y
          have hi' : i < ds.length := hi
          have ndl : mlv ⟨q, hide π1.hb Dl, π1.lm⟩ m' Dl = false := by
            cases z : mlv ⟨q, hide π1.hb Dl, π1.lm⟩ m' Dl with
            | false => rfl
            | true =>
              have := k2.sep Dl (mlv_mem z)
              rw [hDb q] at this
              cases this
          have sm0 : Same (hid (lv π1 m1) H1) (hid (lv ⟨q, hide π1.hb Dl, π1.lm⟩ m') H') := fun b o h => by
            obtain ⟨h1, h2⟩ := hid_some.mp h
            obtain ⟨h3, h4⟩ := hid_some.mp (k1.same b o h)
            obtain ⟨h5, h6⟩ := lv_false.mp h3
            exact hid_some.mpr ⟨lv_false.mpr ⟨hide_of h5 (ne_of_none h2 hD), h6⟩, h4⟩
          obtain ⟨sm, d, hdd, rd⟩ := hY i H' x H3 ⟨q, hide π1.hb Dl, π1.lm⟩ m' hi ⟨k1.pre.pre, rfl⟩ sm0 k2 (gok k6) y
          have hdrop : ds.drop i = d :: ds.drop (i + 1) := by
            obtain ⟨hlt, e⟩ := List.getElem?_eq_some_iff.mp hdd
            rw [List.drop_eq_getElem_cons hlt, e]
          have gk := gok k6
          rw [hdrop] at k6
          simp only [lcL, gk, if_pos] at k6
          have sm1 : Same (hid (lv ⟨q, hide π1.hb Dl, π1.lm⟩ m') H') (hid (lv ⟨q, hide π1.hb Dl, π1.lm⟩ m') H3) := hid_same fun b o _ h => sm b o h
          have e3 : EnvOk (G.at ⟨q, hide π1.hb Dl, π1.lm⟩) (hid (lv ⟨q, hide π1.hb Dl, π1.lm⟩ m') H3) (wipe σ vs) δ0 := by
            rw [← hδ0]
            exact EnvOk.wipe (a1.env.up (π2 := ⟨q, hide π1.hb Dl, π1.lm⟩) ⟨k1.pre.pre, rfl⟩ (fun b o h => sm1 b o (sm0 b o h))) vs
          have ok3 : MOk G ⟨q, hide π1.hb Dl, π1.lm⟩ H3 m' := k2.keep sm
          have inv3 : G.j.p ⟨q, hide π1.hb Dl, π1.lm⟩ (hid (lv ⟨q, hide π1.hb Dl, π1.lm⟩ m') H3) := G.j.up ⟨k1.pre.pre, rfl⟩ (fun b o h => sm1 b o (sm0 b o h)) a1.inv
          cases htd : t d δ0 with
          | none => rw [htd] at k6; cases k6
          | some δ1 =>
            rw [htd] at k6
            simp only at k6
            refine ht ⟨q, hide π1.hb Dl, π1.lm⟩ (lv ⟨q, hide π1.hb Dl, π1.lm⟩ m') (wipe σ vs) H3 δ0 δ1 d x _ e3 rd htd fun σ2 e2 w2 => ⟨by rw [w2, wipe_wipe σ vs vs fun _ h => h], ⟨q, hide π1.hb Dl, π1.lm⟩, δ1, m', ⟨e2, ok3, inv3⟩, ?_⟩
            cases htt : tt δ1 m' with
            | bad => rw [htt] at k6; cases k6
            | exc xx m3 => rw [htt] at k6; cases k6
            | ok b m3 =>
              rw [htt] at k6
              intro π4 H4 s4
              have h4b : π4 = ⟨π4.pi, hide π1.hb Dl, π1.lm⟩ := by
                have e1 := s4.ex.hb
                have e2 := s4.ex.pre.lm
                cases π4; cases e1; cases e2; rfl
              generalize π4.pi = q4 at h4b
              subst h4b
              have x4 : Ex π1 m1 H1 ⟨q4, π1.hb, π1.lm⟩ m3 H4 := k1.trans ⟨⟨s4.ex.pre.pre, rfl⟩, rfl, fun b o h1 h2 => s4.ex.st b o h1 (sm b o h2)⟩
              have d4 : H4 Dl = some (.lst acc) ∧ mlv ⟨q4, hide π1.hb Dl, π1.lm⟩ m3 Dl = false := s4.ex.st Dl _ ndl (sm _ _ k3)
              have r4 : RepAll (G.at ⟨q4, hide π1.hb Dl, π1.lm⟩) (hid (lv ⟨q4, hide π1.hb Dl, π1.lm⟩ m3) H4) ys acc := s4.ex.repAll ys (RepAll.mono sm1 ys k4)
              cases b with
              | false =>
                rw [if_neg Bool.false_ne_true]
                exact ⟨acc, ys, m3, q4, x4, s4.ok, d4.1, r4, Nat.le_succ_of_le k5, zs, k6, k7⟩
              | true =>
                rw [if_pos rfl]
                refine ⟨⟨q4, hide π1.hb Dl, π1.lm⟩, δ1, m3, (At.step ⟨e2, ok3, inv3⟩ s4), ?_⟩
                simp only at k6
                cases hte : te δ1 m3 with
                | bad => rw [hte] at k6; cases k6
                | exc xx m4 => rw [hte] at k6; cases k6
                | ok yd m4 =>
                  rw [hte] at k6
                  intro π5 v H5 s5 rv
                  have h5b : π5 = ⟨π5.pi, hide π1.hb Dl, π1.lm⟩ := by
                    have e1 := s5.ex.hb
                    have e2 := s5.ex.pre.lm
                    cases π5; cases e1; cases e2; rfl
                  generalize π5.pi = q5 at h5b
                  subst h5b
                  simp only [Rs.bind] at k6
                  have hlen : acc.length = ys.length := RepAll.length k4
                  have d5 := s5.ex.st Dl _ d4.2 d4.1
                  refine ⟨acc, d5.1, by omega, ?_⟩
                  cases hlc : lcL t tt te δ0 gd (ds.drop (i + 1)) m4 with
                  | bad => rw [hlc] at k6; cases k6
                  | exc xx m5 => rw [hlc] at k6; cases k6
                  | ok zs1 m5 =>
                    rw [hlc] at k6
                    simp only at k6
                    cases k6
                    have smu : Same (hid (lv ⟨q5, hide π1.hb Dl, π1.lm⟩ m4) H5) (hid (lv ⟨q5, hide π1.hb Dl, π1.lm⟩ m4) (upd H5 Dl (.lst (acc ++ [v])))) := hid_same fun b o h1 h2 => by
                      rw [upd_ne (hide_le (lv_false.mp h1).1).2]
                      exact h2
                    refine ⟨acc ++ [v], ys ++ [yd], m4, q5, ?_, s5.ok.updHid (hDb q5), upd_same, ?_, by rw [List.length_append]; simp; omega, zs1, hlc, by simpa using k7⟩
                    · refine ⟨⟨x4.pre.pre.trans s5.ex.pre.pre, rfl⟩, rfl, fun b o h1 h2 => ?_⟩
                      obtain ⟨h3, h4⟩ := x4.st b o h1 h2
                      rw [upd_ne (ne_of_none h2 hD)]
                      exact s5.ex.st b o h4 h3
                    · exact RepAll.append (RepAll.mono smu ys (s5.ex.repAll ys r4)) (RepAll.one (Rep.mono smu yd rv))
        · rintro H' ⟨acc, ys, m', q, k1, k2, k3, k4, k5, zs, k6, k7⟩
          have gk := gok k6
          rw [List.drop_length] at k6
          simp only [lcL, gk, if_pos] at k6
          cases k6
          rw [List.append_nil] at k7
          subst k7
          have ndl : mlv ⟨q, π1.hb, π1.lm⟩ mz Dl = false := by
            cases z : mlv ⟨q, π1.hb, π1.lm⟩ mz Dl with
            | false => rfl
            | true =>
              have := k2.sep Dl (mlv_mem z)
              rw [hDb q] at this
              cases this
          refine p ⟨q, π1.hb, π1.lm⟩ (.ref Dl) H' ⟨k1, k2.unhide⟩ ⟨Dl, acc, rfl, hid_some.mpr ⟨lv_false.mpr ⟨?_, ndl⟩, k3⟩, RepAll.mono unhide ys k4⟩
          exact (lv_false.mp (a1.new Dl hD)).1
    · rw [if_neg hsz] at p
      exact False.elim p
end
end DM

/-! Defs over data: their bodies as functions, their calls. -/
namespace DM
open PySem PySem.Spec PyProof.Rows L2

/-! ### what a def leaves of the mirror -/
mutual
/-- it looks at places below k alone -/
def D.low (k : Nat) : D → Bool
  | .non => true
  | .bl _ => true
  | .int _ => true
  | .str _ => true
  | .lst ds => D.lows k ds
  | .tup ds => D.lows k ds
  | .ins _ _ ds => D.lows k ds
  | .dK _ ds => D.lows k ds
  | .dT _ ds => D.lows k ds
  | .ref n => Nat.blt n k
  | .lam _ => true
  | .tbl _ => true
def D.lows (k : Nat) : List D → Bool
  | [] => true
  | d :: ds => D.low k d && D.lows k ds
end
def cellsBelow (k : Nat) : Nat → Mir → Bool
  | 0, _ => true
  | _ + 1, [] => true
  | j + 1, none :: m => cellsBelow k j m
  | j + 1, some d :: m => D.low k d && cellsBelow k j m
/-- the new places are dropped where nothing looks at them -/
def trimR (k : Nat) (d : D) (m : Mir) : Rs D := if m.length = k then .ok d m else if (D.low k d && cellsBelow k k m) = true then .ok d (m.take k) else .ok d m
def trimX (k : Nat) (x : Exn) (m : Mir) : Rs D := if m.length = k then .exc x m else if (D.lows k x.ds && cellsBelow k k m) = true then .exc x (m.take k) else .exc x m
section
variable {G : Gx} {π π2 : Wv} {H H' : Hp}
mutual
theorem Rep.down (p : Wle π π2) (e : Same H H') : ∀ (d : D) {v : V}, D.low π.pi.length d = true → Rep (G.at π2) H d v → Rep (G.at π) H' d v
  | .non, _, _, h => h
  | .bl _, _, _, h => h
  | .int _, _, _, h => h
  | .str _, _, _, h => h
  | .lst ds, _, b, ⟨a, xs, h1, h2, h3⟩ => ⟨a, xs, h1, e _ _ h2, RepAll.down p e ds b h3⟩
  | .tup ds, _, b, ⟨a, xs, h1, h2, h3⟩ => ⟨a, xs, h1, Same.sqT e h2, RepAll.down p e ds b h3⟩
  | .ins c ns ds, _, b, ⟨a, dx, xs, h1, h2, h3⟩ => ⟨a, dx, xs, h1, e _ _ h2, RepAll.down p e ds b h3⟩
  | .dK ks ds, _, b, ⟨a, xs, h1, h2, h4, h3⟩ => ⟨a, xs, h1, e _ _ h2, h4, RepAll.down p e ds b h3⟩
  | .dT ks ds, _, b, ⟨a, xs, h1, h2, h4, h3⟩ => ⟨a, xs, h1, e _ _ h2, h4, RepAll.down p e ds b h3⟩
  | .ref n, _, b, ⟨a, h1, h2⟩ => ⟨a, h1, by
    have hl : n < π.pi.length := by simpa [D.low, Nat.blt_eq] using b
    obtain ⟨t, ht⟩ := p.pre
    have h2' : π2.pi[n]? = some a := h2
    rw [← ht, List.getElem?_append_left hl] at h2'
    exact h2'⟩
  | .lam i, _, _, ⟨a, h1, h2⟩ => ⟨a, h1, by
    have h3 : π2.lm.p i a H := h2
    show π.lm.p i a H'
    rw [← p.lm]
    exact π2.lm.up e h3⟩
  | .tbl _, _, _, h => h
theorem RepAll.down (p : Wle π π2) (e : Same H H') : ∀ (ds : List D) {vs : List V}, D.lows π.pi.length ds = true → RepAll (G.at π2) H ds vs → RepAll (G.at π) H' ds vs
  | [], _, _, h => h
  | d :: ds, _, b, ⟨v, r, h1, h2, h3⟩ => by
    have b2 := Bool.and_eq_true_iff.mp (show (D.low π.pi.length d && D.lows π.pi.length ds) = true from b)
    exact ⟨v, r, h1, Rep.down p e d b2.1 h2, RepAll.down p e ds b2.2 h3⟩
end
theorem Top.down {Hh Hh2 : Hp} {d : D} {a : Addr} (p : Wle π π2) (e : Same Hh Hh2) (b : D.low π.pi.length d = true) (t : Top (G.at π2) H Hh d a) : Top (G.at π) H Hh2 d a := by
  cases d with
  | lst ds => obtain ⟨xs, h1, h2⟩ := t; exact ⟨xs, h1, RepAll.down p e ds b h2⟩
  | ins c ns ds => obtain ⟨dx, xs, h1, h3, h2⟩ := t; exact ⟨dx, xs, h1, h3, RepAll.down p e ds b h2⟩
  | dK ks ds => obtain ⟨xs, h1, h3, h2⟩ := t; exact ⟨xs, h1, h3, RepAll.down p e ds b h2⟩
  | dT ks ds => obtain ⟨xs, h1, h3, h2⟩ := t; exact ⟨xs, h1, h3, RepAll.down p e ds b h2⟩
  | tbl q =>
    obtain ⟨ps, h1, h2, h3⟩ := t
    exact ⟨ps, h1, h2, fun pos cv hc => by
      obtain ⟨c, e1, e2⟩ := h3 pos cv hc
      exact ⟨c, e1, e _ _ e2⟩⟩
  | _ => exact t
end
theorem cells_at {k : Nat} : ∀ {j : Nat} {m : Mir} {n : Nat} {d : D}, cellsBelow k j m = true → n < j → m[n]? = some (some d) → D.low k d = true
  | 0, _, _, _, _, h, _ => absurd h (Nat.not_lt_zero _)
  | _ + 1, [], n, _, _, _, h => by simp at h
  | j + 1, none :: m, 0, d, _, _, h => by simp at h
  | j + 1, none :: m, n + 1, d, h, l, e => cells_at (j := j) (m := m) h (Nat.lt_of_succ_lt_succ l) (by simpa using e)
  | j + 1, some d' :: m, 0, d, h, _, e => by
    simp at e
    subst e
    exact (Bool.and_eq_true_iff.mp (show (D.low k d' && cellsBelow k j m) = true from h)).1
  | j + 1, some d' :: m, n + 1, d, h, l, e => cells_at (j := j) (m := m) (Bool.and_eq_true_iff.mp (show (D.low k d' && cellsBelow k j m) = true from h)).2 (Nat.lt_of_succ_lt_succ l) (by simpa using e)
section
variable {G : Gx} {π π2 : Wv} {H H2 : Hp} {m m2 : Mir}
theorem cut_hid (p : Wle π π2) (hb : π2.hb = π.hb) {k : Nat} : Same (hid (lv π2 m2) H) (hid (lv π (m2.take k)) H) := hid_le fun a o _ h => by
  obtain ⟨h1, h2⟩ := lv_false.mp h
  refine lv_false.mpr ⟨by rw [← hb]; exact h1, ?_⟩
  cases q : mlv π (m2.take k) a with
  | false => rfl
  | true =>
    obtain ⟨n, d, e1, e2⟩ := mlv_iff.mp q
    have hlt : n < k := by
      have := (List.getElem?_eq_some_iff.mp e2).1
      rw [List.length_take] at this
      omega
    rw [List.getElem?_take_of_lt hlt] at e2
    rw [mlv_iff.mpr ⟨n, d, pre_get p e1, e2⟩] at h2
    cases h2
theorem Go.cut (g : Go G π m H π2 m2 H2) (k : MOk G π H m) (hc : cellsBelow m.length m.length m2 = true) : Go G π m H π (m2.take m.length) H2 := by
  have pre := g.ex.pre
  have hl := k.len
  have hl2 := g.ok.len
  have hle : π.pi.length ≤ π2.pi.length := pre.pre.length_le
  have low : ∀ a, mlv π (m2.take m.length) a = true → mlv π2 m2 a = true := fun a q => by
    obtain ⟨n, d, e1, e2⟩ := mlv_iff.mp q
    have hlt : n < m.length := by
      have := (List.getElem?_eq_some_iff.mp e2).1
      rw [List.length_take] at this
      omega
    rw [List.getElem?_take_of_lt hlt] at e2
    exact mlv_iff.mpr ⟨n, d, pre_get pre e1, e2⟩
  refine ⟨⟨Wle.refl, rfl, fun a o h1 h2 => ?_⟩, ⟨?_, k.nd, fun a ha => g.ok.al a (pre.pre.subset ha), fun a ha => g.ok.alb a (by rw [g.ex.hb]; exact ha), k.sep, fun n d a h1 h2 => ?_⟩⟩
  · obtain ⟨h3, h4⟩ := g.ex.st a o h1 h2
    refine ⟨h3, ?_⟩
    cases q : mlv π (m2.take m.length) a with
    | false => rfl
    | true => rw [low a q] at h4; cases h4
  · rw [List.length_take]
    omega
  · have hlt : n < m.length := by
      have := (List.getElem?_eq_some_iff.mp h1).1
      rw [List.length_take] at this
      omega
    rw [List.getElem?_take_of_lt hlt] at h1
    exact Top.down pre (cut_hid pre g.ex.hb) (by rw [hl]; exact cells_at hc hlt h1) (g.ok.cel n d a h1 (pre_get pre h2))
end
section
/-- a body run on arguments: n slots -/
def runF (n : Nat) (g : Fs) : Sls → Mir → Rs D := fun as m => match g (as ++ List.replicate (n - as.length) .un) m with
  | .rt d m1 => trimR m.length d m1
  | .nx _ m1 => trimR m.length .non m1
  | .exc x _ m1 => trimX m.length x m1
  | _ => .bad
/-- a promise by a function on data -/
def spD (G : Gx) (n : Nat) (F : Sls → Mir → Rs D) : Sp := fun vs H Q E => vs.length = n ∧ ∃ π as m, At G.j0 π (vs.map some) H as m ∧ Post G.j0 E π m H Q (F as m)
theorem EnvOk.more {G : Gx} {σ : L2.St} {H : Hp} {δ : Sls} (e : EnvOk G H σ δ) (n : Nat) : EnvOk G H (σ ++ List.replicate n none) (δ ++ List.replicate n .un) := by
  refine ⟨by simp [e.len], fun i s hs => ?_⟩
  by_cases hi : i < δ.length
  · rw [List.getElem?_append_left hi] at hs
    rw [List.getElem?_append_left (by rw [← e.len]; exact hi)]
    exact e.sl i s hs
  · rw [List.getElem?_append_right (by omega)] at hs
    rw [List.getElem?_append_right (by rw [← e.len]; omega)]
    have hlt := (List.getElem?_eq_some_iff.mp hs).1
    rw [List.length_replicate] at hlt
    rw [List.getElem?_replicate_of_lt hlt] at hs
    cases hs
    rw [List.getElem?_replicate_of_lt (by rw [← e.len]; exact hlt)]
    exact ⟨none, rfl, trivial⟩
theorem post_trimR {G : Gx} {π : Wv} {m m1 : Mir} {E : XK} {H : Hp} {Q : VK} {d : D} (k : MOk G π H m) (p : Post G E π m H Q (trimR m.length d m1)) : Post G E π m H Q (.ok d m1) := by
  unfold trimR at p
  by_cases h1 : m1.length = m.length
  · rw [if_pos h1] at p; exact p
  · rw [if_neg h1] at p
    by_cases h2 : (D.low m.length d && cellsBelow m.length m.length m1) = true
    · rw [if_pos h2] at p
      obtain ⟨h3, h4⟩ := Bool.and_eq_true_iff.mp h2
      exact fun π2 v H2 s r => p π v H2 (s.cut k h4) (Rep.down s.ex.pre (cut_hid s.ex.pre s.ex.hb) d (by rw [k.len]; exact h3) r)
    · rw [if_neg h2] at p; exact p
theorem post_trimX {G : Gx} {π : Wv} {m m1 : Mir} {E : XK} {H : Hp} {Q : VK} {x : Exn} (k : MOk G π H m) (p : Post G E π m H Q (trimX m.length x m1)) : Post G E π m H Q (.exc x m1) := by
  unfold trimX at p
  by_cases h1 : m1.length = m.length
  · rw [if_pos h1] at p; exact p
  · rw [if_neg h1] at p
    by_cases h2 : (D.lows m.length x.ds && cellsBelow m.length m.length m1) = true
    · rw [if_pos h2] at p
      obtain ⟨h3, h4⟩ := Bool.and_eq_true_iff.mp h2
      refine fun π2 c dd H2 s r => p π c dd H2 (s.cut k h4) ?_
      obtain ⟨r1, r2⟩ := r
      refine ⟨r1, ?_⟩
      rcases r2 with r2 | ⟨q, xs, r2, r3, r4⟩
      · exact .inl r2
      · exact .inr ⟨q, xs, r2, cut_hid s.ex.pre s.ex.hb _ _ r3, RepAll.down s.ex.pre (cut_hid s.ex.pre s.ex.hb) x.ds (by rw [k.len]; exact h3) r4⟩
    · rw [if_neg h2] at p; exact p
theorem post_body {G : Gx} {π : Wv} {E : XK} {H : Hp} {Q : VK} {n : Nat} {g : Fs} {as : Sls} {m : Mir} (k : MOk G π H m) (p : Post G E π m H Q (runF n g as m)) :
    PostS G (fun _ => E) π m H { nx := fun _ H' => Q .non H', rt := Q } (g (as ++ List.replicate (n - as.length) .un) m) := by
  unfold runF at p
  cases hg : g (as ++ List.replicate (n - as.length) .un) m with
  | nx δ m1 => rw [hg] at p; exact fun π2 σ2 H2 e a => post_trimR k p π2 .non H2 ⟨e, a.mok⟩ rfl
  | rt d m1 => rw [hg] at p; exact fun π2 v H2 e x => post_trimR k p π2 v H2 e x
  | exc x δ m1 => rw [hg] at p; exact fun π2 σ2 c dd H2 e a y => post_trimX k p π2 c dd H2 ⟨e, a.mok⟩ y
  | bk δ m1 => rw [hg] at p; exact False.elim p
  | ct δ m1 => rw [hg] at p; exact False.elim p
  | bad => rw [hg] at p; exact False.elim p
theorem body_start {G : Gx} {E : XK} {H : Hp} {Q : VK} {N : List Str} {g : Fs} {vs : List V} {n : Nat} (h : spD G n (runF N.length g) vs H Q E) :
    tS G.j0 (fun _ => E) g { nx := fun _ H' => Q .non H', rt := Q } (start N vs) H := by
  obtain ⟨hl, π, as, m, a, p⟩ := h
  have hlen : as.length = vs.length := by have := a.env.len; simpa using this
  refine ⟨π, as ++ List.replicate (N.length - as.length) .un, m, ⟨?_, a.mok, trivial⟩, post_body a.mok p⟩
  have e := EnvOk.more a.env (N.length - vs.length)
  unfold L2.start
  rw [hlen]
  exact e
section
variable {P : Program} {w : World} {K : PySem.W.Frag} {mg : Str → Option Value} {base : Heap}
/-- a def by its body, whatever is told of its exceptions -/
theorem fn_any {CX : CXT} {x qual : Str} {st : Stmt} {f : Addr} {fd : FuncData} {N ps : List Str} {k : Nat} {sp : Sp} (F : Fun K x qual st f fd) (S : FnScope N ps (defScope st)) (len : ∀ vs H Q E, sp vs H Q E → vs.length = ps.length)
    (hb : ∀ (cdv : Value) (A : Around) (outer : List Env) (s : Shared) (H : Hp) (vs : List V) (Q : VK) (E : XK), Room k (A.deeper (envOfC qual (defScope st) s.heap.objs.size f cdv)) → sp vs H Q E →
      ∃ t, PSs (cxOf CX P w K mg base N qual (defScope st) f cdv A outer s H E) (defBody st) t ∧ t { nx := fun _ H' => Q .non H', rt := Q } (L2.start N vs) H) : FnOk P w K mg base CX (k + 1) f fd ps sp := by
  obtain ⟨_, _, _, _, _, _, cdv, _, _, rfl, lk, code⟩ := F.ex
  exact fn_of lk code S len (hb cdv)
/-- THE RULE for a def: its body is a function on data -/
theorem fn_ok {x qual : Str} {st : Stmt} {f : Addr} {fd : FuncData} {N ps : List Str} {k : Nat} {cn : Str → Addr} {g : Fs} (F : Fun K x qual st f fd) (S : FnScope N ps (defScope st))
    (hb : ∀ (cdv : Value) (A : Around) (outer : List Env) (s : Shared) (H : Hp) (E : XK), Room k (A.deeper (envOfC qual (defScope st) s.heap.objs.size f cdv)) →
      PSs (cxOf (L2N.CX P w) P w K mg base N qual (defScope st) f cdv A outer s H E) (defBody st) (tS (gx K (c0 cn)) (fun _ => E) g)) :
    FnOk P w K mg base (L2N.CX P w) (k + 1) f fd ps (spD (gx K (c0 cn)) ps.length (runF N.length g)) :=
  fn_any F S (fun vs H Q E h => h.1) fun cdv A outer s H vs Q E hr h => ⟨_, hb cdv A outer s H E hr, body_start h⟩
/-- a promise by another function that does as well -/
theorem FnOk.to {k : Nat} {f : Addr} {fd : FuncData} {ps : List Str} {CX : CXT} {G : Gx} {n : Nat} {F F' : Sls → Mir → Rs D} (h : FnOk P w K mg base CX k f fd ps (spD G n F)) (e : ∀ as m, as.length = n → F' as m = .bad ∨ F as m = F' as m) :
    FnOk P w K mg base CX k f fd ps (spD G n F') := h.imp fun vs H Q E ⟨hl, π, as, m, a, p⟩ => ⟨hl, π, as, m, a, by
  have hlen : as.length = n := by have := a.env.len; rw [List.length_map] at this; omega
  rcases e as m hlen with h | h
  · rw [h] at p; exact False.elim p
  · rw [h]; exact p⟩
end

/-! ### arguments -/
section
variable {G : Gx} {E : XKS} {σ : L2.St} {H H2 : Hp} {π : Wv} {δ : Sls} {m m2 : Mir}
theorem at_dats (a : At G π σ H δ m) : ∀ {ds : List D} {vs : List V}, RepAll (G.at π) (hid (lv π m) H) ds vs → At G π (vs.map some) H (ds.map .dat) m
  | [], vs, r => by
    obtain rfl : vs = [] := r
    exact ⟨⟨rfl, fun i s h => by simp at h⟩, a.mok, a.inv⟩
  | d :: ds, vs, r => by
    obtain ⟨v, vs, rfl, r1, r2⟩ := r
    have b := at_dats a r2
    refine ⟨⟨by simp only [List.map_cons, List.length_cons, b.env.len], fun i s h => ?_⟩, a.mok, a.inv⟩
    cases i with
    | zero =>
      simp at h
      subst h
      exact ⟨some v, rfl, v, rfl, r1⟩
    | succ i => exact b.env.sl i s (by simpa using h)

/-! ### calls -/
def fCallN (n : Nat) (F : Sls → Mir → Rs D) (g : Fa) : Fe := fun δ m => (g δ m).bind fun ds m1 => if ds.length = n then F (ds.map .dat) m1 else .bad
theorem lift_callN {n : Nat} {F : Sls → Mir → Rs D} {g : Fa} {Q : VK} (h : tD G E (fCallN n F g) σ H Q) : tCallS (spD G n F) E (tDA G E g) σ H Q := by
  obtain ⟨π, δ, m, at0, p⟩ := h
  refine ⟨π, δ, m, at0, ?_⟩
  unfold fCallN at p
  cases hf : g δ m with
  | bad => rw [hf] at p; exact p
  | exc x m1 => rw [hf] at p; exact p
  | ok ds m1 =>
    rw [hf] at p
    intro π1 vs H1 s1 rx
    simp only [Rs.bind] at p
    by_cases hn : ds.length = n
    · rw [if_pos hn] at p
      exact ⟨by rw [RepAll.length rx]; exact hn, π1, _, m1, (at_dats (at0.step s1) rx).j0, (Post.from_ s1 p).j0⟩
    · rw [if_neg hn] at p
      exact False.elim p
end
end
end DM

/-! The rules, one for a construct: a piece of Python and the function on data that it is. -/
namespace DM
open PySem PySem.Spec PyProof.Rows L2

section
 variable {X : Cx} {cn : Cn} {E : XKS}
abbrev DE (X : Cx) (cn : Cn) (E : XKS) (e : Expr) (f : Fe) : Prop := PE X e (tD (gx X.K cn) E f)
abbrev DT (X : Cx) (cn : Cn) (E : XKS) (e : Expr) (f : Ft) : Prop := PT X e (tDT (gx X.K cn) E f)
abbrev DW (X : Cx) (cn : Cn) (E : XKS) (e : Expr) (f : Ft) : Prop := PW X e (tDT (gx X.K cn) E f)
abbrev DA (X : Cx) (cn : Cn) (E : XKS) (e : List Expr) (f : Fa) : Prop := PA X e (tDA (gx X.K cn) E f)
abbrev DI (X : Cx) (cn : Cn) (E : XKS) (tg e : Expr) (f : Fi) : Prop := PI X tg e (tDI (gx X.K cn) E f)
abbrev DS (X : Cx) (cn : Cn) (E : XKS) (s : Stmt) (g : Fs) : Prop := PS X s (tS (gx X.K cn) E g)
abbrev DSs (X : Cx) (cn : Cn) (E : XKS) (s : List Stmt) (g : Fs) : Prop := PSs X s (tS (gx X.K cn) E g)

theorem lift_var {G : Gx} {σ : L2.St} {H : Hp} {Q : VK} {i : Nat} (h : tD G E (fVar i) σ H Q) : tVar i σ H Q := by
  obtain ⟨π, δ, m, a, p⟩ := h
  unfold fVar at p
  cases hs : δ[i]? with
  | none => rw [hs] at p; exact False.elim p
  | some s =>
    rw [hs] at p
    obtain ⟨v, hv, ok⟩ := a.env.sl i s hs
    cases s with
    | dat d =>
      obtain ⟨x, rfl, r⟩ := ok
      exact ⟨x, hv, p _ x H a.go r⟩
    | _ => exact False.elim p
theorem lift_c {G : Gx} {σ : L2.St} {H : Hp} {Q : VK} {d : D} {v : V} (hr : ∀ π H, Rep (G.at π) H d v) (h : tD G E (fC d) σ H Q) : tC v σ H Q := by
  obtain ⟨π, δ, m, a, p⟩ := h
  exact p _ v H a.go (hr _ _)

/-! ### names, constants -/
theorem de_var (i : Nat) {x : Str} {pos : Pos} (hN : X.N[i]? = some x := by rfl) (hv : Vis X.env.scope x := by first | exact Or.inl rfl | exact Or.inr (Or.inl rfl) | exact Or.inr (Or.inr rfl)) (hd : (x == ("__debug__" : Str)) = false := by decide)
    (hcd : (x == ("__classdict__" : Str)) = false := by decide) : DE X cn E (.Name x pos) (fVar i) := PE.imp (pe_var hN hv hd hcd) fun _ _ _ => lift_var
theorem de_int {i : Int} {j pos} : DE X cn E (.Constant (.int i) j pos) (fC (.int i)) := PE.imp pe_int fun _ _ _ => lift_c fun _ _ => rfl
theorem de_bl {b : Bool} {j pos} : DE X cn E (.Constant (.bool b) j pos) (fC (.bl b)) := PE.imp pe_bl fun _ _ _ => lift_c fun _ _ => rfl
theorem de_non {j pos} : DE X cn E (.Constant .none j pos) (fC .non) := PE.imp pe_non fun _ _ _ => lift_c fun _ _ => rfl
theorem de_str {x : Str} {j pos} (hl : x.length ≤ sizeLine := by decide +kernel) : DE X cn E (.Constant (.str x) j pos) (fC (.str x)) := PE.imp pe_str fun _ _ _ => lift_c fun _ _ => ⟨rfl, hl⟩
/-- a module's constant -/
theorem de_glob {x : Str} {v : V} {u : Value} {d : D} {pos : Pos} (hg : Gl X x) (hm : X.mg x = some u) (r : RelV v u) (hr : ∀ π H, Rep (Gx.at (gx X.K cn) π) H d v) (hd : (x == ("__debug__" : Str)) = false := by decide) : DE X cn E (.Name x pos) (fC d) :=
  PE.imp (pe_glob hg hm r hd) fun _ _ _ => lift_c hr

/-! ### operators -/
section
variable {a b c : Expr} {f g h : Fe} {pos : Pos}
theorem de_add (ha : DE X cn E a f) (hb : DE X cn E b g) : DE X cn E (.BinOp a .Add b pos) (f2 oAdd f g) := PE.imp (pe_op (op_add.or (op_add_str.or (op_cat.or op_catA))) ha hb) fun _ _ _ => lift2 rd_add
theorem de_sub (ha : DE X cn E a f) (hb : DE X cn E b g) : DE X cn E (.BinOp a .Sub b pos) (f2 oSub f g) := PE.imp (pe_op op_sub ha hb) fun _ _ _ => lift2 rd_sub
theorem de_mul (ha : DE X cn E a f) (hb : DE X cn E b g) : DE X cn E (.BinOp a .Mult b pos) (f2 oMul f g) := PE.imp (pe_op (op_mul.or op_rep) ha hb) fun _ _ _ => lift2 rd_mul
theorem de_mod (ha : DE X cn E a f) (hb : DE X cn E b g) : DE X cn E (.BinOp a .Mod b pos) (f2 oMod f g) := PE.imp (pe_op op_mod ha hb) fun _ _ _ => lift2 rd_mod
theorem de_fdiv (ha : DE X cn E a f) (hb : DE X cn E b g) : DE X cn E (.BinOp a .FloorDiv b pos) (f2 oFdiv f g) := PE.imp (pe_op op_fdiv ha hb) fun _ _ _ => lift2 rd_fdiv
theorem de_pow (ha : DE X cn E a f) (hb : DE X cn E b g) : DE X cn E (.BinOp a .Pow b pos) (f2 oPow f g) := PE.imp (pe_op op_pow ha hb) fun _ _ _ => lift2 rd_pow
theorem de_neg (ha : DE X cn E a f) : DE X cn E (.UnaryOp .USub a pos) (f1 oNeg f) := PE.imp (pe_un un_neg ha) fun _ _ _ => lift1 rd_neg
theorem de_not (ha : DE X cn E a f) : DE X cn E (.UnaryOp .Not a pos) (fNotV f) := PE.imp (pe_not ha) fun _ _ _ => lift_notV
theorem de_and {rest : List Expr} (ha : DE X cn E a f) (hb : DE X cn E (.BoolOp .And (b :: rest) pos) g) : DE X cn E (.BoolOp .And (a :: b :: rest) pos) (fAndV f g) := PE.imp (pe_and ha hb) fun _ _ _ => lift_andV
theorem de_or {rest : List Expr} (ha : DE X cn E a f) (hb : DE X cn E (.BoolOp .Or (b :: rest) pos) g) : DE X cn E (.BoolOp .Or (a :: b :: rest) pos) (fOrV f g) := PE.imp (pe_or ha hb) fun _ _ _ => lift_orV
theorem de_one {op} (ha : DE X cn E a f) : DE X cn E (.BoolOp op [a] pos) f := pe_one ha
theorem de_if {t : Ft} (hc : DT X cn E c t) (ha : DE X cn E a f) (hb : DE X cn E b g) : DE X cn E (.IfExp c a b pos) (fIf t f g) := PE.imp (pe_ifExp hc ha hb) fun _ _ _ => lift_if
/-- comparisons: by their rule on values -/
structure Cm (X : Cx) (cn : Cn) (op : CmpOp) (o : D → D → Option D) : Prop where
  ex : ∃ r, OpR X (compareOp op) r ∧ RD2 (gx X.K cn) r o
theorem cm_lt : Cm X cn .Lt oLt := ⟨⟨_, op_lt.or op_lt_str, rd_lt⟩⟩
theorem cm_le : Cm X cn .LtE oLe := ⟨⟨_, op_le, rd_le⟩⟩
theorem cm_gt : Cm X cn .Gt oGt := ⟨⟨_, op_gt, rd_gt⟩⟩
theorem cm_ge : Cm X cn .GtE oGe := ⟨⟨_, op_ge, rd_ge⟩⟩
theorem cm_eq {k : Nat} (hr : Room k X.A) : Cm X cn .Eq oEq := ⟨⟨_, op_eqD hr.units, rd_eq⟩⟩
theorem cm_ne {k : Nat} (hr : Room k X.A) : Cm X cn .NotEq oNe := ⟨⟨_, op_neD hr.units, rd_ne⟩⟩
theorem de_cmp {op : CmpOp} {o : D → D → Option D} (k : Cm X cn op o) (ha : DE X cn E a f) (hb : DE X cn E b g) (hm : behindInMarks op b = false := by first | exact nomark _ | rfl) : DE X cn E (.Compare a [op] [b] pos) (f2 o f g) := by
  obtain ⟨r, h1, h2⟩ := k.ex
  exact PE.imp (pe_cmpR h1 ha hb hm) fun _ _ _ => lift2 h2
theorem dt_cmp {op : CmpOp} {o : D → D → Option D} (k : Cm X cn op o) (ha : DE X cn E a f) (hb : DE X cn E b g) (hm : behindInMarks op b = false := by first | exact nomark _ | rfl) : DT X cn E (.Compare a [op] [b] pos) (fB (f2 o f g)) := by
  obtain ⟨r, h1, h2⟩ := k.ex
  refine PT.imp (pt_cmpR h1 ha hb hm) fun σ H Q h => ?_
  exact (show tTest (tOp r _ _) σ H Q from (lift2 h2 (lift_b h)))
theorem de_chain {op op' : CmpOp} {o o' : D → D → Option D} (k : Cm X cn op o) (k' : Cm X cn op' o') (ha : DE X cn E a f) (hb : DE X cn E b g) (hc : DE X cn E c h)
    (hm : behindInMarks op' c = false := by first | exact nomark _ | rfl) : DE X cn E (.Compare a [op, op'] [b, c] pos) (fChain o o' f g h) := by
  obtain ⟨r, h1, h2⟩ := k.ex
  obtain ⟨r', h1', h2'⟩ := k'.ex
  exact PE.imp (pe_chain h1 h1' ha hb hc hm) fun _ _ _ => lift_chain h2 h2'
theorem dt_chain {op op' : CmpOp} {o o' : D → D → Option D} (k : Cm X cn op o) (k' : Cm X cn op' o') (ha : DE X cn E a f) (hb : DE X cn E b g) (hc : DE X cn E c h)
    (hm : behindInMarks op' c = false := by first | exact nomark _ | rfl) : DT X cn E (.Compare a [op, op'] [b, c] pos) (fB (fChain o o' f g h)) := by
  obtain ⟨r, h1, h2⟩ := k.ex
  obtain ⟨r', h1', h2'⟩ := k'.ex
  refine PT.imp (pt_chain h1 h1' ha hb hc hm) fun σ H Q h => ?_
  exact lift_chain h2 h2' (lift_b h)
theorem rd_isN {G : Gx} : RD2 G (fun x y H Q => y = .non ∧ Q (.bl (decide (x = .non))) H) (fun x y => match y with | .non => oIsN x | _ => none) := by
  intro π hd H x y d v u Q hn rx ry ho k
  cases y <;> simp only at ho <;> (try contradiction)
  refine ⟨ry, k _ H (Same.refl H) ?_⟩
  cases x with
  | non =>
    obtain rfl : v = .non := rx
    cases ho; rfl
  | bl b =>
    obtain rfl : v = .bl b := rx
    cases ho; rfl
  | int i =>
    obtain rfl : v = .int i := rx
    cases ho; rfl
  | str z =>
    obtain ⟨rfl, _⟩ := rx
    cases ho; rfl
  | lst ds =>
    obtain ⟨p, xs, rfl, _⟩ := rx
    cases ho; rfl
  | tup ds =>
    obtain ⟨p, xs, rfl, _⟩ := rx
    cases ho; rfl
  | ins c ns ds =>
    obtain ⟨p, dx, xs, rfl, _⟩ := rx
    cases ho; rfl
  | dK ks ds =>
    obtain ⟨p, xs, rfl, _⟩ := rx
    cases ho; rfl
  | dT ks ds =>
    obtain ⟨p, xs, rfl, _⟩ := rx
    cases ho; rfl
  | ref n =>
    obtain ⟨p, rfl, _⟩ := rx
    cases ho; rfl
  | lam n =>
    obtain ⟨p, rfl, _⟩ := rx
    cases ho; rfl
  | tbl q => exact False.elim rx
theorem rd_notN {G : Gx} : RD2 G (fun x y H Q => y = .non ∧ Q (.bl (!decide (x = .non))) H) (fun x y => match y with | .non => oNotN x | _ => none) := by
  intro π hd H x y d v u Q hn rx ry ho k
  cases y <;> simp only at ho <;> (try contradiction)
  refine ⟨ry, k _ H (Same.refl H) ?_⟩
  cases x with
  | non =>
    obtain rfl : v = .non := rx
    cases ho; rfl
  | bl b =>
    obtain rfl : v = .bl b := rx
    cases ho; rfl
  | int i =>
    obtain rfl : v = .int i := rx
    cases ho; rfl
  | str z =>
    obtain ⟨rfl, _⟩ := rx
    cases ho; rfl
  | lst ds =>
    obtain ⟨p, xs, rfl, _⟩ := rx
    cases ho; rfl
  | tup ds =>
    obtain ⟨p, xs, rfl, _⟩ := rx
    cases ho; rfl
  | ins c ns ds =>
    obtain ⟨p, dx, xs, rfl, _⟩ := rx
    cases ho; rfl
  | dK ks ds =>
    obtain ⟨p, xs, rfl, _⟩ := rx
    cases ho; rfl
  | dT ks ds =>
    obtain ⟨p, xs, rfl, _⟩ := rx
    cases ho; rfl
  | ref n =>
    obtain ⟨p, rfl, _⟩ := rx
    cases ho; rfl
  | lam n =>
    obtain ⟨p, rfl, _⟩ := rx
    cases ho; rfl
  | tbl q => exact False.elim rx
def oIs2 : D → D → Option D := fun x y => match y with | .non => oIsN x | _ => none
def oNotIs2 : D → D → Option D := fun x y => match y with | .non => oNotN x | _ => none
theorem cm_is : Cm X cn .Is oIs2 := ⟨⟨_, op_isN, rd_isN⟩⟩
theorem cm_isnot : Cm X cn .IsNot oNotIs2 := ⟨⟨_, op_notN, rd_notN⟩⟩
end

/-! ### tests -/
section
variable {a b : Expr} {f : Fe} {t u : Ft} {pos : Pos}
/-- a value that is a bool -/
theorem dt_val (ha : DE X cn E a f) (he : ∀ whole, isTrue a X.env whole = (do let v ← whole; standAt a.pos; holding [v] (truthy v)) := by intro _; rfl) : DT X cn E a (fB f) := PT.imp (pt_val ha he) fun _ _ _ h => lift_b h
theorem dt_tru (ha : DE X cn E a f) (he : ∀ whole, isTrue a X.env whole = (do let v ← whole; standAt a.pos; holding [v] (truthy v)) := by intro _; rfl) : DT X cn E a (fTr f) := PT.imp (pt_truth ha he) fun _ _ _ h => lift_tr h
theorem dt_not (ha : DT X cn E a t) : DT X cn E (.UnaryOp .Not a pos) (fNot t) := PT.imp (pt_not ha) fun _ _ _ => lift_not
theorem dw_and {rest : List Expr} (ha : DT X cn E a t) (hb : DW X cn E (.BoolOp .And (b :: rest) pos) u) : DW X cn E (.BoolOp .And (a :: b :: rest) pos) (fAnd t u) := PW.imp (pw_and ha hb) fun _ _ _ => lift_and
theorem dw_or {rest : List Expr} (ha : DT X cn E a t) (hb : DW X cn E (.BoolOp .Or (b :: rest) pos) u) : DW X cn E (.BoolOp .Or (a :: b :: rest) pos) (fOr t u) := PW.imp (pw_or ha hb) fun _ _ _ => lift_or
theorem dw_and1 (ha : DT X cn E a t) : DW X cn E (.BoolOp .And [a] pos) t := pw_and1 ha
theorem dw_or1 (ha : DT X cn E a t) : DW X cn E (.BoolOp .Or [a] pos) t := pw_or1 ha
theorem dt_w (h : DW X cn E a t) : DT X cn E a t := PW.pt h
end

/-! ### displays, arguments -/
section
variable {e : Expr} {es : List Expr} {f : Fe} {g : Fa} {pos : Pos}
theorem da_nil : DA X cn E [] (fNil : Fa) := PA.imp pa_nil fun _ _ _ => lift_nil
theorem da_cons (h1 : DE X cn E e f) (h2 : DA X cn E es g) (hs : starEach (e :: es) X.env = (false, eval e X.env) :: starEach es X.env := by rfl) : DA X cn E (e :: es) (fCons f g) := PA.imp (pa_cons h1 h2 hs) fun _ _ _ => lift_cons
theorem de_tup {x1} (h : DA X cn E es g) : DE X cn E (.Tuple es x1 pos) (fTup g) := PE.imp (pe_tup h) fun _ _ _ => lift_tup
theorem de_lst (h : DA X cn E es g) : DE X cn E (.List es pos) (fLst g) := PE.imp (pe_lst h) fun _ _ _ => lift_lst
end

/-! ### items -/
theorem atI_all {G : Gx} {H : Hp} {ds : List D} {xs : List V} {i : Int} {d : D} (r : RepAll G H ds xs) (h : atI ds i = some d) : ∃ v, atI xs i = some v ∧ Rep G H d v := by
  unfold atI at h ⊢
  rw [RepAll.length r]
  cases q : ixN ds.length i with
  | none => rw [q] at h; cases h
  | some j =>
    rw [q] at h
    exact RepAll.getD r h
theorem rd_ix {G : Gx} : RD2 G (rIx G.K) oIx := by
  intro π hd H x y d v u Q hn rx ry ho k
  cases x <;> cases y <;> simp only [oIx] at ho <;> (try contradiction)
  · rename_i z i
    obtain ⟨rfl, hz⟩ := rx
    obtain rfl : u = .int i := ry
    cases q : atI z.cps.toList i with
    | none => rw [q] at ho; cases ho
    | some c =>
      rw [q] at ho
      cases ho
      exact .inr (.inr ⟨z, i, c, rfl, rfl, hz, q, k _ H (Same.refl H) ⟨rfl, by show 1 ≤ sizeLine; decide⟩⟩)
  · rename_i ds i
    obtain ⟨p, xs, rfl, h1, h2⟩ := rx
    obtain rfl : u = .int i := ry
    obtain ⟨v, e1, e2⟩ := atI_all h2 ho
    exact .inl ⟨p, xs, i, v, rfl, rfl, .inl (.inl h1), e1, k _ H (Same.refl H) e2⟩
  · rename_i ds i
    obtain ⟨p, xs, rfl, h1, h2⟩ := rx
    obtain rfl : u = .int i := ry
    obtain ⟨v, e1, e2⟩ := atI_all h2 ho
    exact .inr (.inl ⟨p, xs, i, v, rfl, rfl, Same.sqT hid_self h1, e1, k _ H (Same.refl H) e2⟩)
theorem de_ix {a b : Expr} {f g : Fe} {pos : Pos} (ha : DE X cn E a f) (hb : DE X cn E b g) (hs : PlainIx b := by exact fun _ _ => rfl) : DE X cn E (.Subscript a b pos) (f2 oIx f g) := PE.imp (pe_ix ix_seq ha hb hs) fun _ _ _ => lift2 rd_ix

/-! ### calls of built-ins -/
structure Bf (X : Cx) (cn : Cn) (f : Value) (o : List D → Option D) : Prop where
  ex : ∃ r, CallR X f r ∧ RDA (gx X.K cn) r o
theorem de_bi {x : Str} {p pos : Pos} {e : Expr} {es : List Expr} {id : String} {o : List D → Option D} {g : Fa} (k : Bf X cn (.builtin id) o) (hg : Gl X x) (hm : X.mg x = none) (hv : bootBuiltins x = some (.builtin id)) (ha : DA X cn E (e :: es) g)
    (hn : x ≠ "__name__" := by decide) (hdb : (x == ("__debug__" : Str)) = false := by decide) (he : starEach (e :: es) X.env = (false, eval e X.env) :: starEach es X.env := by rfl) (hpl : (backTo pos (starEach es X.env)).any (·.1) = false := by rfl) :
    DE X cn E (.Call (.Name x p) (e :: es) [] pos) (fCB o g) := by
  obtain ⟨r, h1, h2⟩ := k.ex
  exact PE.imp (pe_callB h1 hg hm hv ha hn hdb he hpl) fun _ _ _ => liftA h2
theorem de_ty {x : Str} {p pos : Pos} {e : Expr} {es : List Expr} {T : String} {o : List D → Option D} {g : Fa} (k : Bf X cn (.type T) o) (hg : Gl X x) (hm : X.mg x = none) (hv : bootBuiltins x = some (.type T)) (ha : DA X cn E (e :: es) g)
    (hn : x ≠ "__name__" := by decide) (hdb : (x == ("__debug__" : Str)) = false := by decide) (he : starEach (e :: es) X.env = (false, eval e X.env) :: starEach es X.env := by rfl) (hpl : (backTo pos (starEach es X.env)).any (·.1) = false := by rfl) :
    DE X cn E (.Call (.Name x p) (e :: es) [] pos) (fCB o g) := by
  obtain ⟨r, h1, h2⟩ := k.ex
  exact PE.imp (pe_callTy h1 hg hm hv ha hn hdb he hpl) fun _ _ _ => liftA h2
theorem repT1 {G : Gx} {H Hh : Hp} {x : D} {vs : List V} (r : RepTs G H Hh [x] vs) : ∃ v, vs = [v] ∧ RepT G H Hh x v := by
  obtain ⟨v, r', rfl, h1, h2⟩ := r
  obtain rfl : r' = [] := h2
  exact ⟨v, rfl, h1⟩
theorem repAll1 {G : Gx} {H : Hp} {x : D} {vs : List V} (r : RepAll G H [x] vs) : ∃ v, vs = [v] ∧ Rep G H x v := by
  obtain ⟨v, r', rfl, h1, h2⟩ := r
  obtain rfl : r' = [] := h2
  exact ⟨v, rfl, h1⟩
theorem CallR.or {f : Value} {r r' : List V → Hp → VK → Prop} (h : CallR X f r) (h' : CallR X f r') : CallR X f (fun xs H Q => r xs H Q ∨ r' xs H Q) := fun pins s σ H vs us Q I rv q => by
  rcases q with q | q
  · exact h pins s σ H vs us Q I rv q
  · exact h' pins s σ H vs us Q I rv q
theorem bf_len : Bf X cn (.builtin "len") oLen := by
  refine ⟨_, CallR.or call_len_seq call_len_str, ?_⟩
  intro π hd H xs d vs Q hn rx ho k
  match xs with
  | [] => cases ho
  | [x] =>
    obtain ⟨v, rfl, r⟩ := repT1 rx
    cases x <;> simp only [oLen] at ho <;> (try contradiction)
    · rename_i z
      obtain ⟨rfl, hz⟩ := r
      cases ho
      exact .inr ⟨z, rfl, hz, k _ H (Same.refl H) rfl⟩
    · rename_i ds
      obtain ⟨p, ys, rfl, h1, h2⟩ := r
      cases ho
      refine .inl ⟨p, ys, rfl, .inl (.inl (.inl h1)), k _ H (Same.refl H) ?_⟩
      rw [RepAll.length h2]; rfl
    · rename_i ds
      obtain ⟨p, ys, rfl, h1, h2⟩ := r
      cases ho
      refine .inl ⟨p, ys, rfl, .inr (Same.sqT hid_self h1), k _ H (Same.refl H) ?_⟩
      rw [RepAll.length h2]; rfl
  | x :: y :: r => cases x <;> simp only [oLen] at ho <;> contradiction
theorem bf_int : Bf X cn (.type "int") oInt := by
  refine ⟨_, call_int1, ?_⟩
  intro π hd H xs d vs Q hn rx ho k
  match xs with
  | [] => cases ho
  | [x] =>
    obtain ⟨v, rfl, r⟩ := repT1 rx
    cases x <;> simp only [oInt] at ho <;> (try contradiction)
    · rename_i b
      obtain rfl : v = .bl b := r
      cases ho
      exact .inr ⟨b, rfl, k _ H (Same.refl H) rfl⟩
    · rename_i i
      obtain rfl : v = .int i := r
      cases ho
      exact .inl ⟨i, rfl, k _ H (Same.refl H) rfl⟩
  | x :: y :: r => cases x <;> simp only [oInt] at ho <;> contradiction
theorem bf_abs : Bf X cn (.builtin "abs") oAbs := by
  refine ⟨_, call_abs, ?_⟩
  intro π hd H xs d vs Q hn rx ho k
  match xs with
  | [] => cases ho
  | [x] =>
    obtain ⟨v, rfl, r⟩ := repT1 rx
    cases x <;> simp only [oAbs] at ho <;> (try contradiction)
    rename_i i
    obtain rfl : v = .int i := r
    cases ho
    exact ⟨i, rfl, k _ H (Same.refl H) rfl⟩
  | x :: y :: r => cases x <;> simp only [oAbs] at ho <;> contradiction
theorem bf_list : Bf X cn (.type "list") oList := by
  refine ⟨_, call_list_of, ?_⟩
  intro π hd H xs d vs Q hn rx ho k
  match xs with
  | [] => cases ho
  | [x] =>
    obtain ⟨v, rfl, r⟩ := repT1 rx
    cases x <;> simp only [oList] at ho <;> (try contradiction)
    · rename_i ds
      obtain ⟨p, ys, rfl, h1, h2⟩ := r
      cases ho
      exact ⟨p, ys, rfl, .inl (.inl (.inl h1)), fun l hl => k _ _ (same_new hl) (rep_lst hl (hn l hl) h2)⟩
    · rename_i ds
      obtain ⟨p, ys, rfl, h1, h2⟩ := r
      cases ho
      exact ⟨p, ys, rfl, .inr (Same.sqT hid_self h1), fun l hl => k _ _ (same_new hl) (rep_lst hl (hn l hl) h2)⟩
  | x :: y :: r => cases x <;> simp only [oList] at ho <;> contradiction
theorem bf_tuple : Bf X cn (.type "tuple") oTuple := by
  refine ⟨_, call_tuple_of, ?_⟩
  intro π hd H xs d vs Q hn rx ho k
  match xs with
  | [] => cases ho
  | [x] =>
    obtain ⟨v, rfl, r⟩ := repT1 rx
    cases x <;> simp only [oTuple] at ho <;> (try contradiction)
    · rename_i ds
      obtain ⟨p, ys, rfl, h1, h2⟩ := r
      cases ho
      exact ⟨p, ys, rfl, .inl ⟨.inl (.inl h1), fun l hl => k _ _ (same_new hl) (rep_tup hl (hn l hl) h2)⟩⟩
    · rename_i ds
      obtain ⟨p, ys, rfl, h1, h2⟩ := r
      cases ho
      exact ⟨p, ys, rfl, .inr ⟨Same.sqT hid_self h1, k _ H (Same.refl H) ⟨p, ys, rfl, h1, h2⟩⟩⟩
  | x :: y :: r => cases x <;> simp only [oTuple] at ho <;> contradiction
theorem rep_bools {G : Gx} {H : Hp} (ds : List D) : ∀ {vs : List V} {bs : List Bool}, RepAll G H ds vs → boolsOf ds = some bs → vs = bs.map V.bl := by
  induction ds with
  | nil =>
    intro vs bs r h
    obtain rfl : vs = [] := r
    cases h; rfl
  | cons d ds ih =>
    intro vs bs r h
    obtain ⟨v, r, rfl, h2, h3⟩ := r
    cases d with
    | bl b =>
      obtain rfl : v = .bl b := h2
      simp only [boolsOf] at h
      cases q : boolsOf ds with
      | none => rw [q] at h; cases h
      | some cs =>
        rw [q] at h
        cases h
        rw [ih h3 q]; rfl
    | _ => cases h
theorem rep_ints {G : Gx} {H : Hp} (ds : List D) : ∀ {vs : List V} {bs : List Int}, RepAll G H ds vs → intsOf ds = some bs → vs = bs.map V.int := by
  induction ds with
  | nil =>
    intro vs bs r h
    obtain rfl : vs = [] := r
    cases h; rfl
  | cons d ds ih =>
    intro vs bs r h
    obtain ⟨v, r, rfl, h2, h3⟩ := r
    cases d with
    | int b =>
      obtain rfl : v = .int b := h2
      simp only [intsOf] at h
      cases q : intsOf ds with
      | none => rw [q] at h; cases h
      | some cs =>
        rw [q] at h
        cases h
        rw [ih h3 q]; rfl
    | _ => cases h
theorem bf_all (hc : X.calm = true) : Bf X cn (.builtin "all") oAll := by
  refine ⟨_, cr_all hc, ?_⟩
  intro π hd H xs d vs Q hn rx ho k
  match xs with
  | [] => cases ho
  | [x] =>
    obtain ⟨v, rfl, r⟩ := repT1 rx
    cases x <;> simp only [oAll] at ho <;> (try contradiction)
    rename_i ds
    obtain ⟨p, ys, rfl, h1, h2⟩ := r
    cases q : boolsOf ds with
    | none => rw [q] at ho; cases ho
    | some bs =>
      rw [q] at ho
      cases ho
      have e := rep_bools _ h2 q
      subst e
      exact ⟨p, bs, rfl, .inl (.inl h1), k _ H (Same.refl H) rfl⟩
  | x :: y :: r => cases x <;> simp only [oAll] at ho <;> contradiction
theorem bf_any (hc : X.calm = true) : Bf X cn (.builtin "any") oAny := by
  refine ⟨_, cr_any hc, ?_⟩
  intro π hd H xs d vs Q hn rx ho k
  match xs with
  | [] => cases ho
  | [x] =>
    obtain ⟨v, rfl, r⟩ := repT1 rx
    cases x <;> simp only [oAny] at ho <;> (try contradiction)
    rename_i ds
    obtain ⟨p, ys, rfl, h1, h2⟩ := r
    cases q : boolsOf ds with
    | none => rw [q] at ho; cases ho
    | some bs =>
      rw [q] at ho
      cases ho
      have e := rep_bools _ h2 q
      subst e
      exact ⟨p, bs, rfl, .inl (.inl h1), k _ H (Same.refl H) rfl⟩
  | x :: y :: r => cases x <;> simp only [oAny] at ho <;> contradiction

/-! ### statements -/
section
variable {e c : Expr} {st : Stmt} {rest body orelse : List Stmt} {f : Fe} {g h : Fs} {t : Ft} {pos : Pos}
theorem ds_nil : DSs X cn E [] (sNx : Fs) := PSs.imp pss_nil fun _ _ _ => liftS_nx
theorem ds_cons (h1 : DS X cn E st g) (h2 : DSs X cn E rest h) : DSs X cn E (st :: rest) (sSeq g h) := PSs.imp (pss_cons h1 h2) fun _ _ _ => liftS_seq
theorem ds_last (h1 : DS X cn E st g) : DSs X cn E [st] g := pss_one h1
theorem ds_ret (he : DE X cn E e f) : DS X cn E (.Return (some e) pos) (sRet f) := PS.imp (ps_ret he) fun _ _ _ => liftS_ret
theorem ds_retN : DS X cn E (.Return none pos) (sRetN : Fs) := PS.imp ps_retN fun _ _ _ => liftS_retN
theorem ds_pass : DS X cn E (.Pass pos) (sNx : Fs) := PS.imp ps_pass fun _ _ _ => liftS_nx
theorem ds_break : DS X cn E (.Break pos) (sBk : Fs) := PS.imp ps_break fun _ _ _ => liftS_bk
theorem ds_continue : DS X cn E (.Continue pos) (sCt : Fs) := PS.imp ps_continue fun _ _ _ => liftS_ct
theorem ds_expr (he : DE X cn E e f) (hs : swapsWith e none pos.line X.env = pure false := by rfl) : DS X cn E (.Expr e pos) (sDrop f) := PS.imp (ps_expr he hs) fun _ _ _ => liftS_drop
theorem ds_if (hc : DT X cn E c t) (ha : DSs X cn E body g) (hb : DSs X cn E orelse h) : DS X cn E (.If c body orelse pos) (sIf t g h) := PS.imp (ps_if hc ha hb) fun _ _ _ => liftS_if
theorem ds_set (i : Nat) {x : Str} {pos' : Pos} (he : DE X cn E e f) (hN : X.N.Nodup) (hi : X.N[i]? = some x := by rfl) (hx : Loc X.env.scope x := by first | exact Or.inl rfl | exact Or.inr rfl) (hs : swapsWith e (some (.Name x pos')) pos.line X.env = pure false := by rfl)
    (hf : X.fn x = true ∨ X.env.scope.names.lookup x = some .local := by first | exact .inl rfl | exact .inr rfl) : DS X cn E (.Assign [.Name x pos'] e pos) (sSet i f) := PS.imp (ps_set hN hi hx he hs hf) fun _ _ _ => liftS_set
theorem ds_for {tg iter : Expr} {fi : Fi} {gt : TG} {tt : Ftg} {ts : List Nat} (hi : DI X cn E tg iter fi) (hg : PG X tg gt) (ht : TgOk (gx X.K cn) gt tt ts) (hb : DSs X cn E body g) (hp : PassesOwn (model X.prog X.w) X.A X.env X.xe) (hc : X.calm = true := by rfl)
    (hs : ∀ x, foldedSetIterable iter X.env x = pure x := by intro _; rfl) : DS X cn E (.For tg iter body [] pos) (sFor fi tt g) := PS.imp (ps_for hp hc hi hg hb hs) fun _ _ _ => liftS_for ht
theorem ds_while (n : Sls → Mir → Nat) (hc : DT X cn E c t) (hb : DSs X cn E body g) (hp : PassesOwn (model X.prog X.w) X.A X.env X.xe) : DS X cn E (.While c body [] pos) (sWhile n t g) := PS.imp (ps_while hp hc hb) fun _ _ _ => liftS_while
end
end
end DM

/-! Further built-ins: min with a default, list of a text, a written dict's items. -/
namespace DM
open PySem PySem.Spec PyProof.Rows L2

/-! ### the least with a default: KE.DatumOrd's theorem, for ints -/
theorem vals_readsAll {h : Heap} : ∀ {ns : List Int} {us : List Value}, Vals (ns.map V.int) us → ∃ as, ReadsAll h us (ns.map (PySem.W.Datum.toD (α := Int))) as
  | [], _, .nil => ⟨[], .nil⟩
  | n :: ns, _, .cons r rs => by
    obtain ⟨tk, rfl⟩ := r
    obtain ⟨bs, more⟩ := vals_readsAll (h := h) rs
    exact ⟨[] ++ bs, .cons (.int n tk) more⟩
theorem least_spec (n : Int) (ns : List Int) : PySem.W.minOf n ns ∈ n :: ns ∧ ∀ a ∈ n :: ns, PySem.W.minOf n ns ≤ a := by
  unfold PySem.W.minOf
  induction ns generalizing n with
  | nil => exact ⟨List.mem_cons_self .., fun a ha => by rw [List.mem_singleton.mp ha]; exact Int.le_refl _⟩
  | cons y ys ih =>
    simp only [List.foldl_cons]
    by_cases lt : PySem.W.DatumOrd.lt y n = true
    · have lt' : y < n := of_decide_eq_true lt
      rw [if_pos lt]
      obtain ⟨m1, m2⟩ := ih y
      refine ⟨List.mem_cons_of_mem _ m1, fun a ha => ?_⟩
      rcases List.mem_cons.mp ha with rfl | ha
      · exact Int.le_trans (m2 y (List.mem_cons_self ..)) (Int.le_of_lt lt')
      · exact m2 a ha
    · have le : n ≤ y := Int.not_lt.mp fun z => lt (decide_eq_true z)
      rw [if_neg lt]
      obtain ⟨m1, m2⟩ := ih n
      refine ⟨?_, fun a ha => ?_⟩
      · rcases List.mem_cons.mp m1 with q | q
        · rw [q]; exact List.mem_cons_self ..
        · exact List.mem_cons_of_mem _ (List.mem_cons_of_mem _ q)
      · rcases List.mem_cons.mp ha with rfl | ha
        · exact m2 a (List.mem_cons_self ..)
        · rcases List.mem_cons.mp ha with rfl | ha
          · exact Int.le_trans (m2 n (List.mem_cons_self ..)) le
          · exact m2 a (List.mem_cons_of_mem _ ha)

/-- the least of ints -/
def minI : List Int → Int
  | [] => 0
  | [x] => x
  | x :: y :: r => min x (minI (y :: r))
theorem minI_le : ∀ {ns : List Int} {a : Int}, a ∈ ns → minI ns ≤ a
  | [], a, h => by cases h
  | [x], a, h => by
    rw [List.mem_singleton.mp h]
    exact Int.le_refl _
  | x :: y :: r, a, h => by
    simp only [minI]
    rcases List.mem_cons.mp h with h | h
    · subst h; exact Int.min_le_left _ _
    · exact Int.le_trans (Int.min_le_right _ _) (minI_le h)
theorem minI_mem : ∀ {ns : List Int}, ns ≠ [] → minI ns ∈ ns
  | [], h => absurd rfl h
  | [x], _ => by simp [minI]
  | x :: y :: r, _ => by
    simp only [minI]
    have ih := minI_mem (ns := y :: r) (by simp)
    by_cases h : x ≤ minI (y :: r)
    · rw [Int.min_eq_left h]; simp
    · rw [Int.min_eq_right (by omega)]
      exact List.mem_cons_of_mem _ ih
theorem minI_eq {ns : List Int} {m : Int} (h1 : m ∈ ns) (h2 : ∀ a, a ∈ ns → m ≤ a) : m = minI ns := by
  have h3 := minI_le h1
  have h4 := h2 _ (minI_mem (fun e => by rw [e] at h1; cases h1))
  omega

section
 variable {X : Cx} {cn : Cn} {E : XKS}
/-- a call of a built-in with keywords, by values -/
structure Bk (X : Cx) (cn : Cn) (f : Value) (ks : List Str) (o : List D → List D → Option D) : Prop where
  ex : ∃ r, CallRK X f ks r ∧ ∀ (π : Wv) (hd : Addr → Bool) (H : Hp) (xs ys : List D) (d : D) (vs us : List V) (Q : VK), (∀ p, H p = none → hd p = false) →
    RepTs (Gx.at (gx X.K cn) π) H (hid hd H) xs vs → RepAll (Gx.at (gx X.K cn) π) (hid hd H) ys us → o xs ys = some d → (∀ w H2, Same H H2 → Rep (Gx.at (gx X.K cn) π) (hid hd H2) d w → Q w H2) → r vs us H Q
def fCK (o : List D → List D → Option D) (g k : Fa) : Fe := fun δ m => (g δ m).bind fun xs m1 => (k δ m1).bind fun ys m2 => ofO m2 ((views m2 xs).bind fun zs => o zs ys)
abbrev DK (X : Cx) (cn : Cn) (E : XKS) (kws : List Keyword) (f : Fa) : Prop := PK X kws (tDA (gx X.K cn) E f)
theorem PK.imp {kws : List Keyword} {t t' : TA} (h : PK X kws t) (k : ∀ σ H Q, t' σ H Q → t σ H Q) : PK X kws t' := ⟨fun pos pins s σ H Q I q => h.run pos pins s σ H Q I (k σ H Q q)⟩
theorem dk_nil : DK X cn E [] (fNil : Fa) := PK.imp pk_nil fun _ _ _ => lift_nil
theorem dk_cons {nm : Option Str} {kpos : Pos} {e : Expr} {kws : List Keyword} {f : Fe} {g : Fa} (ha : DE X cn E e f) (hr : DK X cn E kws g) : DK X cn E (⟨nm, e, kpos⟩ :: kws) (fCons f g) := PK.imp (pk_cons ha hr) fun _ _ _ => lift_cons
theorem lift_ck {r : List V → List V → Hp → VK → Prop} {o : List D → List D → Option D} {g k : Fa} {σ : L2.St} {H : Hp} {Q : VK}
    (hr : ∀ (π : Wv) (hd : Addr → Bool) (H : Hp) (xs ys : List D) (d : D) (vs us : List V) (Q : VK), (∀ p, H p = none → hd p = false) →
      RepTs (Gx.at (gx X.K cn) π) H (hid hd H) xs vs → RepAll (Gx.at (gx X.K cn) π) (hid hd H) ys us → o xs ys = some d → (∀ w H2, Same H H2 → Rep (Gx.at (gx X.K cn) π) (hid hd H2) d w → Q w H2) → r vs us H Q)
    (h : tD (gx X.K cn) E (fCK o g k) σ H Q) : tCKw r (tDA (gx X.K cn) E g) (tDA (gx X.K cn) E k) σ H Q := by
  obtain ⟨π, δ, m, at0, p⟩ := h
  refine ⟨π, δ, m, at0, ?_⟩
  unfold fCK at p
  cases hf : g δ m with
  | bad => rw [hf] at p; exact p
  | exc x m1 => rw [hf] at p; exact p
  | ok xs m1 =>
    rw [hf] at p
    intro π1 vs H1 s1 rx
    have a1 := at0.step s1
    refine ⟨π1, δ, m1, a1, ?_⟩
    replace p := Post.from_ s1 p
    simp only [Rs.bind] at p
    cases hg : k δ m1 with
    | bad => rw [hg] at p; exact p
    | exc x2 m2 => rw [hg] at p; exact p
    | ok ys m2 =>
      rw [hg] at p
      intro π2 us H2 s2 ry
      have a2 := a1.step s2
      simp only at p
      cases ho : (views m2 xs).bind fun zs => o zs ys with
      | none => rw [ho] at p; exact False.elim p
      | some d =>
        rw [ho] at p
        obtain ⟨zs, v1, ho⟩ := Option.bind_eq_some_iff.mp ho
        exact hr π2 _ H2 zs ys d vs us Q a2.new (views_rep s2.ok (s2.ex.repAll xs rx) v1) ry ho fun w H3 e rw_ => post_of s2 p e rw_
theorem de_bk {x : Str} {p pos : Pos} {e : Expr} {es : List Expr} {kws : List Keyword} {id : String} {ks : List Str} {o : List D → List D → Option D} {g k : Fa} (b : Bk X cn (.builtin id) ks o) (hg : Gl X x) (hm : X.mg x = none) (hv : bootBuiltins x = some (.builtin id))
    (ha : DA X cn E (e :: es) g) (hk : DK X cn E kws k) (hn : x ≠ "__name__" := by decide) (hdb : (x == ("__debug__" : Str)) = false := by decide) (he : backTo pos (starEach (e :: es) X.env) = (false, eval e X.env) :: backTo pos (starEach es X.env) := by rfl)
    (hpl : (backTo pos (starEach (e :: es) X.env)).any (·.1) = false := by rfl) (hall : (backToKw pos (keywordEach kws X.env)).all (·.1.isSome) = true := by rfl) (hnone : (backToKw pos (keywordEach kws X.env)).any (·.1.isNone) = false := by rfl)
    (hks : (backToKw pos (keywordEach kws X.env)).filterMap (·.1) = ks := by rfl) :
    DE X cn E (.Call (.Name x p) (e :: es) kws pos) (fCK o g k) := by
  obtain ⟨r, h1, h2⟩ := b.ex
  exact PE.imp (pe_callBK h1 hg hm hv ha hk hn hdb he hpl hall hnone hks) fun _ _ _ => lift_ck h2

def oMinD : List D → List D → Option D
  | [.lst ds], [d] => (intsOf ds).bind fun ns => if ns = [] then some d else some (.int (minI ns))
  | _, _ => none
theorem bk_minD {k : Nat} (hr : Room k X.A) : Bk X cn (.builtin "min") [Str.ofString "default"] oMinD := by
  refine ⟨fun vs us H Q => ∃ (a : Addr) (ns : List Int) (d : V), vs = [V.ref a] ∧ us = [d] ∧ SqL X.K H a (ns.map V.int) ∧ (ns = [] → Q d H) ∧ (ns ≠ [] → Q (.int (minI ns)) H), ?_, ?_⟩
  · intro pins s σ H xs zs us ws Q I r rz h
    obtain ⟨a, ns, d, rfl, rfl, hs, h0, h1⟩ := h
    obtain ⟨its, rv, hl, _⟩ := I.list hs
    obtain ⟨u, rfl, ru⟩ := vals1 rz
    rw [Vals.ref1 r]
    obtain ⟨as, reads⟩ := vals_readsAll (h := s.heap) rv
    refine PySem.W.min_list_datum_default (α := Int) (xs := ns) hr.hd hl.isList ⟨as, by simpa using reads⟩ (by have := hr.un; show _ + 1 + 0 < _; omega) (fun e h' tk kept => ⟨d, H, I.kept kept, ru, h0 e⟩) fun y ys i v h' tk e _ held kept => ?_
    obtain ⟨bs, rd⟩ := held
    obtain ⟨tk2, rfl, _⟩ := reads_int_inv rd
    obtain ⟨m1, m2⟩ := least_spec y ys
    refine ⟨.int _, H, I.kept kept, ⟨_, rfl⟩, ?_⟩
    rw [minI_eq (ns := ns) (by rw [e]; exact m1) (fun a ha => m2 a (e ▸ ha))]
    exact h1 (by rw [e]; exact List.cons_ne_nil _ _)
  · intro π hd H xs ys d vs us Q hn rx ry ho k
    match xs, ys with
    | [x], [y] =>
      obtain ⟨v, rfl, r⟩ := repT1 rx
      obtain ⟨u, rfl, r2⟩ := repAll1 ry
      cases x <;> simp only [oMinD] at ho <;> (try contradiction)
      rename_i ds
      obtain ⟨p, zs, rfl, h1, h2⟩ := r
      cases q : intsOf ds with
      | none => rw [q] at ho; cases ho
      | some ns =>
        rw [q] at ho
        simp only [Option.bind_some] at ho
        have e := rep_ints _ h2 q
        subst e
        refine ⟨p, ns, u, rfl, rfl, .inl (.inl h1), fun e => ?_, fun e => ?_⟩
        · rw [if_pos e] at ho
          cases ho
          exact k _ H (Same.refl H) r2
        · rw [if_neg e] at ho
          cases ho
          exact k _ H (Same.refl H) rfl
    | [], _ => cases ho
    | _ :: _ :: _, _ => simp [oMinD] at ho
    | [_], [] => simp [oMinD] at ho
    | [_], _ :: _ :: _ => simp [oMinD] at ho
def oMin : List D → Option D
  | [.lst ds] => (intsOf ds).bind fun ns => if ns = [] then none else some (.int (minI ns))
  | _ => none
theorem bf_min (hc : X.calm = true) : Bf X cn (.builtin "min") oMin := by
  refine ⟨_, cr_min hc, ?_⟩
  intro π hd H xs d vs Q hn rx ho k
  match xs with
  | [] => cases ho
  | [x] =>
    obtain ⟨v, rfl, r⟩ := repT1 rx
    cases x <;> simp only [oMin] at ho <;> (try contradiction)
    rename_i ds
    obtain ⟨p, ys, rfl, h1, h2⟩ := r
    cases q : intsOf ds with
    | none => rw [q] at ho; cases ho
    | some ns =>
      rw [q] at ho
      simp only [Option.bind_some] at ho
      have e := rep_ints _ h2 q
      subst e
      by_cases e : ns = []
      · rw [if_pos e] at ho; cases ho
      · rw [if_neg e] at ho
        cases ho
        refine ⟨p, ns, rfl, .inl (.inl h1), by cases ns with | nil => exact absurd rfl e | cons a b => simp, fun m q1 q2 => ?_⟩
        rw [minI_eq q1 q2]
        exact k _ H (Same.refl H) rfl
  | x :: y :: r => cases x <;> simp only [oMin] at ho <;> contradiction
/-- list of a text -/
def rListS : List V → Hp → VK → Prop := fun xs H Q => ∃ z, xs = [.str z] ∧ z.length ≤ sizeLine ∧ ∀ p, H p = none → Q (.ref p) (upd H p (.lst (z.cps.toList.map fun c => V.str ⟨#[c]⟩)))
theorem call_list_text (hc : X.calm = true) : CallR X (.type "list") rListS := by
  intro pins s σ H xs us Q I r h
  obtain ⟨z, rfl, hz, q⟩ := h
  obtain ⟨u, rfl, ru⟩ := vals1 r
  obtain ⟨t, rfl⟩ := ru
  refine PySem.call_list_str (I.ok.hd hc) z t (fun h' tk acc c k hS hacc => ?_) hz
  refine ⟨.ref s.heap.objs.size, _, I.laid k (Nat.le_refl _) (show ObjOk X.prog X.w _ _ _ (.lst (z.cps.toList.map fun c => V.str ⟨#[c]⟩)) from ⟨?_, acc.toList, c, ?_, ?_⟩), rfl, q _ (I.hok.fresh (Nat.le_refl _))⟩
  · rw [List.length_map]
    exact hz
  · have el : acc.toList.length = acc.size := by simp
    refine vals_of_at (by rw [List.length_map, el, hacc.1]; simp) fun j x w h1 h2 => ?_
    obtain ⟨cc, t2, e1, e2⟩ := hacc.2 j w (by rw [← Array.getElem?_toList]; exact h2)
    rw [List.getElem?_map, Array.getElem?_toList, e1] at h1
    cases h1
    exact ⟨t2, e2⟩
  · rw [Array.toArray_toList]
    exact hS
def oListS : List D → Option D
  | [.str z] => some (.lst (signsOf z))
  | xs => oList xs
theorem rep_signs {G : Gx} {H : Hp} (cs : List Nat) : RepAll G H (cs.map fun c => D.str ⟨#[c]⟩) (cs.map fun c => V.str ⟨#[c]⟩) := by
  induction cs with
  | nil => exact (rfl : ([] : List V) = [])
  | cons c cs ih => exact ⟨_, _, rfl, ⟨rfl, by show 1 ≤ sizeLine; decide⟩, ih⟩
theorem bf_listS (hc : X.calm = true) : Bf X cn (.type "list") oListS := by
  obtain ⟨r, h1, h2⟩ := (bf_list (X := X) (cn := cn)).ex
  refine ⟨_, CallR.or (call_list_text hc) h1, ?_⟩
  intro π hd H xs d vs Q hn rx ho k
  match xs with
  | [.str z] =>
    obtain ⟨v, rfl, r⟩ := repT1 rx
    obtain ⟨rfl, hz⟩ := r
    cases ho
    exact .inl ⟨z, rfl, hz, fun p hp => k _ _ (same_new hp) (rep_lst hp (hn p hp) (rep_signs _))⟩
  | [] => exact .inr (h2 π hd H _ d vs Q hn rx ho k)
  | [.non] => exact .inr (h2 π hd H _ d vs Q hn rx ho k)
  | [.bl _] => exact .inr (h2 π hd H _ d vs Q hn rx ho k)
  | [.int _] => exact .inr (h2 π hd H _ d vs Q hn rx ho k)
  | [.lst _] => exact .inr (h2 π hd H _ d vs Q hn rx ho k)
  | [.tup _] => exact .inr (h2 π hd H _ d vs Q hn rx ho k)
  | [.ref _] => exact .inr (h2 π hd H _ d vs Q hn rx ho k)
  | [.ins _ _ _] => exact .inr (h2 π hd H _ d vs Q hn rx ho k)
  | x :: y :: r => exact .inr (h2 π hd H _ d vs Q hn rx (by cases x <;> exact ho) k)
/-- an item of a written dict with text keys: its table -/
structure KTab (X : Cx) (cn : Cn) (a : Addr) (tb : List (Str × D)) : Prop where
  ok : ∀ z d, tb.lookup z = some d → ∃ v, KDct X.K X.w a z v ∧ ∀ π H, Rep (Gx.at (gx X.K cn) π) H d v
def fTab (tb : List (Str × D)) (f : Fe) : Fe := fun δ m => (f δ m).bind fun x m1 => match x with
  | .str z => ofO m1 (tb.lookup z)
  | _ => .bad
theorem de_tab {x : Str} {a : Addr} {p pos : Pos} {b : Expr} {f : Fe} {tb : List (Str × D)} (T : KTab X cn a tb) (hg : Gl X x) (hm : X.mg x = some (.ref a)) (hb : DE X cn E b f) (hs : PlainIx b := by exact fun _ _ => rfl) (hd : (x == ("__debug__" : Str)) = false := by decide) :
    DE X cn E (.Subscript (.Name x p) b pos) (fTab tb f) := by
  refine PE.imp (pe_ix ix_kdict (pe_glob (v := .ref a) hg hm rfl hd) hb hs) fun σ H Q h => ?_
  obtain ⟨π, δ, m, at0, p⟩ := h
  refine (show tD (gx X.K cn) E f σ H _ from ⟨π, δ, m, at0, ?_⟩)
  unfold fTab at p
  cases hf : f δ m with
  | bad => rw [hf] at p; exact p
  | exc x m1 => rw [hf] at p; exact p
  | ok x m1 =>
    rw [hf] at p
    intro π1 v H1 s1 rx
    cases x with
    | str z =>
      obtain ⟨rfl, hz⟩ := rx
      simp only [Rs.bind] at p
      cases ho : tb.lookup z with
      | none => rw [ho] at p; exact False.elim p
      | some d =>
        rw [ho] at p
        obtain ⟨u, k1, k2⟩ := T.ok z d ho
        exact ⟨a, z, u, rfl, rfl, k1, p _ u H1 s1 (k2 _ _)⟩
    | _ => exact False.elim p
end
end DM

/-! What is walked, calls of the text's own defs, the ends of a law. -/
namespace DM
open PySem PySem.Spec PyProof.Rows L2

section
 variable {X : Cx} {cn : Cn} {E : XKS}
/-! ### what is walked -/
def itemsOf : D → Option (List D)
  | .lst ds => some ds
  | .tup ds => some ds
  | .str z => some (signsOf z)
  | _ => none
def fSeq (f : Fe) : Fi := fun δ m => (f δ m).bind fun x m1 => match x with
  | .ref n => (match cell m1 n with
    | some (.lst ds) => .ok (ds, some (n, ds)) m1
    | _ => .bad)
  | x => match itemsOf x with
    | some ds => .ok (ds, none) m1
    | none => .bad
theorem wk_list {G : Gx} {π : Wv} {m : Mir} {H : Hp} {a : Addr} {xs : List V} {ds : List D} (h1 : hid (lv π m) H a = some (.lst xs)) (r : RepAll (G.at π) (hid (lv π m) H) ds xs) : Wk G π m H (Itl G.K a) ds none := by
  refine ⟨fun H => SqL G.K H a xs, YAt xs, by rw [← RepAll.length r]; exact walk_list, fun π2 m2 H2 k _ _ => ?_, fun i H2 x H3 π2 m2 hi p s k _ y => ?_⟩
  · exact .inl (.inl (hid_some.mp (k.same _ _ h1)).2)
  · obtain ⟨rfl, hx⟩ := y
    obtain ⟨d, e1, e2⟩ := RepAll.get r hx
    exact ⟨Same.refl _, d, e1, Rep.up p s d e2⟩
theorem wk_tup {G : Gx} {π : Wv} {m : Mir} {H : Hp} {a : Addr} {xs : List V} {ds : List D} (h1 : SqT G.K (hid (lv π m) H) a xs) (r : RepAll (G.at π) (hid (lv π m) H) ds xs) : Wk G π m H (Itt G.K a) ds none := by
  refine ⟨fun H => SqT G.K H a xs, YAt xs, by rw [← RepAll.length r]; exact walk_tup, fun π2 m2 H2 k _ _ => ?_, fun i H2 x H3 π2 m2 hi p s k _ y => ?_⟩
  · exact Same.sqT hid_self (Same.sqT k.same h1)
  · obtain ⟨rfl, hx⟩ := y
    obtain ⟨d, e1, e2⟩ := RepAll.get r hx
    exact ⟨Same.refl _, d, e1, Rep.up p s d e2⟩
theorem wk_str {G : Gx} {π : Wv} {m : Mir} {H : Hp} {z : Str} : Wk G π m H (Its z) (signsOf z) none := by
  refine ⟨fun _ => True, _, by unfold signsOf; rw [List.length_map, Array.length_toList]; exact walk_str, fun _ _ _ _ _ _ => trivial, fun i H2 x H3 π2 m2 hi p s k _ y => ?_⟩
  obtain ⟨rfl, c, hc, rfl⟩ := y
  refine ⟨Same.refl _, .str ⟨#[c]⟩, ?_, rfl, by show 1 ≤ sizeLine; decide⟩
  show (signsOf z)[i]? = _
  unfold signsOf
  rw [List.getElem?_map, Array.getElem?_toList, hc]; rfl
/-- a list of the mirror -/
theorem wk_ref {G : Gx} {π : Wv} {m : Mir} {H : Hp} {n : Nat} {a : Addr} {ds : List D} (hn : π.pi[n]? = some a) : Wk G π m H (Itl G.K a) ds (some (n, ds)) := by
  refine ⟨fun H => ∃ xs, H a = some (.lst xs) ∧ xs.length = ds.length, fun i H x H' => H' = H ∧ ∃ xs, H a = some (.lst xs) ∧ xs[i]? = some x, ⟨fun i H hi q => ?_, fun H q => ?_, fun i H x H' hi q y => ?_⟩, fun π2 m2 H2 k ok g => ?_, fun i H2 x H3 π2 m2 hi p s k g y => ?_⟩
  · obtain ⟨xs, h1, h2⟩ := q
    exact ⟨xs, xs[i]'(by omega), SqL.of h1, List.getElem?_eq_getElem (by omega)⟩
  · obtain ⟨xs, h1, h2⟩ := q
    exact ⟨xs, SqL.of h1, by omega⟩
  · obtain ⟨xs, h1, h2⟩ := q
    exact ⟨y.1, xs, h1, y.2 xs (SqL.of h1)⟩
  · obtain ⟨xs, h1, h2⟩ := ok.cel n (.lst ds) a (gd_some g) (pre_get k.pre hn)
    exact ⟨xs, h1, RepAll.length h2⟩
  · obtain ⟨rfl, xs, h1, h2⟩ := y
    obtain ⟨ys, h3, h4⟩ := k.cel n (.lst ds) a (gd_some g) (pre_get p hn)
    rw [h1] at h3
    cases h3
    obtain ⟨d, e1, e2⟩ := RepAll.get h4 h2
    exact ⟨Same.refl _, d, e1, e2⟩
theorem di_seq {tg e : Expr} {f : Fe} (he : DE X cn E e f) : DI X cn E tg e (fSeq f) := by
  refine ⟨fun pins s σ H R I q => ?_⟩
  obtain ⟨π, δ, m, a, p⟩ := q
  unfold fSeq at p
  cases hf : f δ m with
  | bad => rw [hf] at p; exact False.elim p
  | exc x m1 =>
    rw [hf] at p
    refine (pi_list he).run pins s σ H R I (show tD _ E f σ H _ from ⟨π, δ, m, a, ?_⟩)
    rw [hf]; exact p
  | ok x m1 =>
    rw [hf] at p
    simp only [Rs.bind] at p
    cases x with
    | lst ds =>
      refine (pi_list he).run pins s σ H R I (show tD _ E f σ H _ from ⟨π, δ, m, a, ?_⟩)
      rw [hf]
      intro π1 v H1 s1 rv
      obtain ⟨b, xs, rfl, h1, h2⟩ := rv
      exact ⟨b, rfl, ⟨xs, .inl (.inl (hid_some.mp h1).2)⟩, p π1 _ H1 s1 (wk_list h1 h2)⟩
    | tup ds =>
      refine (pi_tup he).run pins s σ H R I (show tD _ E f σ H _ from ⟨π, δ, m, a, ?_⟩)
      rw [hf]
      intro π1 v H1 s1 rv
      obtain ⟨b, xs, rfl, h1, h2⟩ := rv
      exact ⟨b, rfl, ⟨xs, Same.sqT hid_self h1⟩, p π1 _ H1 s1 (wk_tup h1 h2)⟩
    | str z =>
      refine (pi_str he).run pins s σ H R I (show tD _ E f σ H _ from ⟨π, δ, m, a, ?_⟩)
      rw [hf]
      intro π1 v H1 s1 rv
      obtain ⟨rfl, hz⟩ := rv
      exact ⟨z, rfl, p π1 _ H1 s1 wk_str⟩
    | ref n =>
      refine (pi_list he).run pins s σ H R I (show tD _ E f σ H _ from ⟨π, δ, m, a, ?_⟩)
      rw [hf]
      intro π1 v H1 s1 rv
      obtain ⟨b, rfl, hb⟩ := rv
      simp only at p
      cases q : cell m1 n with
      | none => rw [q] at p; exact False.elim p
      | some d =>
        rw [q] at p
        cases d with
        | lst ds =>
          obtain ⟨xs, h1, _⟩ := s1.ok.cel n (.lst ds) b (cell_iff.mp q) hb
          exact ⟨b, rfl, ⟨xs, SqL.of h1⟩, p π1 _ H1 s1 (wk_ref hb)⟩
        | _ => exact False.elim p
    | _ => exact False.elim p
/-- ints lo, lo + 1, .. -/
def rng (lo : Int) (n : Nat) : List D := (List.range n).map fun i => .int (lo + (i : Nat))
theorem wk_rng {G : Gx} {π : Wv} {m : Mir} {H : Hp} {lo : Int} {n : Nat} : Wk G π m H (Itr lo n) (rng lo n) none := by
  refine ⟨fun _ => True, _, by unfold rng; rw [List.length_map, List.length_range]; exact walk_range, fun _ _ _ _ _ _ => trivial, fun i H2 x H3 π2 m2 hi p s k _ y => ?_⟩
  obtain ⟨rfl, rfl⟩ := y
  unfold rng at hi ⊢
  rw [List.length_map, List.length_range] at hi
  refine ⟨Same.refl _, .int (lo + (i : Nat)), ?_, rfl⟩
  rw [List.getElem?_map, List.getElem?_range hi]; rfl
def fRange1 (g : Fa) : Fi := fun δ m => (g δ m).bind fun xs m1 => match xs with
  | [.int j] => if -(2 ^ 62) ≤ j ∧ j < 2 ^ 62 then .ok (rng 0 j.toNat, none) m1 else .bad
  | _ => .bad
def fRange2 (g : Fa) : Fi := fun δ m => (g δ m).bind fun xs m1 => match xs with
  | [.int i, .int j] => if -(2 ^ 62) ≤ i ∧ i < 2 ^ 62 ∧ -(2 ^ 62) ≤ j ∧ j < 2 ^ 62 then .ok (rng i (j - i).toNat, none) m1 else .bad
  | _ => .bad
theorem PI.imp {tg e : Expr} {t t' : TI} (h : PI X tg e t) (k : ∀ σ H R, t' σ H R → t σ H R) : PI X tg e t' := ⟨fun pins s σ H R I q => h.run pins s σ H R I (k σ H R q)⟩
theorem di_range1 {tg a : Expr} {g : Fa} {p pos : Pos} (hg : Gl X "range") (hm : X.mg "range" = none) (ha : DA X cn E [a] g) (hs : starEach [a] X.env = [(false, eval a X.env)] := by rfl) : DI X cn E tg (.Call (.Name "range" p) [a] [] pos) (fRange1 g) := by
  refine PI.imp (pi_range1 hg hm ha hs) fun σ H R q => ?_
  obtain ⟨π, δ, m, a, p⟩ := q
  refine (show tDA _ E g σ H _ from ⟨π, δ, m, a, ?_⟩)
  unfold fRange1 at p
  cases hf : g δ m with
  | bad => rw [hf] at p; exact p
  | exc x m1 => rw [hf] at p; exact p
  | ok xs m1 =>
    rw [hf] at p
    intro π1 vs H1 s1 rv
    simp only [Rs.bind] at p
    match xs, p with
    | [.int j], p =>
      obtain ⟨v, rfl, e⟩ := repAll1 rv
      obtain rfl : v = .int j := e
      by_cases h : -(2 ^ 62) ≤ j ∧ j < 2 ^ 62
      · simp only [if_pos h] at p
        exact ⟨j, rfl, h.1, h.2, p _ _ H1 s1 wk_rng⟩
      · simp only [if_neg h] at p
        exact False.elim p
theorem di_range2 {tg a b : Expr} {g : Fa} {p pos : Pos} (hg : Gl X "range") (hm : X.mg "range" = none) (ha : DA X cn E [a, b] g) (hs : starEach [a, b] X.env = [(false, eval a X.env), (false, eval b X.env)] := by rfl) (hs2 : starEach [b] X.env = [(false, eval b X.env)] := by rfl) :
    DI X cn E tg (.Call (.Name "range" p) [a, b] [] pos) (fRange2 g) := by
  refine PI.imp (pi_range2 hg hm ha hs hs2) fun σ H R q => ?_
  obtain ⟨π, δ, m, a, p⟩ := q
  refine (show tDA _ E g σ H _ from ⟨π, δ, m, a, ?_⟩)
  unfold fRange2 at p
  cases hf : g δ m with
  | bad => rw [hf] at p; exact p
  | exc x m1 => rw [hf] at p; exact p
  | ok xs m1 =>
    rw [hf] at p
    intro π1 vs H1 s1 rv
    simp only [Rs.bind] at p
    match xs, p with
    | [.int i, .int j], p =>
      obtain ⟨v, r, rfl, e, e2⟩ := rv
      obtain ⟨u, rfl, e3⟩ := repAll1 e2
      obtain rfl : v = .int i := e
      obtain rfl : u = .int j := e3
      by_cases h : -(2 ^ 62) ≤ i ∧ i < 2 ^ 62 ∧ -(2 ^ 62) ≤ j ∧ j < 2 ^ 62
      · simp only [if_pos h] at p
        exact ⟨i, j, rfl, h, p _ _ H1 s1 wk_rng⟩
      · simp only [if_neg h] at p
        exact False.elim p

/-! ### comprehensions -/
theorem de_lc {elt tg iter : Expr} {ifs : List Expr} {scope : Scope} (own : List (Str × Nat)) {pos : Pos} {fi : Fi} {gt : TG} {t : Ftg} {tt : Ft} {te : Fe} (hN : X.N.Nodup) (hi : DI X cn E tg iter fi) (ht : TgOk (gx X.K cn) gt t (own.map (·.2)))
    (hg : ∀ (s : Shared) (H : Hp) (C : Addr) (cl : List (Str × Addr)) (fp : List Addr), PG (X.blk s H scope (compEnvC scope cl C X.env) fp) tg gt)
    (hts : ∀ (s : Shared) (H : Hp) (C : Addr) (cl : List (Str × Addr)) (fp : List Addr), PTs (X.blk s H scope (compEnvC scope cl C X.env) fp) ifs (tDT (gx X.K cn) ES0 tt))
    (he : ∀ (s : Shared) (H : Hp) (C : Addr) (cl : List (Str × Addr)) (fp : List Addr), DE (X.blk s H scope (compEnvC scope cl C X.env) fp) cn ES0 elt te)
    (ok : blkC X.N X.env.scope scope own = true := by rfl) (hc : X.calm = true := by rfl) (hs : ∀ x, foldedSetIterable iter X.env x = pure x := by intro _; rfl) :
    DE X cn E (.ListComp elt [⟨tg, iter, ifs, 0⟩] scope pos) (fLc fi t tt te (own.map (·.2))) :=
  PE.imp (pe_lc hc hN hi (blkOk_by ok) hg hts he hs) fun _ _ _ h => lift_lc ht h
theorem lift_yes {G : Gx} {σ : L2.St} {H : Hp} {Q : Bool → Hp → Prop} (h : tDT G E (fYes : Ft) σ H Q) : tYes σ H Q := by
  obtain ⟨π, δ, m, a, p⟩ := h
  exact p _ H a.go
theorem PTs.imp {es : List Expr} {t t' : TT} (h : PTs X es t) (k : ∀ σ H Q, t' σ H Q → t σ H Q) : PTs X es t' := ⟨fun pins s σ H Q I q => h.run pins s σ H Q I (k σ H Q q)⟩
theorem dts_nil : PTs X [] (tDT (gx X.K cn) E (fYes : Ft)) := PTs.imp pts_nil fun _ _ _ => lift_yes
theorem dts_one {c : Expr} {t : Ft} (h : DT X cn E c t) : PTs X [c] (tDT (gx X.K cn) E t) := pts_one h
theorem ds_setLc (i : Nat) {y : Str} {py spos : Pos} {elt tg iter : Expr} {ifs : List Expr} {scope : Scope} (own : List (Str × Nat)) {pos : Pos} {fi : Fi} {gt : TG} {t : Ftg} {tt : Ft} {te : Fe} (hN : X.N.Nodup) (hi : DI X cn E tg iter fi) (ht : TgOk (gx X.K cn) gt t (own.map (·.2)))
    (hg : ∀ (s : Shared) (H : Hp) (C : Addr) (cl : List (Str × Addr)) (fp : List Addr), PG (X.blk s H scope (compEnvC scope cl C X.env) fp) tg gt)
    (hts : ∀ (s : Shared) (H : Hp) (C : Addr) (cl : List (Str × Addr)) (fp : List Addr), PTs (X.blk s H scope (compEnvC scope cl C X.env) fp) ifs (tDT (gx X.K cn) ES0 tt))
    (he : ∀ (s : Shared) (H : Hp) (C : Addr) (cl : List (Str × Addr)) (fp : List Addr), DE (X.blk s H scope (compEnvC scope cl C X.env) fp) cn ES0 elt te)
    (hy : X.N[i]? = some y := by rfl) (hyl : X.env.scope.names.lookup y = some .local := by rfl) (hk : X.env.scope.kind = .function := by rfl) (hl : (py.line == pos.line) = true := by rfl) (hany : (scope.names.any fun (n, k) => n == y && (k == .local || k == .cell)) = false := by decide +kernel)
    (ok : blkC X.N X.env.scope scope own = true := by rfl) (hc : X.calm = true := by rfl) (hs : ∀ x, foldedSetIterable iter X.env x = pure x := by intro _; rfl) :
    DS X cn E (.Assign [.Name y py] (.ListComp elt [⟨tg, iter, ifs, 0⟩] scope pos) spos) (sSet i (fLc fi t tt te (own.map (·.2)))) :=
  PS.imp (ps_setLc hc hN hy hyl (sw_true hk hyl hl hany) hi (blkOk_by ok) hg hts he hs) fun Dn σ H h => by
    have h2 := liftS_set h
    exact (show tAsg _ _ Dn σ H from (lift_lc ht (show tD _ E _ σ H _ from h2)))

end
/-- a def of the text, with what it promises -/
structure Fd (P : Program) (w : World) (K : PySem.W.Frag) (mg : Str → Option Value) (base : Heap) (x : Str) (ps : List Str) (k : Nat) (sp : Sp) : Prop where
  ex : ∃ (f : Addr) (fd : FuncData), mg x = some (.ref f) ∧ PySem.W.keepIn K (.ref f) = true ∧ Binds K fd ps [] ∧ FnOk P w K mg base (L2N.CX P w) k f fd ps sp ∧
    ∃ (oc : Value) (od : Option Addr) (osl : Array (Option Value)), K.lookup f = some ⟨oc, od, .func fd, osl⟩
/-- what a callee raises reaches what is wanted here -/
def Pas (X : Cx) (E : XKS) : Prop := ∀ σ, PassesAt (L2N.CX X.prog X.w) X σ (E σ)
theorem pas_of {X : Cx} {e : XK} (h : Passes (L2N.CX X.prog X.w) X e) : Pas X (fun _ => e) := fun σ pins H s u s' I c => h pins σ H s u s' I c
section
variable {X : Cx} {cn : Cn} {E : XKS}
theorem de_fn {x : Str} {ps : List Str} {k n : Nat} {F : Sls → Mir → Rs DM.D} {p pos : Pos} {e : Expr} {es : List Expr} {g : Fa} (D : Fd X.prog X.w X.K X.mg X.base x ps k (spD (gx X.K cn) n F)) (hr : Room k X.A) (hx : Pas X E) (ha : DA X cn E (e :: es) g) (hg : Gl X x := by rfl)
    (hdb : (x == ("__debug__" : Str)) = false := by decide) (he : starEach (e :: es) X.env = (false, eval e X.env) :: starEach es X.env := by rfl) (hpl : (backTo pos (starEach es X.env)).any (·.1) = false := by rfl) : DE X cn E (.Call (.Name x p) (e :: es) [] pos) (fCallN n F g) := by
  obtain ⟨f, fd, hm, hk, hb, Fo, lk⟩ := D.ex
  exact PE.imp (pe_callS Fo hr hg hm hk hb hx ha hdb he hpl) fun _ _ _ => lift_callN
end

/-! ### a def as the top leaves it -/
theorem Fun_lk {K : PySem.W.Frag} {x qual : Str} {st : Stmt} {f : Addr} {fd : FuncData} (F : Fun K x qual st f fd) : ∃ (oc : Value) (od : Option Addr) (osl : Array (Option Value)), K.lookup f = some ⟨oc, od, .func fd, osl⟩ := by
  obtain ⟨oc, od, kV, doc, pm, an, cdv, ct, osl, rfl, lk, hcd⟩ := F.ex
  exact ⟨oc, od, osl, lk⟩
structure Df (K : PySem.W.Frag) (mg : Str → Option Value) (x : Str) (st : Stmt) (ps : List Str) : Prop where
  ex : ∃ (f : Addr) (fd : FuncData), mg x = some (.ref f) ∧ Fun K x x st f fd ∧ Binds K fd ps []
section
variable {P : Program} {w : World} {K : PySem.W.Frag} {mg : Str → Option Value} {base : Heap}
theorem Df.fd {x : Str} {st : Stmt} {N ps : List Str} {k : Nat} {cn : Str → Addr} {g : Fs} (D : Df K mg x st ps) (S : FnScope N ps (defScope st))
    (hb : ∀ (f : Addr) (cdv : Value) (A : Around) (outer : List Env) (s : Shared) (H : Hp) (E : XK), Room k (A.deeper (envOfC x (defScope st) s.heap.objs.size f cdv)) →
      PSs (cxOf (L2N.CX P w) P w K mg base N x (defScope st) f cdv A outer s H E) (defBody st) (tS (gx K (c0 cn)) (fun _ => E) g)) :
    Fd P w K mg base x ps (k + 1) (spD (gx K (c0 cn)) ps.length (runF N.length g)) := by
  obtain ⟨f, fd, hm, F, b⟩ := D.ex
  exact ⟨f, fd, hm, F.kp, b, fn_ok F S (hb f), Fun_lk F⟩
theorem Fd.to {x : Str} {ps : List Str} {k n : Nat} {G : Gx} {F F' : Sls → Mir → Rs D} (D : Fd P w K mg base x ps k (spD G n F)) (e : ∀ as m, as.length = n → F' as m = .bad ∨ F as m = F' as m) : Fd P w K mg base x ps k (spD G n F') := by
  obtain ⟨f, fd, hm, hk, hb, Fo, lk⟩ := D.ex
  exact ⟨f, fd, hm, hk, hb, FnOk.to Fo e, lk⟩
theorem Fd.up {x : Str} {ps : List Str} {j k : Nat} {sp : Sp} (D : Fd P w K mg base x ps j sp) (h : j ≤ k) : Fd P w K mg base x ps k sp := by
  obtain ⟨f, fd, hm, hk, hb, Fo, lk⟩ := D.ex
  exact ⟨f, fd, hm, hk, hb, Fo.mono h, lk⟩

/-! ### the law's ends -/
/-- the bag is made of the script -/
def spBag (K : PySem.W.Frag) : Sp := fun vs H Q _ => ∃ (a : Addr) (ns : List Int), vs = [.ref a] ∧ SqL K H a (ns.map V.int) ∧ ns.length ≤ 63 ∧
  ∀ b c H', H b = none → H c = none → b ≠ c → H' b = some (.lst [.ref c, .int 0, .int 0, .int 3846]) → H' c = some (.lst (ns.map V.int)) → Same H H' → Q (.ref b) H'
def spLaw (K : PySem.W.Frag) : Sp := fun vs H Q _ => ∃ (a : Addr) (ns : List Int), vs = [.ref a] ∧ SqL K H a (ns.map V.int) ∧ ns.length ≤ 63 ∧ ∀ H', Q (.bl true) H'
theorem Df.raw {x : Str} {st : Stmt} {N ps : List Str} {k : Nat} {sp : Sp} (D : Df K mg x st ps) (S : FnScope N ps (defScope st)) (len : ∀ vs H Q E, sp vs H Q E → vs.length = ps.length)
    (hb : ∀ (f : Addr) (cdv : Value) (A : Around) (outer : List Env) (s : Shared) (H : Hp) (vs : List V) (Q : VK) (E : XK), Room k (A.deeper (envOfC x (defScope st) s.heap.objs.size f cdv)) → sp vs H Q E →
      ∃ t, PSs (cxOf (L2N.CX P w) P w K mg base N x (defScope st) f cdv A outer s H E) (defBody st) t ∧ t { nx := fun _ H' => Q .non H', rt := Q } (L2.start N vs) H) : Fd P w K mg base x ps (k + 1) sp := by
  obtain ⟨f, fd, hm, F, b⟩ := D.ex
  exact ⟨f, fd, hm, F.kp, b, fn_any F S len (hb f), Fun_lk F⟩
theorem bag_len : ∀ vs H Q E, spBag K vs H Q E → vs.length = 1 := fun vs H Q E ⟨a, ns, h, _⟩ => by rw [h]; rfl
theorem bag_read {p : Str} {vs : List V} {H : Hp} {Q : VK} {E : XK} {nx : L2.St → Hp → Prop} (h : spBag K vs H Q E) :
    tRet (tLst (tCons (tCB (fun xs H Q => ∃ p ys, xs = [.ref p] ∧ (SqL K H p ys ∨ SqT K H p ys) ∧ ∀ l, H l = none → Q (.ref l) (upd H l (.lst ys))) (tCons (tSl (rSlL K) (tVar 0) tNoPart (tPart (tC (.int 63)))) tNil))
      (tCons (tC (.int 0)) (tCons (tC (.int 0)) (tCons (tC (.int 3846)) tNil))))) { nx := nx, rt := Q } (L2.start [p] vs) H := by
  obtain ⟨a, ns, rfl, hS, hl, k⟩ := h
  refine ⟨_, rfl, 63, rfl, a, ns.map V.int, rfl, hS, fun q hq => ?_⟩
  have hcut : cutV (ns.map V.int) none (some 63) = ns.map V.int := by
    unfold cutV
    have h1 : HT.sIx (ns.map V.int).length 0 none = 0 := rfl
    have h2 : HT.sIx (ns.map V.int).length (ns.map V.int).length (some 63) = (ns.map V.int).length := by
      unfold HT.sIx
      rw [List.length_map]
      show (if (63 : Int) < 0 then _ else min (63 : Int).toNat ns.length) = _
      rw [if_neg (by decide)]
      show min 63 ns.length = _
      omega
    rw [h1, h2, List.drop_zero, Nat.sub_zero, List.take_of_length_le (Nat.le_refl _)]
  rw [hcut]
  refine ⟨q, ns.map V.int, rfl, .inl (SqL.of upd_same), fun c hc => ⟨by show 4 ≤ sizeLine; decide, fun b hb => ?_⟩⟩
  have hqc : c ≠ q := fun z => by rw [z, upd_same] at hc; cases hc
  have hc' : H c = none := by rw [upd_ne hqc] at hc; exact hc
  have hbc : b ≠ c := fun z => by rw [z, upd_same] at hb; cases hb
  rw [upd_ne hbc] at hb
  have hbq : b ≠ q := fun z => by rw [z, upd_same] at hb; cases hb
  rw [upd_ne hbq] at hb
  refine k b c _ hb hc' hbc upd_same (by rw [upd_ne (Ne.symm hbc), upd_same]) fun x o e => ?_
  rw [upd_ne (ne_of_none e hb), upd_ne (ne_of_none e hc'), upd_ne (ne_of_none e hq)]
  exact e
theorem law_len : ∀ vs H Q E, spLaw K vs H Q E → vs.length = 1 := fun vs H Q E ⟨a, ns, h, _⟩ => by rw [h]; rfl
/-- the mirror behind the bag's making -/
def bag0 (ns : List Int) : Mir := [some (.lst [.lst (ns.map .int), .int 0, .int 0, .int 3846])]
theorem rep_intl {G : Gx} {H : Hp} : ∀ ns : List Int, RepAll G H (ns.map D.int) (ns.map V.int)
  | [] => rfl
  | n :: ns => ⟨_, _, rfl, rfl, rep_intl ns⟩
/-- the law behind its first statement, the bag's making -/
theorem law_read {cn : Str → Addr} {N : List Str} {vs : List V} {H : Hp} {Q : VK} {E : XK} {g : Fs} {nx : L2.St → Hp → Prop} (hN : 2 ≤ N.length) (h : spLaw K vs H Q E)
    (run : ∀ ns : List Int, ns.length ≤ 63 → ∃ m, g (.un :: .dat (.ref 0) :: List.replicate (N.length - 2) .un) (bag0 ns) = .rt (.bl true) m) :
    tSeq (tAsg (tCall (spBag K) [] E (tCons (tVar 0) tNil)) (gName 1)) (tS (gx K (c0 cn)) (fun _ => E) g) { nx := nx, rt := Q } (L2.start N vs) H := by
  obtain ⟨a, ns, rfl, hS, hl, k⟩ := h
  refine ⟨.ref a, rfl, a, ns, rfl, hS, hl, fun b c H' hb hc hbc h1 h2 hs => ?_⟩
  obtain ⟨m, hm⟩ := run ns hl
  have e0 : (L2.start N [.ref a]).set 1 (some (.ref b)) = some (.ref a) :: some (.ref b) :: List.replicate (N.length - 2) none := by
    unfold L2.start
    have : N.length - [V.ref a].length = (N.length - 2) + 1 := by
      show N.length - 1 = _
      omega
    rw [this, List.replicate_succ]
    rfl
  show tS (gx K (c0 cn)) (fun _ => E) g { nx := nx, rt := Q } ((L2.start N [.ref a]).set 1 (some (.ref b))) H'
  rw [e0]
  have only : ∀ q, mlv ⟨[b], fun _ => false, Lm.nil⟩ (bag0 ns) q = true → q = b := fun q hq => by simpa using mlv_mem hq
  have hcl : lv ⟨[b], fun _ => false, Lm.nil⟩ (bag0 ns) c = false := by
    refine lv_false.mpr ⟨rfl, ?_⟩
    cases z : mlv ⟨[b], fun _ => false, Lm.nil⟩ (bag0 ns) c with
    | false => rfl
    | true => exact absurd (only c z).symm hbc
  refine ⟨⟨[b], fun _ => false, Lm.nil⟩, .un :: .dat (.ref 0) :: List.replicate (N.length - 2) .un, bag0 ns, ⟨⟨by simp, fun i s hs => ?_⟩, ⟨rfl, by simp, fun q hq => ?_, fun q hq => (by cases hq), fun q _ => rfl, fun n d q e1 e2 => ?_⟩, trivial⟩, ?_⟩
  · match i with
    | 0 => cases hs; exact ⟨_, rfl, trivial⟩
    | 1 => cases hs; exact ⟨_, rfl, .ref b, rfl, b, rfl, rfl⟩
    | i + 2 =>
      have hs' : (List.replicate (N.length - 2) Sl.un)[i]? = some s := hs
      have hlt := (List.getElem?_eq_some_iff.mp hs').1
      rw [List.length_replicate] at hlt
      rw [List.getElem?_replicate_of_lt hlt] at hs'
      cases hs'
      refine ⟨none, ?_, trivial⟩
      show (List.replicate (N.length - 2) none)[i]? = some none
      rw [List.getElem?_replicate_of_lt hlt]
  · rw [List.mem_singleton.mp hq, h1]; simp
  · match n with
    | 0 =>
      cases e2
      cases e1
      exact ⟨_, h1, _, _, rfl, ⟨c, _, rfl, hid_some.mpr ⟨hcl, h2⟩, rep_intl ns⟩, _, _, rfl, rfl, _, _, rfl, rfl, _, _, rfl, rfl, rfl⟩
    | n + 1 => simp [bag0] at e1
  · rw [hm]
    intro π2 v H2 _ rv
    obtain rfl : v = .bl true := rv
    exact k H2
end
end DM

/-! What a text's top holds: constants, tables; in, not in; defs with a star, calls with keywords. -/
namespace DM
open PySem PySem.Spec PyProof.Rows L2

/-! ### constants -/
def readL (f : Value → Option D) : List Value → Option (List D)
  | [] => some []
  | v :: vs => (f v).bind fun d => (readL f vs).map fun ds => d :: ds
/-- a value of the written part, read as data; two arms of its own, so that it is computed -/
def readC1 (K : PySem.W.Frag) (sub : Value → Option D) (v : Value) : Option D := match v with
  | .none => some .non
  | .bool b => some (.bl b)
  | .int i _ => some (.int i)
  | .str x _ => if x.length ≤ sizeLine then some (.str x) else none
  | .ref a => match K.lookup a with
    | some ⟨.type "tuple", _, .seq its _, _⟩ => if its.size ≤ sizeLine then (readL sub its.toList).map .tup else none
    | _ => none
  | _ => none
def readC (K : PySem.W.Frag) : Nat → Value → Option D
  | 0 => fun _ => none
  | n + 1 => readC1 K (readC K n)
section
variable {K : PySem.W.Frag} {cn : Str → Addr}
theorem readCs_of {f : Value → Option D} (ih : ∀ (v : Value) (d : D), f v = some d → ∃ x, RelV x v ∧ ∀ π H, Rep (Gx.at (gx K (c0 cn)) π) H d x) : ∀ (vs : List Value) (ds : List D), readL f vs = some ds → ∃ xs, Vals xs vs ∧ ∀ π H, RepAll (Gx.at (gx K (c0 cn)) π) H ds xs
  | [], ds, h => by
    simp only [readL] at h
    cases h
    exact ⟨[], .nil, fun _ _ => rfl⟩
  | v :: vs, ds, h => by
    simp only [readL] at h
    cases h1 : f v with
    | none => rw [h1] at h; cases h
    | some d =>
      rw [h1] at h
      simp only [Option.bind_some] at h
      cases h2 : readL f vs with
      | none => rw [h2] at h; cases h
      | some es =>
        rw [h2] at h
        cases h
        obtain ⟨x, r1, r2⟩ := ih v d h1
        obtain ⟨xs, r3, r4⟩ := readCs_of ih vs es h2
        exact ⟨x :: xs, .cons r1 r3, fun π H => ⟨x, xs, rfl, r2 π H, r4 π H⟩⟩
theorem readC_of : ∀ (n : Nat) (v : Value) (d : D), readC K n v = some d → ∃ x, RelV x v ∧ ∀ π H, Rep (Gx.at (gx K (c0 cn)) π) H d x := by
  intro n
  induction n with
  | zero =>
    intro v d h
    cases h
  | succ n ih =>
    intro v d h
    unfold readC at h
    cases v <;> simp only [readC1] at h <;> (try contradiction)
    · cases h; exact ⟨.non, rfl, fun _ _ => rfl⟩
    · rename_i b; cases h; exact ⟨.bl b, rfl, fun _ _ => rfl⟩
    · rename_i i t; cases h; exact ⟨.int i, ⟨t, rfl⟩, fun _ _ => rfl⟩
    · rename_i x t
      by_cases hl : x.length ≤ sizeLine
      · rw [if_pos hl] at h; cases h; exact ⟨.str x, ⟨t, rfl⟩, fun _ _ => ⟨rfl, hl⟩⟩
      · rw [if_neg hl] at h; cases h
    · rename_i a
      split at h
      · rename_i dd its n' sl hk
        by_cases hz : its.size ≤ sizeLine
        · rw [if_pos hz] at h
          cases h2 : readL (readC K n) its.toList with
          | none => rw [h2] at h; cases h
          | some ds =>
            rw [h2] at h
            cases h
            obtain ⟨xs, r1, r2⟩ := readCs_of ih its.toList ds h2
            exact ⟨.ref a, rfl, fun π H => ⟨a, xs, rfl, .inr ⟨_, its, n', hk, rfl, rfl, hz, r1⟩, r2 π H⟩⟩
        · rw [if_neg hz] at h; cases h
      · cases h
end
/-- a module's constant -/
structure Gc (K : PySem.W.Frag) (mg : Str → Option Value) (cn : Str → Addr) (x : Str) (d : D) : Prop where
  ex : ∃ (v : V) (u : Value), mg x = some u ∧ RelV v u ∧ ∀ π H, Rep (Gx.at (gx K (c0 cn)) π) H d v
theorem gc_of {K : PySem.W.Frag} {mg : Str → Option Value} {cn : Str → Addr} {x : Str} {d : D} {u : Value} (n : Nat) (hm : mg x = some u) (h : readC K n u = some d) : Gc K mg cn x d := by
  obtain ⟨v, r1, r2⟩ := readC_of (cn := cn) n u d h
  exact ⟨v, u, hm, r1, r2⟩
/-- a module's dict with text keys -/
structure Tc (K : PySem.W.Frag) (w : World) (mg : Str → Option Value) (cn : Str → Addr) (x : Str) (tb : List (Str × D)) : Prop where
  ex : ∃ a, mg x = some (.ref a) ∧ ∀ z d, tb.lookup z = some d → ∃ v, KDct K w a z v ∧ ∀ π H, Rep (Gx.at (gx K (c0 cn)) π) H d v
theorem tc_of {K : PySem.W.Frag} {w : World} {mg : Str → Option Value} {cn : Str → Addr} {x : Str} {tb : List (Str × D)} {a : Addr} {es : Array DictEntry} {n : Nat} (hm : mg x = some (.ref a)) (hl : K.lookup a = some ⟨.type "dict", none, .dict es n, #[]⟩) (hk : PySem.W.KeysLit w.params es.toList)
    (h : ∀ z d, tb.lookup z = some d → ∃ u, PySem.W.nsIn K a z = some (some u) ∧ readC K 9 u = some d) : Tc K w mg cn x tb := ⟨a, hm, fun z d e => by
  obtain ⟨u, h1, h2⟩ := h z d e
  obtain ⟨v, r1, r2⟩ := readC_of (cn := cn) 9 u d h2
  exact ⟨v, ⟨es, n, u, hl, hk, h1, r1⟩, r2⟩⟩
theorem lookup_cases {α : Type} {tb : List (Str × α)} {P : Str → α → Prop} (h : ∀ p ∈ tb, P p.1 p.2) : ∀ z d, tb.lookup z = some d → P z d := by
  induction tb with
  | nil => intro z d e; cases e
  | cons p tb ih =>
    intro z d e
    rw [List.lookup_cons] at e
    cases q : z == p.1 with
    | true =>
      rw [q] at e
      cases e
      have := eq_of_beq q
      rw [this]
      exact h p (by simp)
    | false =>
      rw [q] at e
      exact ih (fun p hp => h p (by simp [hp])) z d e
section
 variable {X : Cx} {cn : Cn} {E : XKS}
theorem de_gc {x : Str} {d : D} {pos : Pos} (C : Gc X.K X.mg cn x d) (hg : Gl X x) (hd : (x == ("__debug__" : Str)) = false := by decide) : DE X cn E (.Name x pos) (fC d) := by
  obtain ⟨v, u, hm, r, hr⟩ := C.ex
  exact de_glob hg hm r hr hd
theorem de_tabc {x : Str} {p pos : Pos} {b : Expr} {f : Fe} {tb : List (Str × D)} (C : Tc X.K X.w X.mg cn x tb) (hg : Gl X x) (hb : DE X cn E b f) (hs : PlainIx b := by exact fun _ _ => rfl) (hd : (x == ("__debug__" : Str)) = false := by decide) :
    DE X cn E (.Subscript (.Name x p) b pos) (fTab tb f) := by
  obtain ⟨a, hm, h⟩ := C.ex
  exact de_tab ⟨h⟩ hg hm hb hs hd

/-! ### in, not in -/
theorem eqF_of {G : Gx} {H : Hp} {x y : D} {v u : V} (hx : x.flat = true) (hy : y.flat = true) (rx : Rep G H x v) (ry : Rep G H y u) : eqV v u = D.eqF x y ∧ flatV v = true ∧ flatV u = true := by
  cases x <;> simp only [D.flat] at hx <;> (try contradiction) <;> cases y <;> simp only [D.flat] at hy <;> (try contradiction) <;>
    (simp only [Rep] at rx ry) <;> (first | subst rx | (obtain ⟨rfl, _⟩ := rx)) <;> (first | subst ry | (obtain ⟨rfl, _⟩ := ry)) <;> refine ⟨?_, rfl, rfl⟩ <;> rfl
theorem inV_of {G : Gx} {H : Hp} {x : D} {v : V} (hx : x.flat = true) (rx : Rep G H x v) : ∀ (ys : List D) (us : List V), ys.all D.flat = true → RepAll G H ys us → inV v us = (ys.any fun y => D.eqF y x) ∧ us.all flatV = true
  | [], us, _, r => by
    obtain rfl : us = [] := r
    exact ⟨rfl, rfl⟩
  | y :: ys, us, ha, r => by
    obtain ⟨u, us, rfl, r1, r2⟩ := r
    rw [List.all_cons, Bool.and_eq_true] at ha
    obtain ⟨i1, i2⟩ := inV_of hx rx ys us ha.2 r2
    obtain ⟨e1, e2, e3⟩ := eqF_of ha.1 hx r1 rx
    refine ⟨?_, by rw [List.all_cons, e2, i2]; rfl⟩
    unfold inV at i1 ⊢
    rw [List.any_cons, List.any_cons, i1, e1]
theorem flat_of {G : Gx} {H : Hp} {x : D} {v : V} (hx : x.flat = true) (rx : Rep G H x v) : flatV v = true := (eqF_of hx hx rx rx).2.1
def rInU (K : PySem.W.Frag) (neg : Bool) : R2 := fun x y H Q => (∃ (c : Nat) (z : Str), x = .str ⟨#[c]⟩ ∧ y = .str z ∧ Q (.bl (if neg then !decide (c ∈ z.cps.toList) else decide (c ∈ z.cps.toList))) H) ∨
  (∃ i j, x = .str i ∧ y = .str j ∧ Q (.bl (if neg then !(!(Builtin.Str.occurrences j i 0 j.length 1).isEmpty) else !(Builtin.Str.occurrences j i 0 j.length 1).isEmpty)) H) ∨ rIn K neg x y H Q
theorem op_inU : OpR X (compareOp .In) (rInU X.K false) := op_in_sign.or (op_in_str.or op_in_seq)
theorem op_ninU : OpR X (compareOp .NotIn) (rInU X.K true) := op_notIn_sign.or (op_notin_str.or op_notIn_seq)
theorem rd_inU {G : Gx} (neg : Bool) : RD2 G (rInU G.K neg) (fun x y => if neg then neg1 (oIn x y) else oIn x y) := by
  intro π hd H x y d v u Q hn rx ry ho k
  have seq : ∀ (ys : List D) (us : List V) (p : Addr), u = .ref p → (SqL G.K H p us ∨ SqT G.K H p us) → RepAll (G.at π) (hid hd H) ys us → x.flat = true → ys.all D.flat = true →
      (if neg then neg1 (some (.bl (ys.any fun y => D.eqF y x))) else some (.bl (ys.any fun y => D.eqF y x))) = some d → rInU G.K neg v u H Q := fun ys us p e sq r hx hy hq => by
    subst e
    obtain ⟨i1, i2⟩ := inV_of hx rx.rep ys us hy (RepAll.mono hid_self ys r)
    refine .inr (.inr ⟨p, us, rfl, sq, flat_of hx rx.rep, i2, ?_⟩)
    rw [i1]
    cases neg with
    | true => cases hq; exact k _ H (Same.refl H) rfl
    | false => cases hq; exact k _ H (Same.refl H) rfl
  cases y with
  | str z =>
    cases x with
    | str c =>
      obtain ⟨rfl, h1⟩ := rx
      obtain ⟨rfl, h2⟩ := ry
      simp only [oIn] at ho
      by_cases hc : c.cps.size = 1
      · rw [dif_pos hc] at ho
        refine .inl ⟨c.cps[0], z, ?_, rfl, ?_⟩
        · have : c = ⟨#[c.cps[0]]⟩ := by
            cases c with
            | mk cps =>
              congr 1
              apply Array.ext
              · simpa using hc
              · intro i h1 h2
                have : i = 0 := by
                  have : i < cps.size := h1
                  simp at hc
                  omega
                subst this
                rfl
          rw [← this]
        · cases neg with
          | true => cases ho; exact k _ H (Same.refl H) rfl
          | false => cases ho; exact k _ H (Same.refl H) rfl
      · rw [dif_neg hc] at ho
        refine .inr (.inl ⟨c, z, rfl, rfl, ?_⟩)
        cases neg with
        | true => cases ho; exact k _ H (Same.refl H) rfl
        | false => cases ho; exact k _ H (Same.refl H) rfl
    | _ => cases neg <;> simp [oIn, neg1] at ho
  | lst ys =>
    obtain ⟨p, us, rfl, h1, h2⟩ := ry
    simp only [oIn] at ho
    by_cases h : x.flat = true ∧ ys.all D.flat = true
    · rw [if_pos h] at ho
      exact seq ys us p rfl (.inl (.inl (.inl h1))) h2 h.1 h.2 ho
    · rw [if_neg h] at ho
      cases neg <;> cases ho
  | tup ys =>
    obtain ⟨p, us, rfl, h1, h2⟩ := ry
    simp only [oIn] at ho
    by_cases h : x.flat = true ∧ ys.all D.flat = true
    · rw [if_pos h] at ho
      exact seq ys us p rfl (.inr (Same.sqT hid_self h1)) h2 h.1 h.2 ho
    · rw [if_neg h] at ho
      cases neg <;> cases ho
  | _ => cases x <;> cases neg <;> simp [oIn, neg1] at ho
theorem cm_in : Cm X cn .In oIn := ⟨⟨_, op_inU, rd_inU false⟩⟩
theorem cm_nin : Cm X cn .NotIn oNotIn := ⟨⟨_, op_ninU, rd_inU true⟩⟩
end
end DM

/-! Defs with a star; calls by keywords alone. -/
namespace DM
open PySem PySem.Spec PyProof.Rows L2

/-- def f( *v) -/
def spSt (G : Gx) (F : Sls → Mir → Rs D) : Sp := fun vs H Q E => vs.length ≤ sizeLine ∧ ∀ p, H p = none → spD G 1 F [.ref p] (upd H p (.tup vs)) Q E
section
variable {X : Cx} {cn : Cn} {E : XKS}
def fStar (F : Sls → Mir → Rs D) (g : Fa) : Fe := fun δ m => (g δ m).bind fun xs m1 => if xs.length ≤ sizeLine then F [.dat (.tup xs)] m1 else .bad
/-- E is the same at all slots -/
structure PasC (X : Cx) (E : XKS) : Prop where
  ex : ∃ e : XK, (∀ σ, E σ = e) ∧ Passes (L2N.CX X.prog X.w) X e
theorem pasC_of {e : XK} (h : Passes (L2N.CX X.prog X.w) X e) : PasC X (fun _ => e) := ⟨e, fun _ => rfl, h⟩
theorem lift_star {G : Gx} {σ : L2.St} {H : Hp} {Q : VK} {F : Sls → Mir → Rs D} {g : Fa} (h : tD G E (fStar F g) σ H Q) : tDA G E g σ H fun vs H1 => spSt G F vs H1 Q (E σ) := by
  obtain ⟨π, δ, m, at0, p⟩ := h
  refine ⟨π, δ, m, at0, ?_⟩
  unfold fStar at p
  cases hf : g δ m with
  | bad => rw [hf] at p; exact p
  | exc x m1 => rw [hf] at p; exact p
  | ok xs m1 =>
    rw [hf] at p
    intro π1 vs H1 s1 rx
    simp only [Rs.bind] at p
    by_cases hl : xs.length ≤ sizeLine
    · rw [if_pos hl] at p
      refine ⟨by rw [RepAll.length rx]; exact hl, fun q hq => ⟨rfl, π1, [.dat (.tup xs)], m1, ?_, ?_⟩⟩
      · have g2 : Go G π1 m1 H1 π1 m1 (upd H1 q (.tup vs)) := Go.of s1.ok (same_new hq)
        refine ⟨⟨rfl, fun i s hs => ?_⟩, g2.ok.j0, trivial⟩
        match i, hs with
        | 0, hs =>
          cases hs
          exact ⟨_, rfl, _, rfl, rep_tup hq (s1.ok.fresh hq) rx⟩
      · exact (Post.from_ (s1.trans (Go.of s1.ok (same_new hq))) p).j0
    · rw [if_neg hl] at p
      exact False.elim p
/-- a star def of the text, with what it promises -/
structure Fst (P : Program) (w : World) (K : PySem.W.Frag) (mg : Str → Option Value) (base : Heap) (x : Str) (k : Nat) (sp : Sp) : Prop where
  ex : ∃ f : Addr, mg x = some (.ref f) ∧ PySem.W.keepIn K (.ref f) = true ∧ FnR P w K mg base (L2N.CX P w) k f sp
theorem pe_callR {CX : CXT} {k : Nat} {f : Addr} {sp : Sp} {x : Str} {p pos : Pos} {e : Expr} {es : List Expr} {t : TA} {E : XK} (F : FnR X.prog X.w X.K X.mg X.base CX k f sp) (hr : Room k X.A) (hg : Gl X x) (hm : X.mg x = some (.ref f)) (hk : PySem.W.keepIn X.K (.ref f) = true) (hx : Passes CX X E) (ha : PA X (e :: es) t)
    (hdb : (x == ("__debug__" : Str)) = false := by decide) (he : starEach (e :: es) X.env = (false, eval e X.env) :: starEach es X.env := by rfl) (hpl : (backTo pos (starEach es X.env)).any (·.1) = false := by rfl) :
    PE X (.Call (.Name x p) (e :: es) [] pos) (fun σ H Q => t σ H fun vs H1 => sp vs H1 Q E) :=
  ⟨fun pins s σ H Q I h => wpAny_Call_Name_kw (ld_glob I hg hm (PySem.W.callWith_K (h₀ := X.base) I.ok.mod.kin hk (L2.thn (ha.run pos pins s σ H _ I h) fun us s1 ⟨vs, H1, I1, r, q⟩ => ⟨I1.kIn, wpAny_call (run_fnR F hr hx I1 r q)⟩) he hpl) hdb)⟩
theorem pe_callR0 {CX : CXT} {k : Nat} {f : Addr} {sp : Sp} {x : Str} {p pos : Pos} {E : XK} (F : FnR X.prog X.w X.K X.mg X.base CX k f sp) (hr : Room k X.A) (hg : Gl X x) (hm : X.mg x = some (.ref f)) (hk : PySem.W.keepIn X.K (.ref f) = true) (hx : Passes CX X E)
    (hdb : (x == ("__debug__" : Str)) = false := by decide) : PE X (.Call (.Name x p) [] [] pos) (fun σ H Q => tNil σ H fun vs H1 => sp vs H1 Q E) :=
  ⟨fun pins s σ H Q I h => wpAny_Call_Name_kw (ld_glob I hg hm (PySem.W.callWith_K0 I.kIn hk (wpAny_call (run_fnR (us := []) (vs := []) F hr hx I .nil h))) hdb)⟩
theorem de_fnStar {x : Str} {k : Nat} {F : Sls → Mir → Rs DM.D} {p pos : Pos} {e : Expr} {es : List Expr} {g : Fa} (D : Fst X.prog X.w X.K X.mg X.base x k (spSt (gx X.K cn) F)) (hr : Room k X.A) (hx : PasC X E) (ha : DA X cn E (e :: es) g) (hg : Gl X x := by rfl)
    (hdb : (x == ("__debug__" : Str)) = false := by decide) (he : starEach (e :: es) X.env = (false, eval e X.env) :: starEach es X.env := by rfl) (hpl : (backTo pos (starEach es X.env)).any (·.1) = false := by rfl) : DE X cn E (.Call (.Name x p) (e :: es) [] pos) (fStar F g) := by
  obtain ⟨f, hm, hk, Fo⟩ := D.ex
  obtain ⟨e0, h0, hp⟩ := hx.ex
  refine PE.imp (pe_callR Fo hr hg hm hk hp ha hdb he hpl) fun σ H Q h => ?_
  have h2 := lift_star h
  rw [h0 σ] at h2
  exact h2
theorem de_fnStar0 {x : Str} {k : Nat} {F : Sls → Mir → Rs DM.D} {p pos : Pos} (D : Fst X.prog X.w X.K X.mg X.base x k (spSt (gx X.K cn) F)) (hr : Room k X.A) (hx : PasC X E) (hg : Gl X x := by rfl)
    (hdb : (x == ("__debug__" : Str)) = false := by decide) : DE X cn E (.Call (.Name x p) [] [] pos) (fStar F (fNil : Fa)) := by
  obtain ⟨f, hm, hk, Fo⟩ := D.ex
  obtain ⟨e0, h0, hp⟩ := hx.ex
  refine PE.imp (pe_callR0 Fo hr hg hm hk hp hdb) fun σ H Q h => ?_
  have h2 := lift_star h
  rw [h0 σ] at h2
  exact lift_nil h2

/-! ### by keywords alone -/
def perm {α : Type} (π : List Nat) (xs : List α) : List α := π.filterMap fun i => xs[i]?
theorem perm_vals (π : List Nat) {vs : List V} {us : List Value} (r : Vals vs us) : Vals (perm π vs) (perm π us) := by
  induction π with
  | nil => exact .nil
  | cons i π ih =>
    unfold perm at ih ⊢
    rw [List.filterMap_cons, List.filterMap_cons]
    cases h : vs[i]? with
    | none =>
      rw [Vals.none_of r h]
      exact ih
    | some v =>
      obtain ⟨u, h2, h3⟩ := Vals.get r h
      rw [h2]
      exact .cons h3 ih
theorem perm_rep {G : Gx} {H : Hp} (π : List Nat) {ds : List D} {vs : List V} (r : RepAll G H ds vs) : RepAll G H (perm π ds) (perm π vs) := by
  induction π with
  | nil => exact (rfl : ([] : List V) = [])
  | cons i π ih =>
    unfold perm at ih ⊢
    rw [List.filterMap_cons, List.filterMap_cons]
    cases h : vs[i]? with
    | none =>
      have : ds[i]? = none := by
        have h2 := RepAll.length r
        rw [List.getElem?_eq_none_iff] at h ⊢
        omega
      rw [this]
      exact ih
    | some v =>
      obtain ⟨d, h2, h3⟩ := RepAll.get r h
      rw [h2]
      exact ⟨v, _, rfl, h3, ih⟩
/-- how keywords alone bind -/
structure Kb (K : PySem.W.Frag) (mg : Str → Option Value) (x : Str) (ps ks : List Str) (π : List Nat) : Prop where
  ex : ∃ (f : Addr) (fd : FuncData), mg x = some (.ref f) ∧ (∃ (oc : Value) (od : Option Addr) (osl : Array (Option Value)), K.lookup f = some ⟨oc, od, .func fd, osl⟩) ∧
    ∀ (s : Shared) (ws : List Value), ws.length = ks.length → BindsTo s fd ⟨[], ks.zip ws⟩ (ps.zip (perm π ws))
theorem kb_of {K : PySem.W.Frag} {mg : Str → Option Value} {x : Str} {st : Stmt} {ps ks : List Str} (D : Df K mg x st ps) (π : List Nat)
    (h : ∀ (kV doc pm : Value) (an : Option Addr) (cdv ct : Value) (ws : List Value), ws.length = ks.length → bindArgs (PySem.W.fnOf x x (defArgs st) (defBody st) (defScope st) .none kV doc pm an cdv ct) ⟨[], ks.zip ws⟩ = pure (ps.zip (perm π ws))) : Kb K mg x ps ks π := by
  obtain ⟨f, fd, hm, F, b⟩ := D.ex
  refine ⟨f, fd, hm, Fun_lk F, fun s ws hl => ?_⟩
  obtain ⟨oc, od, kV, doc, pm, an, cdv, ct, osl, rfl, lk, hcd⟩ := F.ex
  exact .of_eq (h kV doc pm an cdv ct ws hl)
def fKw (n : Nat) (π : List Nat) (F : Sls → Mir → Rs D) (g : Fa) : Fe := fun δ m => (g δ m).bind fun ys m1 => if (perm π ys).length = n then F ((perm π ys).map .dat) m1 else .bad
/-- how many values a list of arguments gives -/
def GL (n : Nat) (g : Fa) : Prop := ∀ δ m ys m1, g δ m = .ok ys m1 → ys.length = n
theorem gl_nil : GL 0 (fNil : Fa) := fun δ m ys m1 h => by
  unfold fNil at h
  cases h; rfl
theorem gl_cons {n : Nat} {f : Fe} {g : Fa} (h : GL n g) : GL (n + 1) (fCons f g) := fun δ m ys m1 e => by
  unfold fCons at e
  cases h1 : f δ m with
  | bad => rw [h1] at e; cases e
  | exc x m2 => rw [h1] at e; cases e
  | ok x m2 =>
    rw [h1] at e
    simp only [Rs.bind] at e
    cases h2 : g δ m2 with
    | bad => rw [h2] at e; cases e
    | exc x m3 => rw [h2] at e; cases e
    | ok xs m3 =>
      rw [h2] at e
      simp only at e
      cases e
      rw [List.length_cons, h _ _ _ _ h2]
theorem lift_kw {G : Gx} {σ : L2.St} {H : Hp} {Q : VK} {n l : Nat} {π : List Nat} {F : Sls → Mir → Rs D} {g : Fa} (hgl : GL l g) (h : tD G E (fKw n π F g) σ H Q) : tDA G E g σ H fun zs H2 => zs.length = l ∧ spD G n F (perm π zs) H2 Q (E σ) := by
  obtain ⟨w, δ, m, at0, p⟩ := h
  unfold fKw at p
  refine ⟨w, δ, m, at0, ?_⟩
  cases hf : g δ m with
  | bad => rw [hf] at p; exact p
  | exc x m1 => rw [hf] at p; exact p
  | ok ys m1 =>
    rw [hf] at p
    intro π1 vs H1 s1 rx
    simp only [Rs.bind] at p
    by_cases hn : (perm π ys).length = n
    · rw [if_pos hn] at p
      have rp := perm_rep π rx
      exact ⟨by rw [RepAll.length rx, hgl δ m ys m1 hf], by rw [RepAll.length rp]; exact hn, π1, _, m1, (at_dats (at0.step s1) rp).j0, (Post.from_ s1 p).j0⟩
    · rw [if_neg hn] at p
      exact False.elim p
theorem de_fnKw {x : Str} {ps ks : List Str} {π : List Nat} {k n : Nat} {F : Sls → Mir → Rs DM.D} {p pos : Pos} {kws : List Keyword} {g : Fa} (D : Fd X.prog X.w X.K X.mg X.base x ps k (spD (gx X.K cn) n F)) (B : Kb X.K X.mg x ps ks π) (hr : Room k X.A) (hx : PasC X E) (ha : DK X cn E kws g)
    (hl : ks.length = kws.length := by rfl) (hg : Gl X x := by rfl) (hall : (backToKw pos (keywordEach kws X.env)).all (·.1.isSome) = true := by rfl) (hks : (backToKw pos (keywordEach kws X.env)).filterMap (·.1) = ks := by rfl) (hdb : (x == ("__debug__" : Str)) = false := by decide)
    (hpl : ((backTo pos (starEach [] X.env)).any (·.1) || (backToKw pos (keywordEach kws X.env)).any (·.1.isNone)) = false := by rfl) (hgl : GL ks.length g := by repeat (first | exact gl_nil | refine gl_cons ?_)) :
    DE X cn E (.Call (.Name x p) [] kws pos) (fKw n π F g) := by
  obtain ⟨f, fd, hm, hk, hb, Fo, oc, od, osl, lk⟩ := D.ex
  obtain ⟨f', fd', hm', ⟨oc', od', osl', lk'⟩, bn⟩ := B.ex
  rw [hm] at hm'
  cases hm'
  rw [lk] at lk'
  cases lk'
  refine ⟨fun pins s σ H Q I h => ?_⟩
  have core := lift_kw hgl h
  obtain ⟨e0, h0, hp⟩ := hx.ex
  rw [h0 σ] at core
  refine wpAny_Call_Name_kw (ld_glob I hg hm ?_ hdb)
  refine PySem.W.callWith_KW0 (h₀ := X.base) I.ok.mod.kin hk hall (L2.thn (ha.run pos pins s σ H _ I core) fun ws s2 ⟨zs, H2, I2, rz, l1, q2⟩ => ⟨I2.kIn, ?_⟩) hpl
  rw [hks]
  refine wpAny_call (codeAny_mono (Fo.run X.A X.stack s2 H2 ⟨[], ks.zip ws⟩ (perm π ws) (perm π zs) Q e0 hr I2.env0 (bn s2 ws (rz.length.symm.trans l1)) (perm_vals π rz) q2) fun r s' hq => ?_)
  cases r with
  | error e => exact hp pins σ H2 s2 e s' I2 hq
  | ok fl =>
    cases fl with
    | ret u => exact I2.after hq
    | next => exact False.elim hq
    | brk => exact False.elim hq
    | cont => exact False.elim hq
end
/-! ### a star def as the top leaves it -/
structure DfS (K : PySem.W.Frag) (mg : Str → Option Value) (x : Str) (st : Stmt) (pv : Str) : Prop where
  ex : ∃ (f : Addr) (fd : FuncData), mg x = some (.ref f) ∧ Fun K x x st f fd ∧ ∀ (kV doc pm : Value) (an : Option Addr) (cdv ct : Value) (rest : List Value),
    bindArgs (PySem.W.fnOf x x (defArgs st) (defBody st) (defScope st) .none kV doc pm an cdv ct) ⟨rest, []⟩ = (newTuple rest >>= fun t => pure [(pv, t)])
section
variable {P : Program} {w : World} {K : PySem.W.Frag} {mg : Str → Option Value} {base : Heap}
end
end DM

/-! isinstance of data, methods of texts, zip, defs that call themselves. -/
namespace DM
open PySem PySem.Spec PyProof.Rows L2

/-! ### isinstance -/
def tyD : D → String
  | .non => "NoneType"
  | .bl _ => "bool"
  | .int _ => "int"
  | .str _ => "str"
  | .lst _ => "list"
  | .tup _ => "tuple"
  | _ => "object"
def isTy (a b : String) : Bool := a == b || (b == "int" && a == "bool")
def D.plain : D → Bool
  | .ins _ _ _ => false
  | .dK _ _ => false
  | .dT _ _ => false
  | .ref _ => false
  | .lam _ => false
  | .tbl _ => false
  | _ => true
def fIs (Ts : List String) (f : Fe) : Fe := fun δ m => (f δ m).bind fun x m1 => match view m1 x with
  | some y => if y.plain = true then .ok (.bl (Ts.any (isTy (tyD y)))) m1 else .bad
  | none => .bad
theorem tyx_of {G : Gx} {H : Hp} {hd : Addr → Bool} {d : D} {v : V} (hp : d.plain = true) (r : RepT G H (hid hd H) d v) : TyX G.K H v (.type (tyD d)) := by
  cases d with
  | non => cases r; exact .base .non
  | bl b => cases r; exact .base (.bl b)
  | int i => cases r; exact .base (.int i)
  | str z => cases r.1; exact .base (.str z)
  | lst ds =>
    obtain ⟨a, xs, rfl, h, _⟩ := r
    exact .base (.lst h)
  | tup ds =>
    obtain ⟨a, xs, rfl, h, _⟩ := r
    rcases Same.sqT hid_self h with (h | ⟨o, h⟩) | ⟨o, its, n, hk, hc, _⟩
    · exact .base (.tup h)
    · exact .fTuple h
    · exact .kTuple hk hc
  | ins c ns ds => cases hp
  | dK ks ds => cases hp
  | dT ks ds => cases hp
  | ref n => cases hp
  | lam n => cases hp
  | tbl n => cases hp
theorem kitB_of {d : D} (hp : d.plain = true) {T : String} (hT : T = "bool" ∨ T = "int" ∨ T = "str" ∨ T = "list" ∨ T = "tuple") : kitB (tyD d) T = some (isTy (tyD d) T) := by
  cases d <;> (try cases hp) <;> rcases hT with rfl | rfl | rfl | rfl | rfl <;> (simp only [tyD]; decide +kernel)
section
 variable {X : Cx} {cn : Cn} {E : XKS}
theorem de_isi {T : String} {x y : Str} {p p2 pos : Pos} {e : Expr} {f : Fe} (hg : Gl X x) (hm : X.mg x = none) (hv : bootBuiltins x = some (.builtin "isinstance")) (hgT : Gl X y) (hmT : X.mg y = none) (hvT : bootBuiltins y = some (.type T)) (hT : T = "bool" ∨ T = "int" ∨ T = "str" ∨ T = "list" ∨ T = "tuple") (he : DE X cn E e f)
    (hn : x ≠ "__name__" := by decide) (hdb : (x == ("__debug__" : Str)) = false := by decide) (hnT : y ≠ "__name__" := by decide) (hdbT : (y == ("__debug__" : Str)) = false := by decide)
    (hs1 : starEach [.Name y p2] X.env = (false, eval (.Name y p2) X.env) :: starEach [] X.env := by rfl) (hs : starEach [e, .Name y p2] X.env = (false, eval e X.env) :: starEach [.Name y p2] X.env := by rfl) (hpl : (backTo pos (starEach [.Name y p2] X.env)).any (·.1) = false := by rfl) :
    DE X cn E (.Call (.Name x p) [e, .Name y p2] [] pos) (fIs [T] f) := by
  refine PE.imp (pe_callB call_isi hg hm hv (pa_cons he (pa_cons (pe_bltn hgT hmT hvT (show RelV (.ty T) (.type T) from rfl) hnT hdbT) pa_nil hs1) hs) hn hdb hs hpl) fun σ H Q h => ?_
  obtain ⟨π, δ, m, at0, p⟩ := h
  refine (show tD _ E f σ H _ from ⟨π, δ, m, at0, ?_⟩)
  unfold fIs at p
  cases hf : f δ m with
  | bad => rw [hf] at p; exact p
  | exc x m1 => rw [hf] at p; exact p
  | ok d0 m1 =>
    rw [hf] at p
    intro π1 v H1 s1 rx0
    simp only [Rs.bind] at p
    cases v1 : view m1 d0 with
    | none => rw [v1] at p; exact False.elim p
    | some d =>
    have rx := view_rep s1.ok rx0 v1
    rw [v1] at p
    simp only at p
    by_cases hp : d.plain = true
    · rw [if_pos hp] at p
      refine ⟨v, .ty T, _, _, isTy (tyD d) T, rfl, .ty T, tyx_of hp rx, kit_ty (kitB_of hp hT), ?_⟩
      refine p _ _ H1 s1 ?_
      show V.bl _ = V.bl _
      simp
    · rw [if_neg hp] at p; exact False.elim p
theorem de_isi2 {T U : String} {x y z : Str} {p p2 p3 tpos pos : Pos} {k : Nat} {e : Expr} {f : Fe} (hg : Gl X x) (hm : X.mg x = none) (hv : bootBuiltins x = some (.builtin "isinstance")) (hgT : Gl X y) (hmT : X.mg y = none) (hvT : bootBuiltins y = some (.type T)) (hT : T = "bool" ∨ T = "int" ∨ T = "str" ∨ T = "list" ∨ T = "tuple")
    (hgU : Gl X z) (hmU : X.mg z = none) (hvU : bootBuiltins z = some (.type U)) (hU : U = "bool" ∨ U = "int" ∨ U = "str" ∨ U = "list" ∨ U = "tuple") (he : DE X cn E e f)
    (hn : x ≠ "__name__" := by decide) (hdb : (x == ("__debug__" : Str)) = false := by decide) (hnT : y ≠ "__name__" := by decide) (hdbT : (y == ("__debug__" : Str)) = false := by decide) (hnU : z ≠ "__name__" := by decide) (hdbU : (z == ("__debug__" : Str)) = false := by decide)
    (ht1 : starEach [.Name z p3] X.env = (false, eval (.Name z p3) X.env) :: starEach [] X.env := by rfl) (ht2 : starEach [.Name y p2, .Name z p3] X.env = (false, eval (.Name y p2) X.env) :: starEach [.Name z p3] X.env := by rfl)
    (hs1 : starEach [.Tuple [.Name y p2, .Name z p3] k tpos] X.env = (false, eval (.Tuple [.Name y p2, .Name z p3] k tpos) X.env) :: starEach [] X.env := by rfl) (hs : starEach [e, .Tuple [.Name y p2, .Name z p3] k tpos] X.env = (false, eval e X.env) :: starEach [.Tuple [.Name y p2, .Name z p3] k tpos] X.env := by rfl) (hpl : (backTo pos (starEach [.Tuple [.Name y p2, .Name z p3] k tpos] X.env)).any (·.1) = false := by rfl) :
    DE X cn E (.Call (.Name x p) [e, .Tuple [.Name y p2, .Name z p3] k tpos] [] pos) (fIs [T, U] f) := by
  refine PE.imp (pe_callB call_isiT hg hm hv (pa_cons he (pa_cons (pe_tup (pa_cons (pe_bltn hgT hmT hvT (show RelV (.ty T) (.type T) from rfl) hnT hdbT) (pa_cons (pe_bltn hgU hmU hvU (show RelV (.ty U) (.type U) from rfl) hnU hdbU) pa_nil ht1) ht2)) pa_nil hs1) hs) hn hdb hs hpl) fun σ H Q h => ?_
  obtain ⟨π, δ, m, at0, p⟩ := h
  refine (show tD _ E f σ H _ from ⟨π, δ, m, at0, ?_⟩)
  unfold fIs at p
  cases hf : f δ m with
  | bad => rw [hf] at p; exact p
  | exc x m1 => rw [hf] at p; exact p
  | ok d0 m1 =>
    rw [hf] at p
    intro π1 v H1 s1 rx0
    simp only [Rs.bind] at p
    cases v1 : view m1 d0 with
    | none => rw [v1] at p; exact False.elim p
    | some d =>
    have rx := view_rep s1.ok rx0 v1
    rw [v1] at p
    simp only at p
    by_cases hp : d.plain = true
    · rw [if_pos hp] at p
      refine ⟨by show 2 ≤ sizeLine; decide, fun t ht => ?_⟩
      have sm : Same H1 (upd H1 t (.tup [.ty T, .ty U])) := fun a o ha => by rw [upd_ne (fun e => by subst e; rw [ht] at ha; cases ha)]; exact ha
      have a1 := at0.step s1
      have rx2 := view_rep (s1.new sm).ok ((Ex.of (π := π1) (m := m1) sm).rep d0 rx0) v1
      refine ⟨v, t, [.ty T, .ty U], _, [.type T, .type U], [T, U].any (isTy (tyD d)), rfl, upd_same, .cons (.ty T) (.cons (.ty U) .nil), tyx_of hp rx2, ?_, ?_⟩
      · refine kitAny_cons (kit_ty (kitB_of hp hT)) (fun h1 => ?_) (fun h1 => by simp [h1])
        refine kitAny_cons (kit_ty (kitB_of hp hU)) (fun h2 => ?_) (fun h2 => by simp [h2])
        simp [h1, h2, PySem.W.kitAny]
      · exact post_of s1 p sm rfl
    · rw [if_neg hp] at p; exact False.elim p

/-! ### a text's method of one argument -/
def fS2 (o : Str → D → Option D) (f g : Fe) : Fe := fun δ m => (f δ m).bind fun x m1 => match x with
  | .str z => (g δ m1).bind fun y m2 => ofO m2 ((view m2 y).bind (o z))
  | _ => .bad
theorem lift_s2 {G : Gx} {σ : L2.St} {H : Hp} {Q : VK} {r : V → List V → Hp → VK → Prop} {o : Str → D → Option D} {f g : Fe}
    (hr : RD2 G (fun x y H Q => r x [y] H Q) (fun x y => match x with | .str z => o z y | _ => none)) (h : tD G E (fS2 o f g) σ H Q) : tM1 r (tD G E f) (tD G E g) σ H Q := by
  obtain ⟨π, δ, m, at0, p⟩ := h
  refine ⟨π, δ, m, at0, ?_⟩
  unfold fS2 at p
  cases hf : f δ m with
  | bad => rw [hf] at p; exact p
  | exc x m1 => rw [hf] at p; exact p
  | ok x m1 =>
    rw [hf] at p
    intro π1 v H1 s1 rx
    have a1 := at0.step s1
    simp only [Rs.bind] at p
    match x, p, rx with
    | .str z, p, rx =>
      replace p := Post.from_ s1 p
      refine ⟨⟨z, rx.1⟩, π1, δ, m1, a1, ?_⟩
      simp only at p
      cases hg : g δ m1 with
      | bad => rw [hg] at p; exact p
      | exc x2 m2 => rw [hg] at p; exact p
      | ok y m2 =>
        rw [hg] at p
        intro π2 u H2 s2 ry
        have a2 := a1.step s2
        simp only at p
        cases ho : (view m2 y).bind (o z) with
        | none => rw [ho] at p; exact False.elim p
        | some d =>
          rw [ho] at p
          obtain ⟨y2, v1, ho⟩ := Option.bind_eq_some_iff.mp ho
          exact hr π2 _ H2 (.str z) y2 d v u Q a2.new (Rep.top (s2.ex.rep (.str z) rx)) (view_rep s2.ok ry v1) ho fun w H3 e rw_ => post_of s2 p e rw_
def oIndex (a : Str) : D → Option D
  | .str b => match Builtin.Str.occurrences a b 0 a.length 1 with
    | i :: _ => some (.int (i : Nat))
    | [] => none
  | _ => none
theorem de_index {o e : Expr} {apos pos : Pos} {f g : Fe} (ho : DE X cn E o f) (he : DE X cn E e g) (hs : starEach [e] X.env = [(false, eval e X.env)] := by rfl) (hbase : attributeBase o "index" X.env (eval o X.env) = eval o X.env := by rfl) (hline : (apos.endLine == pos.line) = true := by rfl) :
    DE X cn E (.Call (.Attribute o "index" apos) [e] [] pos) (fS2 oIndex f g) := by
  refine PE.imp (pe_m1 PySem.F.slot_str_index PySem.F.type_str_index mt_sindex ho he hs hbase hline) fun σ H Q h => lift_s2 ?_ h
  intro π hd H x y d v u Q hn rx ry ho k
  cases x with
  | str a =>
    obtain ⟨rfl, _⟩ := rx
    cases y with
    | str b =>
      obtain ⟨rfl, _⟩ := ry
      simp only [oIndex] at ho
      cases hq : Builtin.Str.occurrences a b 0 a.length 1 with
      | nil => rw [hq] at ho; cases ho
      | cons i rest =>
        rw [hq] at ho
        cases ho
        exact ⟨a, b, i, rest, rfl, rfl, hq, k _ H (Same.refl _) rfl⟩
    | _ => cases ho
  | _ => cases ho

/-! ### zip -/
def zipD : List D → List D → List D
  | x :: xs, y :: ys => .tup [x, y] :: zipD xs ys
  | _, _ => []
theorem zipD_len : ∀ (xs ys : List D), (zipD xs ys).length = min xs.length ys.length
  | x :: xs, y :: ys => by simp only [zipD, List.length_cons, zipD_len xs ys]; omega
  | [], ys => by simp [zipD]
  | x :: xs, [] => by simp [zipD]
theorem zipD_get : ∀ (xs ys : List D) (i : Nat) (x y : D), xs[i]? = some x → ys[i]? = some y → (zipD xs ys)[i]? = some (.tup [x, y])
  | a :: xs, b :: ys, 0, x, y, h1, h2 => by
    cases h1; cases h2; rfl
  | a :: xs, b :: ys, i + 1, x, y, h1, h2 => zipD_get xs ys i x y h1 h2
  | [], ys, i, x, y, h1, h2 => by cases h1
  | a :: xs, [], i, x, y, h1, h2 => by cases h2
def fZip (g : Fa) : Fi := fun δ m => (g δ m).bind fun xs m1 => match xs with
  | [.lst a, .lst b] => .ok (zipD a b, none) m1
  | [.tup a, .tup b] => .ok (zipD a b, none) m1
  | _ => .bad
theorem walk_zipT {K : PySem.W.Frag} {a b : Addr} {us ws : List V} {n : Nat} (hn : n = min us.length ws.length) : Walk (RZ.ItzT K a b) n (fun H => SqT K H a us ∧ SqT K H b ws) (YPair (fun i => us[i]?) (fun i => ws[i]?)) where
  goes k H hk st := by
    have hu : k < us.length := Nat.lt_of_lt_of_le (hn ▸ hk) (Nat.min_le_left ..)
    have hw : k < ws.length := Nat.lt_of_lt_of_le (hn ▸ hk) (Nat.min_le_right ..)
    exact ⟨us, ws, us[k]'hu, ws[k]'hw, st.1, st.2, List.getElem?_eq_getElem hu, List.getElem?_eq_getElem hw⟩
  stops H st := by
    refine ⟨us, ws, st.1, st.2, ?_⟩
    rcases Nat.le_total us.length ws.length with le | le
    · exact .inl (by rw [hn, Nat.min_eq_left le]; exact Nat.le_refl _)
    · exact .inr (by rw [hn, Nat.min_eq_right le]; exact Nat.le_refl _)
  yields k H v H2 _ st pr := by
    obtain ⟨tp, l, r, ev, fresh, laid, ofU, ofW⟩ := pr
    exact ⟨tp, l, r, ev, fresh, laid, ofU us st.1, ofW ws st.2⟩
theorem pair_yield {G : Gx} {π π2 : Wv} (p2 : Wle π π2) {H2 H3 : Hp} {hd2 : Addr → Bool} {H : Hp} {hd : Addr → Bool} {ds es : List D} {xs ys : List V} {i : Nat} {x : V} (s : Same (hid hd H) (hid hd2 H2)) (f : ∀ p, H2 p = none → hd2 p = false) (rx : RepAll (G.at π) (hid hd H) ds xs) (ry : RepAll (G.at π) (hid hd H) es ys)
    (y : YPair (fun i => xs[i]?) (fun i => ys[i]?) i H2 x H3) : Same H2 H3 ∧ ∃ d, (zipD ds es)[i]? = some d ∧ Rep (G.at π2) (hid hd2 H3) d x := by
  obtain ⟨T, u, z, rfl, hT, rfl, hx, hy⟩ := y
  obtain ⟨d1, e1, r1⟩ := RepAll.get rx hx
  obtain ⟨d2, e2, r2⟩ := RepAll.get ry hy
  have sm : Same H2 (upd H2 T (.tup [u, z])) := fun a o ha => by rw [upd_ne (fun e => by subst e; rw [hT] at ha; cases ha)]; exact ha
  have hin : Same (hid hd2 H2) (hid hd2 (upd H2 T (.tup [u, z]))) := fun a o ha => hid_some.mpr ⟨(hid_some.mp ha).1, sm _ _ (hid_some.mp ha).2⟩
  refine ⟨sm, .tup [d1, d2], zipD_get ds es i d1 d2 e1 e2, ?_⟩
  exact ⟨T, [u, z], rfl, .inl (.inl (hid_some.mpr ⟨f T hT, upd_same⟩)), ⟨u, [z], rfl, Rep.mono hin d1 (Rep.up p2 s d1 r1), ⟨z, [], rfl, Rep.mono hin d2 (Rep.up p2 s d2 r2), rfl⟩⟩⟩
theorem di_zip {e e2 : Expr} {g : Fa} {p pos tpos : Pos} {elts : List Expr} {kk : Nat} (hg : Gl X "zip") (hm : X.mg "zip" = none) (ha : DA X cn E [e, e2] g)
    (hs : starEach [e, e2] X.env = (false, eval e X.env) :: starEach [e2] X.env := by rfl) (hpl : (backTo pos (starEach [e2] X.env)).any (·.1) = false := by rfl) :
    DI X cn E (.Tuple elts kk tpos) (.Call (.Name "zip" p) [e, e2] [] pos) (fZip g) := by
  refine PI.imp (RZ.pi_zipA hg hm ha hs hpl) fun σ H R q => ?_
  obtain ⟨π, δ, m, a, p⟩ := q
  refine (show tDA _ E g σ H _ from ⟨π, δ, m, a, ?_⟩)
  unfold fZip at p
  cases hf : g δ m with
  | bad => rw [hf] at p; exact p
  | exc x m1 => rw [hf] at p; exact p
  | ok xs m1 =>
    rw [hf] at p
    intro π1 vs H1 s1 rv
    simp only [Rs.bind] at p
    have a1 := a.step s1
    match xs, p, rv with
    | [.lst x, .lst y], p, rv =>
      obtain ⟨v1, r', rfl, ⟨b1, us1, rfl, k1, q1⟩, ⟨v2, r'', rfl, ⟨b2, us2, rfl, k2, q2⟩, rfl⟩⟩ := rv
      have h1 := (hid_some.mp k1).2
      have h2 := (hid_some.mp k2).2
      refine ⟨b1, b2, us1, us2, rfl, .inl ⟨.inl (.inl h1), .inl (.inl h2), p _ _ H1 s1 ?_⟩⟩
      refine ⟨_, _, walk_zip (xs := us1) (ys := us2) (by rw [zipD_len, RepAll.length q1, RepAll.length q2]), fun π2 m2 H2 k _ _ => ?_, fun i H2 x H3 π2 m2 hi p2 s k _ y => pair_yield (π2 := π2) p2 s (fun _ hp => k.fresh hp) q1 q2 y⟩
      exact ⟨.inl (.inl (hid_some.mp (k.same _ _ k1)).2), .inl (.inl (hid_some.mp (k.same _ _ k2)).2)⟩
    | [.tup x, .tup y], p, rv =>
      obtain ⟨v1, r', rfl, ⟨b1, us1, rfl, k1, q1⟩, ⟨v2, r'', rfl, ⟨b2, us2, rfl, k2, q2⟩, rfl⟩⟩ := rv
      refine ⟨b1, b2, us1, us2, rfl, .inr ⟨Same.sqT hid_self k1, Same.sqT hid_self k2, p _ _ H1 s1 ?_⟩⟩
      refine ⟨_, _, walk_zipT (us := us1) (ws := us2) (by rw [zipD_len, RepAll.length q1, RepAll.length q2]), fun π2 m2 H2 k _ _ => ?_, fun i H2 x H3 π2 m2 hi p2 s k _ y => pair_yield (π2 := π2) p2 s (fun _ hp => k.fresh hp) q1 q2 y⟩
      exact ⟨Same.sqT hid_self (Same.sqT k.same k1), Same.sqT hid_self (Same.sqT k.same k2)⟩

/-! ### a def that calls itself -/
theorem ds_bad {ss : List Stmt} : DSs X cn E ss (fun _ _ => .bad) := ⟨fun pins s σ H Dn I h => by
  obtain ⟨π, δ, m, at0, p⟩ := h
  exact False.elim p⟩
end
section
variable {P : Program} {w : World} {K : PySem.W.Frag} {mg : Str → Option Value} {base : Heap}
theorem Df.bad {x : Str} {st : Stmt} {N ps : List Str} {k : Nat} {cn : Str → Addr} (D : Df K mg x st ps) (S : FnScope N ps (defScope st)) :
    Fd P w K mg base x ps (k + 1) (spD (gx K (c0 cn)) ps.length (fun _ _ => .bad)) := by
  have h := Df.fd (P := P) (w := w) (base := base) (N := N) (k := k) (g := fun _ _ => .bad) (cn := cn) D S (fun f cdv A outer s H E hr => ds_bad)
  exact Fd.to h fun as m hl => .inl rfl
end
end DM

/-! Slices, join, reversed slices, f-strings, enumerate, max and min of two. -/
namespace DM
open PySem PySem.Spec PyProof.Rows L2

/-! ### slices -/
section
def partS (lo : Option (Fe)) : Sls → Mir → Rs (Option Int) := fun δ m => match lo with
  | none => .ok none m
  | some f => (f δ m).bind fun d m1 => match d with
    | .int i => .ok (some i) m1
    | _ => .bad
def cutD (ds : List D) (lo hi : Option Int) : List D := (ds.drop (HT.sIx ds.length 0 lo)).take (HT.sIx ds.length ds.length hi - HT.sIx ds.length 0 lo)
def oSl : D → Option Int → Option Int → Option D
  | .lst ds, lo, hi => some (.lst (cutD ds lo hi))
  | .tup ds, lo, hi => some (.tup (cutD ds lo hi))
  | .str z, lo, hi => if (cutS z lo hi).length ≤ sizeLine then some (.str (cutS z lo hi)) else none
  | _, _, _ => none
def fSl (f : Fe) (lo hi : Option (Fe)) : Fe := fun δ m => (f δ m).bind fun x m1 => (partS lo δ m1).bind fun a m2 => (partS hi δ m2).bind fun b m3 => ofO m3 ((view m3 x).bind fun y => oSl y a b)
def tPt (G : Gx) (E : XKS) (lo : Option (Fe)) : TO := fun σ H Q => ∃ π δ m, At G π σ H δ m ∧ (match partS lo δ m with
  | .ok a m1 => ∀ π2 H2, Go G π m H π2 m1 H2 → Q a H2
  | .exc x m1 => ∀ π2 cls dd H2, Go G π m H π2 m1 H2 → ExcOk (G.at π2) (hid (lv π2 m1) H2) x cls dd → E σ cls dd H2
  | .bad => False)
variable {X : Cx} {cn : Cn} {E : XKS}
theorem po_non : PO X none (tPt (gx X.K cn) E (none : Option (Fe))) := ⟨fun pins s σ H Q I h => po_none.run pins s σ H Q I (by
  obtain ⟨π, δ, m, a, p⟩ := h
  exact p _ H a.go)⟩
theorem po_int {e : Expr} {f : Fe} (he : DE X cn E e f) : PO X (some e) (tPt (gx X.K cn) E (some f)) := ⟨fun pins s σ H Q I h => (po_some he).run pins s σ H Q I (by
  obtain ⟨π, δ, m, a, p⟩ := h
  refine (show tD _ E f σ H _ from ⟨π, δ, m, a, ?_⟩)
  simp only [partS] at p
  cases hf : f δ m with
  | bad => rw [hf] at p; exact p
  | exc x m1 => rw [hf] at p; exact p
  | ok d m1 =>
    rw [hf] at p
    intro π2 v H2 s rv
    cases d with
    | int i =>
      obtain rfl : v = .int i := rv
      exact ⟨i, rfl, p π2 H2 s⟩
    | _ => exact False.elim p)⟩
theorem RepAll.cut {G : Gx} {H : Hp} {ds : List D} {xs : List V} (r : RepAll G H ds xs) (lo hi : Option Int) : RepAll G H (cutD ds lo hi) (cutV xs lo hi) := by
  unfold cutD cutV
  rw [RepAll.length r]
  exact RepAll.take _ (RepAll.drop _ r)
theorem de_slice {e : Expr} {lo hi : Option Expr} {p2 pos : Pos} {f : Fe} {a b : Option (Fe)} (he : DE X cn E e f) (hl : PO X lo (tPt (gx X.K cn) E a)) (hu : PO X hi (tPt (gx X.K cn) E b)) :
    DE X cn E (.Subscript e (.Slice lo hi none p2) pos) (fSl f a b) := by
  refine PE.imp (pe_slice (sl_list.or (sl_tupA.or sl_str)) he hl hu) fun σ H Q h => ?_
  obtain ⟨π, δ, m, at0, p⟩ := h
  refine (show tD _ E f σ H _ from ⟨π, δ, m, at0, ?_⟩)
  unfold fSl at p
  cases hf : f δ m with
  | bad => rw [hf] at p; exact p
  | exc x m1 => rw [hf] at p; exact p
  | ok x m1 =>
    rw [hf] at p
    intro π1 v H1 s1 rx
    have a1 := at0.step s1
    simp only [Rs.bind] at p
    replace p := Post.from_ s1 p
    refine ⟨π1, δ, m1, a1, ?_⟩
    cases ha : partS a δ m1 with
    | bad => rw [ha] at p; exact p
    | exc x2 m2 => rw [ha] at p; exact p
    | ok i m2 =>
      rw [ha] at p
      intro π2 H2 s2
      have a2 := a1.step s2
      simp only at p
      replace p := Post.from_ s2 p
      refine ⟨π2, δ, m2, a2, ?_⟩
      cases hb' : partS b δ m2 with
      | bad => rw [hb'] at p; exact p
      | exc x3 m3 => rw [hb'] at p; exact p
      | ok j m3 =>
        rw [hb'] at p
        intro π3 H3 s3
        have a3 := a2.step s3
        simp only at p
        cases vx : view m3 x with
        | none => rw [vx] at p; exact False.elim p
        | some y =>
        rw [vx] at p
        have rx3 := view_rep s3.ok (s3.ex.rep x (s2.ex.rep x rx)) vx
        simp only [Option.bind_some] at p
        cases y with
        | lst ds =>
          obtain ⟨q, xs, rfl, h1, h2⟩ := rx3
          refine .inl ⟨q, xs, rfl, .inl (.inl h1), fun l hl => post_of s3 p (same_new hl) (rep_lst hl (a3.new l hl) (RepAll.cut h2 i j))⟩
        | tup ds =>
          obtain ⟨q, xs, rfl, h1, h2⟩ := rx3
          refine .inr (.inl ⟨q, xs, rfl, Same.sqT hid_self h1, fun z => ?_, fun _ l hl => post_of s3 p (same_new hl) (rep_tup hl (a3.new l hl) (RepAll.cut h2 i j))⟩)
          refine post_of s3 p (Same.refl H3) ?_
          have : cutD ds i j = ds := by
            unfold cutD
            rw [RepAll.length h2] at z
            rw [z.1, z.2, List.drop_zero, Nat.sub_zero, List.take_length]
          show Rep _ _ (.tup (cutD ds i j)) _
          rw [this]
          exact ⟨q, xs, rfl, h1, h2⟩
        | str z =>
          obtain ⟨rfl, hz⟩ := rx3
          simp only [oSl] at p
          by_cases hl : (cutS z i j).length ≤ sizeLine
          · rw [if_pos hl] at p
            exact .inr (.inr ⟨z, rfl, hz, post_of s3 p (Same.refl H3) ⟨rfl, hl⟩⟩)
          · rw [if_neg hl] at p; exact False.elim p
        | _ => exact False.elim p
/-- xs[::-1] -/
def oRev : D → Option D
  | .lst ds => some (.lst ds.reverse)
  | _ => none
theorem RepAll.reverse {G : Gx} {H : Hp} : ∀ {ds : List D} {xs : List V}, RepAll G H ds xs → RepAll G H ds.reverse xs.reverse
  | [], _, h => by
    obtain rfl : _ = [] := h
    exact (rfl : ([] : List V) = [])
  | d :: ds, _, ⟨v, r, h1, h2, h3⟩ => by
    subst h1
    rw [List.reverse_cons, List.reverse_cons]
    exact RepAll.append (RepAll.reverse h3) (RepAll.one h2)
theorem de_rev {e : Expr} {k : Nat} {p1 p2 p3 pos : Pos} {f : Fe} (he : DE X cn E e f) : DE X cn E (.Subscript e (.Slice none none (some (.UnaryOp .USub (.Constant (.int 1) k p1) p2)) p3) pos) (f1 oRev f) := by
  refine PE.imp (pe_revL he) fun σ H Q h => ?_
  obtain ⟨π, δ, m, at0, p⟩ := h
  refine (show tD _ E f σ H _ from ⟨π, δ, m, at0, ?_⟩)
  unfold f1 at p
  cases hf : f δ m with
  | bad => rw [hf] at p; exact p
  | exc x m1 => rw [hf] at p; exact p
  | ok x m1 =>
    rw [hf] at p
    intro π1 v H1 s1 rx
    have a1 := at0.step s1
    simp only [Rs.bind] at p
    cases vx : view m1 x with
    | none => rw [vx] at p; exact False.elim p
    | some y =>
    rw [vx] at p
    replace rx := view_rep s1.ok rx vx
    simp only [Option.bind_some] at p
    cases y with
    | lst ds =>
      obtain ⟨q, xs, rfl, h1, h2⟩ := rx
      exact ⟨q, xs, rfl, .inl (.inl h1), fun l hl => post_of s1 p (same_new hl) (rep_lst hl (a1.new l hl) (RepAll.reverse h2))⟩
    | _ => exact False.elim p

/-! ### join -/
def textsOf : List D → Option (List Str)
  | [] => some []
  | d :: ds => match d with
    | .str x => (textsOf ds).map fun xs => x :: xs
    | _ => none
theorem rep_texts {G : Gx} {H : Hp} : ∀ {ds : List D} {xs : List V} {ys : List Str}, RepAll G H ds xs → textsOf ds = some ys → xs = ys.map V.str
  | [], _, _, h, e => by
    obtain rfl : _ = [] := h
    cases e; rfl
  | d :: ds, _, ys, ⟨v, r, h1, h2, h3⟩, e => by
    subst h1
    cases d with
    | str x =>
      simp only [textsOf] at e
      cases q : textsOf ds with
      | none => rw [q] at e; cases e
      | some zs =>
        rw [q] at e
        cases e
        obtain ⟨rfl, _⟩ := h2
        rw [rep_texts h3 q]; rfl
    | _ => simp only [textsOf] at e; cases e
def oJoin (a : Str) : D → Option D
  | .lst ds => (textsOf ds).bind fun ys => if (ys.map (·.length)).sum + ys.length * a.length ≤ 16777216 ∧ (Txt.join a ys).length ≤ sizeLine then some (.str (Txt.join a ys)) else none
  | .tup ds => (textsOf ds).bind fun ys => if (ys.map (·.length)).sum + ys.length * a.length ≤ 16777216 ∧ (Txt.join a ys).length ≤ sizeLine then some (.str (Txt.join a ys)) else none
  | _ => none
theorem de_join {o e : Expr} {apos pos : Pos} {f g : Fe} (ho : DE X cn E o f) (he : DE X cn E e g) (hs : starEach [e] X.env = [(false, eval e X.env)] := by rfl) (hbase : attributeBase o "join" X.env (eval o X.env) = eval o X.env := by rfl) (hline : (apos.endLine == pos.line) = true := by rfl) :
    DE X cn E (.Call (.Attribute o "join" apos) [e] [] pos) (fS2 oJoin f g) := by
  refine PE.imp (pe_join ho he hs hbase hline) fun σ H Q h => lift_s2 ?_ h
  intro π hd H x y d v u Q hn rx ry ho k
  cases x with
  | str a =>
    obtain ⟨rfl, _⟩ := rx
    cases y with
    | lst ds =>
      obtain ⟨q, xs, rfl, h1, h2⟩ := ry
      simp only [oJoin] at ho
      cases ht : textsOf ds with
      | none => rw [ht] at ho; cases ho
      | some ys =>
        rw [ht] at ho
        simp only [Option.bind_some] at ho
        split at ho
        · rename_i hl
          cases ho
          have e := rep_texts h2 ht
          subst e
          exact ⟨a, q, ys, rfl, rfl, .inl (.inl (.inl h1)), hl.1, k _ H (Same.refl _) ⟨rfl, hl.2⟩⟩
        · cases ho
    | tup ds =>
      obtain ⟨q, xs, rfl, h1, h2⟩ := ry
      simp only [oJoin] at ho
      cases ht : textsOf ds with
      | none => rw [ht] at ho; cases ho
      | some ys =>
        rw [ht] at ho
        simp only [Option.bind_some] at ho
        split at ho
        · rename_i hl
          cases ho
          have e := rep_texts h2 ht
          subst e
          exact ⟨a, q, ys, rfl, rfl, .inr (Same.sqT hid_self h1), hl.1, k _ H (Same.refl _) ⟨rfl, hl.2⟩⟩
        · cases ho
    | _ => cases ho
  | _ => cases ho

/-! ### max, min of two; str(int) -/
def int1 : D → Option Int
  | .int i => some i
  | _ => none
theorem int1_rep {G : Gx} {H Hh : Hp} {x : D} {i : Int} {v : V} (h : int1 x = some i) (r : RepT G H Hh x v) : v = .int i := by
  cases x <;> simp only [int1] at h <;> (try contradiction)
  cases h; exact r
def twoI (f : Int → Int → D) : List D → Option D
  | [x, y] => (int1 x).bind fun i => (int1 y).bind fun j => some (f i j)
  | _ => none
def oMax2 : List D → Option D := twoI fun i j => .int (if j > i then j else i)
def oMin2 : List D → Option D := twoI fun i j => .int (if j < i then j else i)
theorem two_ints {G : Gx} {H Hh : Hp} {xs : List D} {vs : List V} {d : D} {f : Int → Int → D} (rx : RepTs G H Hh xs vs) (ho : twoI f xs = some d) : ∃ i j, vs = [.int i, .int j] ∧ d = f i j := by
  cases xs with
  | nil => cases ho
  | cons x xs =>
    cases xs with
    | nil => cases ho
    | cons y xs =>
      cases xs with
      | cons z xs => cases ho
      | nil =>
        obtain ⟨v, r, e1, e2, ⟨v2, r2, e3, e4, e5⟩⟩ := rx
        simp only [twoI] at ho
        cases h1 : int1 x with
        | none => rw [h1] at ho; cases ho
        | some i =>
          rw [h1] at ho
          simp only [Option.bind_some] at ho
          cases h2 : int1 y with
          | none => rw [h2] at ho; cases ho
          | some j =>
            rw [h2] at ho
            cases ho
            rw [int1_rep h1 e2] at e1
            rw [int1_rep h2 e4] at e3
            obtain rfl : r2 = [] := e5
            subst e3; subst e1
            exact ⟨i, j, rfl, rfl⟩
theorem bf_max2 (hc : X.calm = true) : Bf X cn (.builtin "max") oMax2 := by
  refine ⟨_, call_max2 hc, ?_⟩
  intro π hd H xs d vs Q hn rx ho k
  obtain ⟨i, j, rfl, rfl⟩ := two_ints (f := fun i j => .int (if j > i then j else i)) rx ho
  exact ⟨i, j, rfl, k _ H (Same.refl _) rfl⟩
theorem bf_min2 (hc : X.calm = true) : Bf X cn (.builtin "min") oMin2 := by
  refine ⟨_, call_min2 hc, ?_⟩
  intro π hd H xs d vs Q hn rx ho k
  obtain ⟨i, j, rfl, rfl⟩ := two_ints (f := fun i j => .int (if j < i then j else i)) rx ho
  exact ⟨i, j, rfl, k _ H (Same.refl _) rfl⟩
def fmtD : D → Option D
  | .str z => some (.str z)
  | .int i => if i.natAbs.log2 < 1920 ∧ (toString i : Str).length ≤ sizeLine then some (.str (toString i)) else none
  | _ => none
def oStr : List D → Option D
  | [x] => fmtD x
  | _ => none
theorem bf_str : Bf X cn (.type "str") oStr := by
  refine ⟨_, CallR.or call_str_int SkE.call_str_str, ?_⟩
  intro π hd H xs d vs Q hn rx ho k
  cases xs with
  | nil => cases ho
  | cons x xs =>
    cases xs with
    | cons y xs => cases ho
    | nil =>
      obtain ⟨v, r, e1, e2, e3⟩ := rx
      obtain rfl : r = [] := e3
      subst e1
      simp only [oStr] at ho
      cases x with
      | int i =>
        obtain rfl : v = .int i := e2
        simp only [fmtD] at ho
        split at ho
        · rename_i hl
          cases ho
          exact .inl ⟨i, rfl, hl.1, k _ H (Same.refl _) ⟨rfl, hl.2⟩⟩
        · cases ho
      | str z =>
        obtain ⟨rfl, hz⟩ := e2
        cases ho
        exact .inr ⟨z, rfl, k _ H (Same.refl _) ⟨rfl, hz⟩⟩
      | _ => cases ho

/-! ### enumerate -/
def enumD : Nat → List D → List D
  | _, [] => []
  | n, d :: ds => .tup [.int n, d] :: enumD (n + 1) ds
theorem enumD_len : ∀ (ds : List D) (n : Nat), (enumD n ds).length = ds.length
  | [], n => rfl
  | d :: ds, n => by simp only [enumD, List.length_cons, enumD_len ds]
theorem enumD_get : ∀ (ds : List D) (n i : Nat) (d : D), ds[i]? = some d → (enumD n ds)[i]? = some (.tup [.int ((n + i : Nat) : Int), d])
  | [], n, i, d, h => by cases h
  | e :: ds, n, 0, d, h => by cases h; rfl
  | e :: ds, n, i + 1, d, h => by
    have := enumD_get ds (n + 1) i d h
    rw [show n + 1 + i = n + (i + 1) by omega] at this
    exact this
def fEnum (g : Fa) : Fi := fun δ m => (g δ m).bind fun xs m1 => match xs with
  | [.lst a] => .ok (enumD 0 a, none) m1
  | _ => .bad
theorem di_enum {e : Expr} {g : Fa} {p pos tpos : Pos} {elts : List Expr} {kk : Nat} (hg : Gl X "enumerate") (hm : X.mg "enumerate" = none) (ha : DA X cn E [e] g) (hs : starEach [e] X.env = [(false, eval e X.env)] := by rfl) :
    DI X cn E (.Tuple elts kk tpos) (.Call (.Name "enumerate" p) [e] [] pos) (fEnum g) := by
  refine PI.imp (pi_enum hg hm ha hs) fun σ H R q => ?_
  obtain ⟨π, δ, m, a, p⟩ := q
  refine (show tDA _ E g σ H _ from ⟨π, δ, m, a, ?_⟩)
  unfold fEnum at p
  cases hf : g δ m with
  | bad => rw [hf] at p; exact p
  | exc x m1 => rw [hf] at p; exact p
  | ok xs m1 =>
    rw [hf] at p
    intro π1 vs H1 s1 rv
    simp only [Rs.bind] at p
    match xs, p, rv with
    | [.lst x], p, rv =>
      obtain ⟨v1, r', rfl, ⟨b1, us1, rfl, k1, q1⟩, rfl⟩ := rv
      refine ⟨b1, us1, rfl, .inl (.inl (hid_some.mp k1).2), p _ _ H1 s1 ?_⟩
      refine ⟨_, _, by rw [enumD_len, ← RepAll.length q1]; exact walk_enum (xs := us1), fun π2 m2 H2 k _ _ => (show SqL X.K H2 b1 us1 from .inl (.inl (hid_some.mp (k.same _ _ k1)).2)), fun i H2 x' H3 π2 m2 hi p2 s k _ y => ?_⟩
      obtain ⟨T, u, z, rfl, hT, rfl, hx, hy⟩ := y
      cases hx
      obtain ⟨d2, e2, r2⟩ := RepAll.get q1 hy
      have sm : Same H2 (upd H2 T (.tup [.int (i : Nat), z])) := same_new hT
      have hin : Same (hid (lv π2 m2) H2) (hid (lv π2 m2) (upd H2 T (.tup [.int (i : Nat), z]))) := hid_same fun a o _ ha => sm a o ha
      refine ⟨sm, .tup [.int (i : Nat), d2], by rw [enumD_get x 0 i d2 e2, Nat.zero_add], ?_⟩
      exact ⟨T, [.int (i : Nat), z], rfl, .inl (.inl (hid_some.mpr ⟨k.fresh hT, upd_same⟩)), ⟨.int (i : Nat), [z], rfl, rfl, ⟨z, [], rfl, Rep.mono hin d2 (Rep.up p2 s d2 r2), rfl⟩⟩⟩

/-! ### f-strings -/
theorem de_fmt {e : Expr} {pos : Pos} {f : Fe} (he : DE X cn E e f) : DE X cn E (.FormattedValue e (-1) none pos) (f1 fmtD f) := by
  refine PE.imp (pe_fmt he) fun σ H Q h => ?_
  obtain ⟨π, δ, m, at0, p⟩ := h
  refine (show tD _ E f σ H _ from ⟨π, δ, m, at0, ?_⟩)
  unfold f1 at p
  cases hf : f δ m with
  | bad => rw [hf] at p; exact p
  | exc x m1 => rw [hf] at p; exact p
  | ok x m1 =>
    rw [hf] at p
    intro π1 v H1 s1 rx
    simp only [Rs.bind] at p
    cases vx : view m1 x with
    | none => rw [vx] at p; exact False.elim p
    | some y =>
    rw [vx] at p
    replace rx := view_rep s1.ok rx vx
    simp only [Option.bind_some] at p
    cases y with
    | str z =>
      obtain ⟨rfl, hz⟩ := rx
      exact .inl ⟨z, rfl, hz, post_of s1 p (Same.refl H1) ⟨rfl, hz⟩⟩
    | int i =>
      obtain rfl : v = .int i := rx
      simp only [fmtD] at p
      split at p
      · rename_i hl
        exact .inr ⟨i, rfl, hl.1, post_of s1 p (Same.refl H1) ⟨rfl, hl.2⟩⟩
      · exact False.elim p
    | _ => exact False.elim p
/-- the parts one behind the other -/
def fJs : List (Fe) → Str → Fe
  | [], acc => fun _ m => .ok (.str acc) m
  | f :: fs, acc => fun δ m => (f δ m).bind fun d m1 => match d with
    | .str y => if (acc ++ y).length ≤ sizeLine then fJs fs (acc ++ y) δ m1 else .bad
    | _ => .bad
theorem lift_js {G : Gx} {Q : Str → Hp → Prop} : ∀ (fs : List (Fe)) (acc : Str) (π : Wv) (σ : L2.St) (H : Hp) (δ : Sls) (m : Mir), acc.length ≤ sizeLine → At G π σ H δ m → Post G (E σ) π m H (fun v H2 => ∃ z, v = .str z ∧ Q z H2) (fJs fs acc δ m) →
    tJs (fs.map fun f => tD G E f) acc σ H Q
  | [], acc, π, σ, H, δ, m, ha, a, p => by
    obtain ⟨z, e, q⟩ := p π (.str acc) H a.go ⟨rfl, ha⟩
    cases e
    exact q
  | f :: fs, acc, π, σ, H, δ, m, ha, a, p => by
    show tD G E f σ H _
    refine ⟨π, δ, m, a, ?_⟩
    simp only [fJs] at p
    cases hf : f δ m with
    | bad => rw [hf] at p; exact p
    | exc x m1 => rw [hf] at p; exact p
    | ok d m1 =>
      rw [hf] at p
      intro π1 v H1 s1 rx
      simp only [Rs.bind] at p
      replace p := Post.from_ s1 p
      cases d with
      | str y =>
        obtain ⟨rfl, hy⟩ := rx
        simp only at p
        by_cases hl : (acc ++ y).length ≤ sizeLine
        · rw [if_pos hl] at p
          exact ⟨y, rfl, hl, lift_js fs (acc ++ y) π1 σ H1 δ m1 hl (a.step s1) p⟩
        · rw [if_neg hl] at p; exact False.elim p
      | _ => exact False.elim p
inductive DJ (X : Cx) (cn : Cn) (E : XKS) : List Expr → List (Fe) → Prop where
  | nil : DJ X cn E [] []
  | cons {e : Expr} {f : Fe} {es : List Expr} {fs : List (Fe)} : DE X cn E e f → DJ X cn E es fs → DJ X cn E (e :: es) (f :: fs)
theorem DJ.pj {es : List Expr} {fs : List (Fe)} (h : DJ X cn E es fs) : PJ X es (fs.map fun f => tD (gx X.K cn) E f) := by
  induction h with
  | nil => exact .nil
  | cons h _ ih => exact .cons h ih
theorem de_joined {v1 v2 : Expr} {rest : List Expr} {fs : List (Fe)} {pos : Pos} (h : DJ X cn E (v1 :: v2 :: rest) fs) : DE X cn E (.JoinedStr (v1 :: v2 :: rest) pos) (fJs fs Str.empty) := by
  refine PE.imp (pe_joined h.pj) fun σ H Q q => ?_
  obtain ⟨π, δ, m, a, p⟩ := q
  refine lift_js fs Str.empty π σ H δ m (Nat.zero_le _) a ?_
  cases hf : fJs fs Str.empty δ m with
  | bad => rw [hf] at p; exact p
  | exc x m1 => rw [hf] at p; exact p
  | ok d m1 =>
    rw [hf] at p
    have key : ∀ (fs : List (Fe)) (acc : Str) (m : Mir), acc.length ≤ sizeLine → fJs fs acc δ m = .ok d m1 → ∃ z, d = .str z ∧ z.length ≤ sizeLine := by
      intro fs
      induction fs with
      | nil =>
        intro acc m ha e
        simp only [fJs] at e
        cases e
        exact ⟨acc, rfl, ha⟩
      | cons f fs ih =>
        intro acc m ha e
        simp only [fJs] at e
        cases h1 : f δ m with
        | bad => rw [h1] at e; cases e
        | exc x m2 => rw [h1] at e; cases e
        | ok y m2 =>
          rw [h1] at e
          simp only [Rs.bind] at e
          cases y with
          | str y =>
            simp only at e
            by_cases hl : (acc ++ y).length ≤ sizeLine
            · rw [if_pos hl] at e
              exact ih _ _ hl e
            · rw [if_neg hl] at e; cases e
          | _ => cases e
    obtain ⟨z, rfl, hz⟩ := key fs Str.empty m (Nat.zero_le _) hf
    intro π2 v H2 s rv
    obtain ⟨rfl, _⟩ := id rv
    exact ⟨z, rfl, p _ _ H2 s rv⟩
theorem de_joined1 {e : Expr} {pos : Pos} {f : Fe} (he : DE X cn E e f) : DE X cn E (.JoinedStr [e] pos) f := pe_joined1 he
end
end DM

/-! Objects that change: the mirror's places made, changed, let go. -/
namespace DM
open PySem PySem.Spec PyProof.Rows L2

/-! ### steps of the mirror -/
theorem set_back {α : Type} {m : List α} {n : Nat} {x : α} (h : m[n]? = some x) : m.set n x = m := by
  apply List.ext_getElem?
  intro i
  by_cases hi : n = i
  · subst hi
    rw [List.getElem?_set_self (List.getElem?_eq_some_iff.mp h).1, h]
  · rw [List.getElem?_set_ne hi]
section
variable {G : Gx} {π : Wv} {m : Mir} {H : Hp} {n : Nat} {d d' : D} {a p : Addr} {o : HO} {v : V}
theorem mlv_set (h : m[n]? = some (some d)) : mlv π (m.set n (some d')) = mlv π m := by
  funext b
  have key : ∀ (x y : D) (m1 : Mir), m1[n]? = some (some x) → mlv π (m1.set n (some y)) b = true → mlv π m1 b = true := fun x y m1 hx hb => by
    obtain ⟨k, e, e1, e2⟩ := mlv_iff.mp hb
    by_cases hk : n = k
    · subst hk
      exact mlv_iff.mpr ⟨n, x, e1, hx⟩
    · rw [List.getElem?_set_ne hk] at e2
      exact mlv_iff.mpr ⟨k, e, e1, e2⟩
  have hl : n < m.length := (List.getElem?_eq_some_iff.mp h).1
  cases q1 : mlv π (m.set n (some d')) b with
  | true => exact (key d d' m h q1).symm
  | false =>
    cases q2 : mlv π m b with
    | false => rfl
    | true =>
      have h2 : (m.set n (some d'))[n]? = some (some d') := List.getElem?_set_self hl
      have := key d' d (m.set n (some d')) h2 (by
        rw [List.set_set, set_back h]; exact q2)
      rw [this] at q1; cases q1
/-- the object at place n is changed -/
theorem MOk.put (k : MOk G π H m) (h : m[n]? = some (some d)) (ha : π.pi[n]? = some a) (t : Top (G.at π) (upd H a o) (hid (lv π m) H) d' a) : Go G π m H π (m.set n (some d')) (upd H a o) := by
  have el : mlv π (m.set n (some d')) = mlv π m := mlv_set h
  have elv : lv π (m.set n (some d')) = lv π m := by unfold lv; rw [el]
  have live : mlv π m a = true := mlv_iff.mpr ⟨n, d, ha, h⟩
  have ehid : hid (lv π m) (upd H a o) = hid (lv π m) H := by
    funext b
    unfold hid
    by_cases hb : b = a
    · have : lv π m b = true := by unfold lv; rw [hb, live, Bool.or_true]
      rw [if_pos this, if_pos this]
    · rw [upd_ne hb]
  have hl : n < m.length := (List.getElem?_eq_some_iff.mp h).1
  have al : ∀ b, H b ≠ none → upd H a o b ≠ none := fun b hb => by
    by_cases z : b = a
    · rw [z, upd_same]; simp
    · rw [upd_ne z]; exact hb
  refine ⟨⟨Wle.refl, rfl, fun b u h1 h2 => ?_⟩, ⟨by rw [List.length_set]; exact k.len, k.nd, fun b hb => al b (k.al b hb), fun b hb => al b (k.alb b hb), k.sep, fun j x b h1 h2 => ?_⟩⟩
  · rw [el]
    have : b ≠ a := fun z => by rw [z, live] at h1; cases h1
    rw [upd_ne this]
    exact ⟨h2, h1⟩
  · rw [elv, ehid]
    by_cases hj : n = j
    · subst hj
      rw [List.getElem?_set_self hl] at h1
      cases h1
      rw [ha] at h2
      cases h2
      exact t
    · rw [List.getElem?_set_ne hj] at h1
      have hab : b ≠ a := fun z => by
        subst z
        have e1 := List.getElem?_eq_some_iff.mp ha
        have e2 := List.getElem?_eq_some_iff.mp h2
        exact hj ((List.getElem_inj (h₀ := e1.1) (h₁ := e2.1) k.nd).mp (by rw [e1.2, e2.2]))
      exact Top.up (Wle.refl) (fun _ _ q => q) (fun u q => by rw [upd_ne hab]; exact q) (k.cel j x b h1 h2)
/-- a new object takes the next place -/
theorem MOk.push (k : MOk G π H m) (hp : H p = none) (t : Top (G.at π) (upd H p o) (hid (lv π m) H) d p) : Go G π m H ⟨π.pi ++ [p], π.hb, π.lm⟩ (m ++ [some d]) (upd H p o) := by
  have al : ∀ b, H b ≠ none → upd H p o b ≠ none := fun b hb => by
    by_cases z : b = p
    · rw [z, upd_same]; simp
    · rw [upd_ne z]; exact hb
  have hnp : ∀ b, H b ≠ none → b ≠ p := fun b hb z => hb (by rw [z]; exact hp)
  have live : ∀ b, mlv ⟨π.pi ++ [p], π.hb, π.lm⟩ (m ++ [some d]) b = true → mlv π m b = true ∨ b = p := fun b hb => by
    obtain ⟨j, x, e1, e2⟩ := mlv_iff.mp hb
    by_cases hj : j < m.length
    · rw [List.getElem?_append_left hj] at e2
      have e1' : (π.pi ++ [p])[j]? = some b := e1
      rw [List.getElem?_append_left (by rw [k.len]; exact hj)] at e1'
      exact .inl (mlv_iff.mpr ⟨j, x, e1', e2⟩)
    · have e1' : (π.pi ++ [p])[j]? = some b := e1
      rw [List.getElem?_append_right (by rw [k.len]; omega)] at e1'
      have := List.mem_of_getElem? e1'
      exact .inr (by simpa using this)
  have pre : Wle π ⟨π.pi ++ [p], π.hb, π.lm⟩ := ⟨List.prefix_append _ _, rfl⟩
  have st : ∀ b u, mlv π m b = false → H b = some u → upd H p o b = some u ∧ mlv ⟨π.pi ++ [p], π.hb, π.lm⟩ (m ++ [some d]) b = false := fun b u h1 h2 => by
    have ne := hnp b (by rw [h2]; simp)
    refine ⟨by rw [upd_ne ne]; exact h2, ?_⟩
    cases q : mlv ⟨π.pi ++ [p], π.hb, π.lm⟩ (m ++ [some d]) b with
    | false => rfl
    | true =>
      rcases live b q with z | z
      · rw [z] at h1; cases h1
      · exact absurd z ne
  have ex : Ex π m H ⟨π.pi ++ [p], π.hb, π.lm⟩ (m ++ [some d]) (upd H p o) := ⟨pre, rfl, st⟩
  refine ⟨ex, ⟨by simp [k.len], ?_, fun b hb => ?_, fun b hb => al b (k.alb b hb), fun b hb => ?_, fun j x b h1 h2 => ?_⟩⟩
  · show (π.pi ++ [p]).Nodup
    refine List.nodup_append.mpr ⟨k.nd, by simp, fun b hb c hc => ?_⟩
    rw [List.mem_singleton.mp hc]
    exact hnp b (k.al b hb)
  · rcases List.mem_append.mp hb with hb | hb
    · exact al b (k.al b hb)
    · rw [List.mem_singleton.mp hb, upd_same]; simp
  · rcases List.mem_append.mp hb with hb | hb
    · exact k.sep b hb
    · rw [List.mem_singleton.mp hb]
      show π.hb p = false
      cases q : π.hb p with
      | false => rfl
      | true => exact absurd hp (k.alb p q)
  · by_cases hj : j < m.length
    · rw [List.getElem?_append_left hj] at h1
      have h2' : (π.pi ++ [p])[j]? = some b := h2
      rw [List.getElem?_append_left (by rw [k.len]; exact hj)] at h2'
      exact Top.up pre ex.same (fun u q => by rw [upd_ne (ne_of_none q hp)]; exact q) (k.cel j x b h1 h2')
    · have hj' : j = m.length := by
        have := (List.getElem?_eq_some_iff.mp h1).1
        rw [List.length_append] at this
        simp at this
        omega
      subst hj'
      have h2' : (π.pi ++ [p])[m.length]? = some b := h2
      rw [List.getElem?_append_right (by rw [k.len]; exact Nat.le_refl _), k.len, Nat.sub_self] at h2'
      rw [List.getElem?_append_right (Nat.le_refl _), Nat.sub_self] at h1
      cases h1
      cases h2'
      exact Top.up pre ex.same (fun _ q => q) t
theorem rep_pushed {H' : Hp} (k : MOk G π H m) : Rep (G.at ⟨π.pi ++ [p], π.hb, π.lm⟩) H' (.ref m.length) (.ref p) := by
  refine ⟨p, rfl, ?_⟩
  show (π.pi ++ [p])[m.length]? = some p
  rw [List.getElem?_append_right (by rw [k.len]; exact Nat.le_refl _), k.len, Nat.sub_self]
  rfl
/-- place n is let go: its object is data from now on -/
theorem MOk.drop (k : MOk G π H m) (h : m[n]? = some (some d)) (ha : π.pi[n]? = some a) : Go G π m H π (m.set n none) H ∧ ((∀ q, d ≠ .tbl q) → Rep (G.at π) (hid (lv π (m.set n none)) H) d (.ref a)) := by
  have hl : n < m.length := (List.getElem?_eq_some_iff.mp h).1
  have low : ∀ b, mlv π (m.set n none) b = true → mlv π m b = true ∧ b ≠ a := fun b hb => by
    obtain ⟨j, x, e1, e2⟩ := mlv_iff.mp hb
    by_cases hj : n = j
    · subst hj
      rw [List.getElem?_set_self hl] at e2
      cases e2
    · rw [List.getElem?_set_ne hj] at e2
      refine ⟨mlv_iff.mpr ⟨j, x, e1, e2⟩, fun z => ?_⟩
      subst z
      have c1 := List.getElem?_eq_some_iff.mp ha
      have c2 := List.getElem?_eq_some_iff.mp e1
      exact hj ((List.getElem_inj (h₀ := c1.1) (h₁ := c2.1) k.nd).mp (by rw [c1.2, c2.2]))
  have ex : Ex π m H π (m.set n none) H := ⟨Wle.refl, rfl, fun b u h1 h2 => ⟨h2, by
    cases q : mlv π (m.set n none) b with
    | false => rfl
    | true => rw [(low b q).1] at h1; cases h1⟩⟩
  refine ⟨⟨ex, ⟨by rw [List.length_set]; exact k.len, k.nd, k.al, k.alb, k.sep, fun j x b h1 h2 => ?_⟩⟩, ?_⟩
  · by_cases hj : n = j
    · subst hj
      rw [List.getElem?_set_self hl] at h1
      cases h1
    · rw [List.getElem?_set_ne hj] at h1
      exact Top.up (Wle.refl) ex.same (fun _ q => q) (k.cel j x b h1 h2)
  · have free : lv π (m.set n none) a = false := by
      refine lv_false.mpr ⟨k.sep a (List.mem_of_getElem? ha), ?_⟩
      cases q : mlv π (m.set n none) a with
      | false => rfl
      | true => exact absurd rfl (low a q).2
    have t := k.cel n d a h ha
    intro hq
    cases d with
    | tbl q => exact absurd rfl (hq q)
    | lst ds => obtain ⟨xs, h4, h5⟩ := t; exact ⟨a, xs, rfl, hid_some.mpr ⟨free, h4⟩, RepAll.up (Wle.refl) ex.same ds h5⟩
    | ins c ns ds => obtain ⟨dx, xs, h4, _, h5⟩ := t; exact ⟨a, dx, xs, rfl, hid_some.mpr ⟨free, h4⟩, RepAll.up (Wle.refl) ex.same ds h5⟩
    | dK ks ds => obtain ⟨xs, h4, h6, h5⟩ := t; exact ⟨a, xs, rfl, hid_some.mpr ⟨free, h4⟩, h6, RepAll.up (Wle.refl) ex.same ds h5⟩
    | dT ks ds => obtain ⟨xs, h4, h6, h5⟩ := t; exact ⟨a, xs, rfl, hid_some.mpr ⟨free, h4⟩, h6, RepAll.up (Wle.refl) ex.same ds h5⟩
    | _ => exact False.elim t
end

/-! ### let go, with all that is in it -/
def mapF (f : D → Mir → Option (D × Mir)) : List D → Mir → Option (List D × Mir)
  | [], m => some ([], m)
  | d :: ds, m => (f d m).bind fun a => (mapF f ds a.2).bind fun b => some (a.1 :: b.1, b.2)
def frzD : Nat → D → Mir → Option (D × Mir)
  | 0, _, _ => none
  | k + 1, .ref n, m => match cell m n with
    | some (.lst ds) => (mapF (frzD k) ds (m.set n none)).bind fun a => some (.lst a.1, a.2)
    | some (.ins c ns ds) => (mapF (frzD k) ds (m.set n none)).bind fun a => some (.ins c ns a.1, a.2)
    | some (.dK ks ds) => (mapF (frzD k) ds (m.set n none)).bind fun a => if ks.length = a.1.length then some (.dK ks a.1, a.2) else none
    | some (.dT ks ds) => (mapF (frzD k) ds (m.set n none)).bind fun a => if ks.length = a.1.length then some (.dT ks a.1, a.2) else none
    | _ => none
  | _ + 1, d, m => some (d, m)
section
variable {G : Gx} {π : Wv} {H : Hp}
def FrzOk (G : Gx) (π : Wv) (H : Hp) (f : D → Mir → Option (D × Mir)) : Prop := ∀ (d d' : D) (m m' : Mir) (v : V), MOk G π H m → Rep (G.at π) (hid (lv π m) H) d v → f d m = some (d', m') → Go G π m H π m' H ∧ Rep (G.at π) (hid (lv π m') H) d' v
theorem mapF_ok {f : D → Mir → Option (D × Mir)} (hf : FrzOk G π H f) : ∀ (ds ds' : List D) (m m' : Mir) (vs : List V), MOk G π H m → RepAll (G.at π) (hid (lv π m) H) ds vs → mapF f ds m = some (ds', m') → Go G π m H π m' H ∧ RepAll (G.at π) (hid (lv π m') H) ds' vs
  | [], ds', m, m', vs, k, r, h => by
    simp only [mapF] at h
    cases h
    exact ⟨Go.refl k, r⟩
  | d :: ds, ds', m, m', vs, k, r, h => by
    obtain ⟨v, r', rfl, r1, r2⟩ := r
    simp only [mapF] at h
    obtain ⟨a, h1, h⟩ := Option.bind_eq_some_iff.mp h
    obtain ⟨b, h2, h⟩ := Option.bind_eq_some_iff.mp h
    cases h
    obtain ⟨g1, q1⟩ := hf d a.1 m a.2 v k r1 h1
    obtain ⟨g2, q2⟩ := mapF_ok hf ds b.1 a.2 b.2 r' g1.ok (g1.ex.repAll ds r2) h2
    exact ⟨g1.trans g2, v, r', rfl, g2.ex.rep a.1 q1, q2⟩
theorem frzD_ok (k : Nat) : FrzOk G π H (frzD k) := by
  induction k with
  | zero => exact fun d d' m m' v _ _ h => by cases h
  | succ k ih =>
    intro d d' m m' v ok r h
    cases d with
    | ref n =>
      simp only [frzD] at h
      obtain ⟨a, rfl, ha⟩ := r
      cases hc : cell m n with
      | none => rw [hc] at h; cases h
      | some x =>
        rw [hc] at h
        obtain ⟨g0, r0⟩ := ok.drop (cell_iff.mp hc) ha
        cases x with
        | lst ds =>
          obtain ⟨b, h1, h⟩ := Option.bind_eq_some_iff.mp h
          cases h
          obtain ⟨c, xs, e, h4, h5⟩ := r0 fun _ z => by cases z
          cases e
          obtain ⟨g1, q1⟩ := mapF_ok ih ds b.1 _ b.2 xs g0.ok h5 h1
          exact ⟨g0.trans g1, a, xs, rfl, g1.ex.same _ _ h4, q1⟩
        | ins cc ns ds =>
          obtain ⟨b, h1, h⟩ := Option.bind_eq_some_iff.mp h
          cases h
          obtain ⟨c, dx, xs, e, h4, h5⟩ := r0 fun _ z => by cases z
          cases e
          obtain ⟨g1, q1⟩ := mapF_ok ih ds b.1 _ b.2 xs g0.ok h5 h1
          exact ⟨g0.trans g1, a, dx, xs, rfl, g1.ex.same _ _ h4, q1⟩
        | dK ks ds =>
          obtain ⟨b, h1, h⟩ := Option.bind_eq_some_iff.mp h
          by_cases hk : ks.length = b.1.length
          · rw [if_pos hk] at h
            cases h
            obtain ⟨c, xs, e, h4, h6, h5⟩ := r0 fun _ z => by cases z
            cases e
            obtain ⟨g1, q1⟩ := mapF_ok ih ds b.1 _ b.2 xs g0.ok h5 h1
            exact ⟨g0.trans g1, a, xs, rfl, g1.ex.same _ _ h4, hk, q1⟩
          · rw [if_neg hk] at h; cases h
        | dT ks ds =>
          obtain ⟨b, h1, h⟩ := Option.bind_eq_some_iff.mp h
          by_cases hk : ks.length = b.1.length
          · rw [if_pos hk] at h
            cases h
            obtain ⟨c, xs, e, h4, h6, h5⟩ := r0 fun _ z => by cases z
            cases e
            obtain ⟨g1, q1⟩ := mapF_ok ih ds b.1 _ b.2 xs g0.ok h5 h1
            exact ⟨g0.trans g1, a, xs, rfl, g1.ex.same _ _ h4, hk, q1⟩
          · rw [if_neg hk] at h; cases h
        | _ => cases h
    | _ => cases h; exact ⟨Go.refl ok, r⟩
end
/-- an expression's value is let go -/
def fFrz (f : Fe) : Fe := fun δ m => (f δ m).bind fun d m1 => match frzD 9 d m1 with
  | some a => .ok a.1 a.2
  | none => .bad
section
variable {X : Cx} {cn : Cn} {E : XKS}
theorem de_frz {e : Expr} {f : Fe} (h : DE X cn E e f) : DE X cn E e (fFrz f) := PE.imp h fun σ H Q q => by
  obtain ⟨π, δ, m, a, p⟩ := q
  refine ⟨π, δ, m, a, ?_⟩
  unfold fFrz at p
  cases hf : f δ m with
  | bad => rw [hf] at p; exact p
  | exc x m1 => rw [hf] at p; exact p
  | ok d m1 =>
    rw [hf] at p
    intro π1 v H1 s1 rv
    simp only [Rs.bind] at p
    cases hz : frzD 9 d m1 with
    | none => rw [hz] at p; exact False.elim p
    | some b =>
      rw [hz] at p
      obtain ⟨g, r⟩ := frzD_ok 9 d b.1 m1 b.2 v s1.ok rv hz
      exact p π1 v H1 (s1.trans g) r
/-- a slot's value is let go ahead of a statement -/
def sFrz (i : Nat) (g : Fs) : Fs := fun δ m => match δ[i]? with
  | some (.dat d) => (match frzD 9 d m with
    | some a => g (δ.set i (.dat a.1)) a.2
    | none => .bad)
  | _ => g δ m
theorem ds_frz (i : Nat) {s : Stmt} {g : Fs} (h : DS X cn E s g) : DS X cn E s (sFrz i g) := PS.imp h fun Dn σ H q => by
  obtain ⟨π, δ, m, a, p⟩ := q
  unfold sFrz at p
  cases hs : δ[i]? with
  | none => rw [hs] at p; exact ⟨π, δ, m, a, p⟩
  | some s =>
    rw [hs] at p
    cases s with
    | un => exact ⟨π, δ, m, a, p⟩
    | dat d =>
      simp only at p
      cases hz : frzD 9 d m with
      | none => rw [hz] at p; exact False.elim p
      | some b =>
        rw [hz] at p
        obtain ⟨v0, h1, v, rfl, r⟩ := a.env.sl i _ hs
        obtain ⟨g2, r2⟩ := frzD_ok 9 d b.1 m b.2 v a.mok r hz
        have a2 := (a.step g2).set i r2
        refine ⟨π, _, b.2, ?_, PostS.from_ g2.ex p⟩
        have e : σ.set i (some v) = σ := by
          apply List.ext_getElem?
          intro j
          by_cases hj : i = j
          · subst hj
            rw [List.getElem?_set_self (List.getElem?_eq_some_iff.mp h1).1, h1]
          · rw [List.getElem?_set_ne hj]
        rw [e] at a2
        exact a2

/-! ### what is newly made takes a place -/
/-- a new list -/
def fNewL (g : Fa) : Fe := fun δ m => (g δ m).bind fun ds m1 => if ds.length ≤ sizeLine then .ok (.ref m1.length) (m1 ++ [some (.lst ds)]) else .bad
theorem new_lst {G : Gx} {π : Wv} {m : Mir} {H : Hp} {ds : List D} {vs : List V} {p : Addr} {E : XK} {Q : VK} (k : MOk G π H m) (rv : RepAll (G.at π) (hid (lv π m) H) ds vs) (hp : H p = none)
    (q : Post G E π m H Q (.ok (.ref m.length) (m ++ [some (.lst ds)]))) : Q (.ref p) (upd H p (.lst vs)) :=
  q _ _ _ (k.push (o := .lst vs) (d := .lst ds) hp ⟨vs, upd_same, rv⟩) (rep_pushed k)
theorem de_newL {es : List Expr} {pos : Pos} {g : Fa} (h : DA X cn E es g) : DE X cn E (.List es pos) (fNewL g) := PE.imp (pe_lst h) fun σ H Q q => by
  obtain ⟨π, δ, m, a, p⟩ := q
  refine (show tDA _ E g σ H _ from ⟨π, δ, m, a, ?_⟩)
  unfold fNewL at p
  cases hf : g δ m with
  | bad => rw [hf] at p; exact p
  | exc x m1 => rw [hf] at p; exact p
  | ok ds m1 =>
    rw [hf] at p
    intro π1 vs H1 s1 rv
    simp only [Rs.bind] at p
    by_cases hl : ds.length ≤ sizeLine
    · rw [if_pos hl] at p
      exact ⟨by rw [RepAll.length rv]; exact hl, fun b hb => new_lst s1.ok rv hb (Post.from_ s1 p)⟩
    · rw [if_neg hl] at p; exact False.elim p

/-! ### list methods -/
/-- o.append(e) -/
def fApp (f g : Fe) : Fe := fun δ m => (f δ m).bind fun x m1 => match x with
  | .ref n => (match cell m1 n with
    | some (.lst _) => (g δ m1).bind fun y m2 => (match cell m2 n with
      | some (.lst ds) => if ds.length < sizeLine then .ok .non (m2.set n (some (.lst (ds ++ [y])))) else .bad
      | _ => .bad)
    | _ => .bad)
  | _ => .bad
theorem de_app {o e : Expr} {apos cpos : Pos} {f g : Fe} (ho : DE X cn E o f) (he : DE X cn E e g) (hbase : attributeBase o "append" X.env (eval o X.env) = eval o X.env := by rfl)
    (hfew : ((backTo cpos (starEach [e] X.env)).all (fun x => !x.1) && (backToKw cpos (keywordEach [] X.env)).all (fun x => x.1.isSome) && decide ([e].length + ([] : List Keyword).length + (if ([] : List Keyword).isEmpty then 0 else 1) < 30)) = true := by rfl)
    (hline : (apos.endLine == cpos.line) = true := by rfl) (hs : starEach [e] X.env = (false, eval e X.env) :: starEach [] X.env := by rfl) (hplain : (backTo cpos (starEach [] X.env)).any (·.1) = false := by rfl) :
    DE X cn E (.Call (.Attribute o "append" apos) [e] [] cpos) (fApp f g) := by
  refine PE.imp (pe_bm PySem.F.plainAttrs_list PySem.F.slot_list_append PySem.F.type_list_append mt_append ho (pa_cons he pa_nil hs) hbase hfew hline hs hplain) fun σ H Q h => ?_
  obtain ⟨π, δ, m, a, p⟩ := h
  refine (show tD _ E f σ H _ from ⟨π, δ, m, a, ?_⟩)
  unfold fApp at p
  cases hf : f δ m with
  | bad => rw [hf] at p; exact p
  | exc x m1 => rw [hf] at p; exact p
  | ok x m1 =>
    rw [hf] at p
    intro π1 v H1 s1 rx
    have a1 := a.step s1
    simp only [Rs.bind] at p
    cases x with
    | ref n =>
      simp only at p
      cases hc : cell m1 n with
      | none => rw [hc] at p; exact False.elim p
      | some c =>
        rw [hc] at p
        cases c with
        | lst ds0 =>
          simp only at p
          replace p := Post.from_ s1 p
          obtain ⟨q, rfl, hq⟩ := rx
          obtain ⟨xs0, t1, t2⟩ := s1.ok.cel n _ q (cell_iff.mp hc) hq
          refine ⟨.inl ⟨rfl, xs0, .inl (.inl t1)⟩, ?_⟩
          refine (show tD _ E g σ H1 _ from ⟨π1, δ, m1, a1, ?_⟩)
          cases hg : g δ m1 with
          | bad => rw [hg] at p; exact p
          | exc x m2 => rw [hg] at p; exact p
          | ok y m2 =>
            rw [hg] at p
            intro π2 u H2 s2 ry
            simp only at p
            cases hc2 : cell m2 n with
            | none => rw [hc2] at p; exact False.elim p
            | some c2 =>
              rw [hc2] at p
              cases c2 with
              | lst ds =>
                simp only at p
                by_cases hl : ds.length < sizeLine
                · rw [if_pos hl] at p
                  have hq2 := pre_get s2.ex.pre hq
                  obtain ⟨xs, t3, t4⟩ := s2.ok.cel n _ q (cell_iff.mp hc2) hq2
                  refine ⟨q, xs, u, rfl, rfl, t3, by rw [RepAll.length t4]; exact hl, ?_⟩
                  exact p _ _ _ (s2.trans (s2.ok.put (cell_iff.mp hc2) hq2 ⟨_, upd_same, RepAll.append t4 (RepAll.one ry)⟩)) rfl
                · rw [if_neg hl] at p; exact False.elim p
              | _ => exact False.elim p
        | _ => exact False.elim p
    | _ => exact False.elim p
/-- o.extend(e) -/
def fExt (f g : Fe) : Fe := fun δ m => (f δ m).bind fun x m1 => match x with
  | .ref n => (match cell m1 n with
    | some (.lst _) => (g δ m1).bind fun y m2 => (match cell m2 n with
      | some (.lst ds) => (match view m2 y with
        | some (.lst es) => if ds.length + es.length ≤ sizeLine then .ok .non (m2.set n (some (.lst (ds ++ es)))) else .bad
        | _ => .bad)
      | _ => .bad)
    | _ => .bad)
  | _ => .bad
theorem de_ext {o e : Expr} {apos cpos : Pos} {f g : Fe} (ho : DE X cn E o f) (he : DE X cn E e g) (hbase : attributeBase o "extend" X.env (eval o X.env) = eval o X.env := by rfl)
    (hfew : ((backTo cpos (starEach [e] X.env)).all (fun x => !x.1) && (backToKw cpos (keywordEach [] X.env)).all (fun x => x.1.isSome) && decide ([e].length + ([] : List Keyword).length + (if ([] : List Keyword).isEmpty then 0 else 1) < 30)) = true := by rfl)
    (hline : (apos.endLine == cpos.line) = true := by rfl) (hs : starEach [e] X.env = (false, eval e X.env) :: starEach [] X.env := by rfl) (hplain : (backTo cpos (starEach [] X.env)).any (·.1) = false := by rfl) :
    DE X cn E (.Call (.Attribute o "extend" apos) [e] [] cpos) (fExt f g) := by
  refine PE.imp (pe_bm PySem.F.plainAttrs_list PySem.F.slot_list_extend PySem.F.type_list_extend mt_extend ho (pa_cons he pa_nil hs) hbase hfew hline hs hplain) fun σ H Q h => ?_
  obtain ⟨π, δ, m, a, p⟩ := h
  refine (show tD _ E f σ H _ from ⟨π, δ, m, a, ?_⟩)
  unfold fExt at p
  cases hf : f δ m with
  | bad => rw [hf] at p; exact p
  | exc x m1 => rw [hf] at p; exact p
  | ok x m1 =>
    rw [hf] at p
    intro π1 v H1 s1 rx
    have a1 := a.step s1
    simp only [Rs.bind] at p
    cases x with
    | ref n =>
      simp only at p
      cases hc : cell m1 n with
      | none => rw [hc] at p; exact False.elim p
      | some c =>
        rw [hc] at p
        cases c with
        | lst ds0 =>
          simp only at p
          replace p := Post.from_ s1 p
          obtain ⟨q, rfl, hq⟩ := rx
          obtain ⟨xs0, t1, t2⟩ := s1.ok.cel n _ q (cell_iff.mp hc) hq
          refine ⟨.inl ⟨rfl, xs0, .inl (.inl t1)⟩, ?_⟩
          refine (show tD _ E g σ H1 _ from ⟨π1, δ, m1, a1, ?_⟩)
          cases hg : g δ m1 with
          | bad => rw [hg] at p; exact p
          | exc x m2 => rw [hg] at p; exact p
          | ok y m2 =>
            rw [hg] at p
            intro π2 u H2 s2 ry
            simp only at p
            cases hc2 : cell m2 n with
            | none => rw [hc2] at p; exact False.elim p
            | some c2 =>
              rw [hc2] at p
              cases c2 with
              | lst ds =>
                simp only at p
                cases vy : view m2 y with
                | none => rw [vy] at p; exact False.elim p
                | some yy =>
                  rw [vy] at p
                  have ryy := view_rep s2.ok ry vy
                  cases yy with
                  | lst es =>
                    simp only at p
                    obtain ⟨b, zs, rfl, t5, t6⟩ := ryy
                    by_cases hl : ds.length + es.length ≤ sizeLine
                    · rw [if_pos hl] at p
                      have hq2 := pre_get s2.ex.pre hq
                      obtain ⟨xs, t3, t4⟩ := s2.ok.cel n _ q (cell_iff.mp hc2) hq2
                      refine ⟨q, b, xs, zs, rfl, rfl, t3, t5, by rw [RepAll.length t4, RepAll.length t6]; exact hl, ?_⟩
                      exact p _ _ _ (s2.trans (s2.ok.put (cell_iff.mp hc2) hq2 ⟨_, upd_same, RepAll.append t4 t6⟩)) rfl
                    · rw [if_neg hl] at p; exact False.elim p
                  | _ => exact False.elim p
              | _ => exact False.elim p
        | _ => exact False.elim p
    | _ => exact False.elim p
/-- o.pop() -/
def fPop (f : Fe) : Fe := fun δ m => (f δ m).bind fun x m1 => match x with
  | .ref n => (match cell m1 n with
    | some (.lst ds) => (match ds[ds.length - 1]? with
      | some y => .ok y (m1.set n (some (.lst ds.dropLast)))
      | none => .bad)
    | _ => .bad)
  | _ => .bad
theorem RepAll.dropLast {G : Gx} {H : Hp} {ds : List D} {xs : List V} (r : RepAll G H ds xs) : RepAll G H ds.dropLast xs.dropLast := by
  rw [List.dropLast_eq_take, List.dropLast_eq_take, RepAll.length r]
  exact RepAll.take _ r
theorem de_pop {o : Expr} {apos cpos : Pos} {f : Fe} (ho : DE X cn E o f) (hbase : attributeBase o "pop" X.env (eval o X.env) = eval o X.env := by rfl) (hline : (apos.endLine == cpos.line) = true := by rfl) :
    DE X cn E (.Call (.Attribute o "pop" apos) [] [] cpos) (fPop f) := by
  refine PE.imp (pe_bm0 PySem.F.plainAttrs_list PySem.F.slot_list_pop PySem.F.type_list_pop mt_pop ho hbase hline) fun σ H Q h => ?_
  obtain ⟨π, δ, m, a, p⟩ := h
  refine (show tD _ E f σ H _ from ⟨π, δ, m, a, ?_⟩)
  unfold fPop at p
  cases hf : f δ m with
  | bad => rw [hf] at p; exact p
  | exc x m1 => rw [hf] at p; exact p
  | ok x m1 =>
    rw [hf] at p
    intro π1 v H1 s1 rx
    simp only [Rs.bind] at p
    cases x with
    | ref n =>
      simp only at p
      cases hc : cell m1 n with
      | none => rw [hc] at p; exact False.elim p
      | some c =>
        rw [hc] at p
        cases c with
        | lst ds =>
          simp only at p
          replace p := Post.from_ s1 p
          obtain ⟨q, rfl, hq⟩ := rx
          obtain ⟨xs, t1, t2⟩ := s1.ok.cel n _ q (cell_iff.mp hc) hq
          cases hy : ds[ds.length - 1]? with
          | none => rw [hy] at p; exact False.elim p
          | some y =>
            rw [hy] at p
            obtain ⟨u, hu, ru⟩ := RepAll.getD t2 hy
            refine ⟨.inl ⟨rfl, xs, .inl (.inl t1)⟩, q, xs, u, rfl, rfl, t1, by rw [RepAll.length t2]; exact hu, ?_⟩
            have g2 := s1.ok.put (o := .lst xs.dropLast) (d' := .lst ds.dropLast) (cell_iff.mp hc) hq ⟨_, upd_same, RepAll.dropLast t2⟩
            exact p _ _ _ g2 (g2.ex.rep y ru)
        | _ => exact False.elim p
    | _ => exact False.elim p
/-- o[i] = v of a list -/
def sPutL (fo fi fv : Fe) : Fs := fun δ m => DM.thn (fv δ m) δ fun v m1 => DM.thn (fo δ m1) δ fun o m2 => DM.thn (fi δ m2) δ fun i m3 => match o, i with
  | .ref n, .int k => (match cell m3 n with
    | some (.lst ds) => (match ixN ds.length k with
      | some j => .nx δ (m3.set n (some (.lst (ds.set j v))))
      | none => .bad)
    | _ => .bad)
  | _, _ => .bad
theorem ds_putL {o i value : Expr} {spos pos : Pos} {fo fi fv : Fe} (ho : DE X cn E o fo) (hi : DE X cn E i fi) (hv : DE X cn E value fv)
    (ha : ∀ v, assign (.Subscript o i spos) X.env v = (do
      let ov ← holding [v] (eval o X.env)
      let iv ← holding [v, ov] (eval i X.env)
      standAt spos
      holding [v, ov, iv] (setItem ov iv v)
      release [v, ov, iv] []) := by intro _; rfl)
    (hs : swapsWithSole [.Subscript o i spos] value pos.line X.env = pure false := by rfl) (hw : swappedStores [.Subscript o i spos] value X.env = pure none := by rfl) (h1 : (assignEach [.Subscript o i spos] X.env).map (·.2) = [assign (.Subscript o i spos) X.env] := by rfl) :
    DS X cn E (.Assign [.Subscript o i spos] value pos) (sPutL fo fi fv) := by
  refine PS.imp (ps_asg hv (pg_sub ho hi set_list ha) hs hw h1) fun Dn σ H h => ?_
  obtain ⟨π, δ, m, a, p⟩ := h
  refine ⟨π, δ, m, a, post_thn a p fun v m1 π1 w H1 s1 a1 rv p => ?_⟩
  refine ⟨π1, δ, m1, a1, post_thn a1 p fun od m2 π2 u H2 s2 a2 ro p => ?_⟩
  refine ⟨π2, δ, m2, a2, post_thn a2 p fun id m3 π3 t H3 s3 a3 ri p => ?_⟩
  cases od with
  | ref n =>
    cases id with
    | int k =>
      simp only at p
      cases hc : cell m3 n with
      | none => rw [hc] at p; exact False.elim p
      | some c =>
        rw [hc] at p
        cases c with
        | lst ds =>
          simp only at p
          cases hj : ixN ds.length k with
          | none => rw [hj] at p; exact False.elim p
          | some j =>
            rw [hj] at p
            obtain ⟨q, rfl, hq⟩ := ro
            obtain rfl : t = .int k := ri
            have hq3 := pre_get s3.ex.pre hq
            obtain ⟨xs, t1, t2⟩ := a3.mok.cel n _ q (cell_iff.mp hc) hq3
            refine ⟨q, xs, k, j, rfl, rfl, t1, by rw [RepAll.length t2]; exact hj, ?_⟩
            have g4 := a3.mok.put (o := .lst (xs.set j w)) (d' := .lst (ds.set j v)) (cell_iff.mp hc) hq3 ⟨_, upd_same, RepAll.set t2 (s3.ex.rep v (s2.ex.rep v rv))⟩
            exact p _ _ _ g4.ex (a3.step g4)
        | _ => exact False.elim p
    | _ => exact False.elim p
  | _ => exact False.elim p
/-- target = e, any target of slots -/
def sAsg (t : Ftg) (f : Fe) : Fs := fun δ m => DM.thn (f δ m) δ fun d m1 => match t d δ with
  | some δ2 => .nx δ2 m1
  | none => .bad
theorem ds_asg {tgE e : Expr} {pos : Pos} {tg : TG} {t : Ftg} {ts : List Nat} {f : Fe} (he : DE X cn E e f) (hg : PG X tgE tg) (ht : TgOk (gx X.K cn) tg t ts)
    (hs : swapsWithSole [tgE] e pos.line X.env = pure false := by rfl) (hw : swappedStores [tgE] e X.env = pure none := by rfl) (h1 : (assignEach [tgE] X.env).map (·.2) = [assign tgE X.env] := by rfl) : DS X cn E (.Assign [tgE] e pos) (sAsg t f) :=
  PS.imp (ps_asg he hg hs hw h1) fun Dn σ H h => by
    obtain ⟨π, δ, m, a, p⟩ := h
    refine ⟨π, δ, m, a, post_thn a p fun d m1 π1 v H1 s1 a1 rv p => ?_⟩
    cases hg : t d δ with
    | none => rw [hg] at p; exact False.elim p
    | some δ2 =>
      rw [hg] at p
      exact ht π1 _ σ H1 δ δ2 d v _ a1.env rv hg fun σ2 e _ => p π1 σ2 H1 Ex.refl ⟨e, a1.mok, a1.inv⟩
end
end DM

/-! Instances: attributes, methods, properties, making. -/
namespace DM
open PySem PySem.Spec PyProof.Rows L2
/-- no exception comes from where none is told of -/
theorem passN {P : Program} {w : World} {X : Cx} : Passes (L2N.CX P w) X E0 := by
  rintro _ _ _ _ _ _ - ⟨a, B, Hx, cls, dd, -, -, -, -, -, -, -, never⟩
  exact never.elim

theorem Post.imp {G : Gx} {E : XK} {π : Wv} {m : Mir} {H : Hp} {Q Q' : VK} {r : Rs DM.D} (p : Post G E π m H Q r) (h : ∀ v H1, Q v H1 → Q' v H1) : Post G E π m H Q' r := by
  cases r with
  | ok d m1 => exact fun π2 v H2 s r => h _ _ (p π2 v H2 s r)
  | exc x m1 => exact p
  | bad => exact p

/-! ### attributes -/
def lkD (f : Str) : List Str → List D → Option D
  | n :: ns, d :: ds => if (f == n) = true then some d else lkD f ns ds
  | _, _ => none
theorem lk_some {G : Gx} {H : Hp} {f : Str} : ∀ {ns : List Str} {ds : List D} {xs : List V} {d : D}, RepAll G H ds xs → lkD f ns ds = some d → ∃ v, (ns.zip xs).lookup f = some v ∧ Rep G H d v
  | [], _, _, _, _, h => by cases h
  | _ :: _, [], _, _, _, h => by cases h
  | n :: ns, d' :: ds, _, d, ⟨v, r, h1, h2, h3⟩, h => by
    subst h1
    simp only [lkD] at h
    rw [List.zip_cons_cons, List.lookup_cons]
    cases q : f == n with
    | true =>
      rw [q, if_pos rfl] at h
      cases h
      exact ⟨v, rfl, h2⟩
    | false =>
      rw [q, if_neg Bool.false_ne_true] at h
      exact lk_some h3 h
theorem lk_none {G : Gx} {H : Hp} {f : Str} : ∀ {ns : List Str} {ds : List D} {xs : List V}, RepAll G H ds xs → lkD f ns ds = none → (ns.zip xs).lookup f = none
  | [], _, _, _, _ => rfl
  | n :: ns, [], xs, r, _ => by
    obtain rfl : xs = [] := r
    rfl
  | n :: ns, d' :: ds, _, ⟨v, r, h1, h2, h3⟩, h => by
    subst h1
    simp only [lkD] at h
    rw [List.zip_cons_cons, List.lookup_cons]
    cases q : f == n with
    | true => rw [q, if_pos rfl] at h; cases h
    | false =>
      rw [q, if_neg Bool.false_ne_true] at h
      exact lk_none h3 h
/-- what the classes cs must have for the attribute f -/
def FldOk (K : PySem.W.Frag) (cn : Str → Addr) (cs : List Str) (f : Str) : Prop := ∀ c, c ∈ cs → Cls K (cn c) ∧ NoAttr K (cn c) f
theorem FldOk.nil {K : PySem.W.Frag} {cn : Str → Addr} {f : Str} : FldOk K cn [] f := fun c h => by cases h
theorem FldOk.cons {K : PySem.W.Frag} {cn : Str → Addr} {f c : Str} {cs : List Str} (h : Cls K (cn c)) (n : NoAttr K (cn c) f) (r : FldOk K cn cs f) : FldOk K cn (c :: cs) f := fun d hd => by
  rcases List.mem_cons.mp hd with rfl | hd
  · exact ⟨h, n⟩
  · exact r d hd
def hasC (c : Str) : List Str → Bool
  | [] => false
  | d :: ds => c == d || hasC c ds
theorem hasC_mem {c : Str} : ∀ {cs : List Str}, hasC c cs = true → c ∈ cs
  | [], h => by cases h
  | d :: ds, h => by
    have h2 : (c == d || hasC c ds) = true := h
    rcases Bool.or_eq_true_iff.mp h2 with h2 | h2
    · rw [eq_of_beq h2]; exact List.mem_cons_self ..
    · exact List.mem_cons_of_mem _ (hasC_mem h2)
def oFld (cs : List Str) (f : Str) : D → Option D
  | .ins c ns ds => if hasC c cs = true then lkD f ns ds else none
  | _ => none
section
variable {X : Cx} {cn : Cn} {E : XKS}
theorem de_fld {cs : List Str} {f : Str} {e : Expr} {pos : Pos} {g : Fe} (h : FldOk X.K cn cs f) (he : DE X cn E e g) (hb : attributeBase e f X.env (eval e X.env) = eval e X.env := by rfl) : DE X cn E (.Attribute e f pos) (f1 (oFld cs f) g) := by
  refine PE.imp (pe_fld he hb) fun σ H Q q => (lift1 (r := fun x H Q => ∃ a C dx fs v, x = .ref a ∧ H a = some (.ins C dx fs) ∧ Cls X.K C ∧ NoAttr X.K C f ∧ fs.lookup f = some v ∧ Q v H) ?_ q)
  intro π hd H x d v Q hn rx ho k
  cases x with
  | ins c ns ds =>
    simp only [oFld] at ho
    split at ho
    · rename_i hc
      obtain ⟨a, dx, xs, rfl, h1, h2⟩ := rx
      obtain ⟨u, e1, e2⟩ := lk_some h2 ho
      obtain ⟨k1, k2⟩ := h c (hasC_mem hc)
      exact ⟨a, _, dx, _, u, rfl, h1, k1, k2, e1, k u H (Same.refl H) e2⟩
    · cases ho
  | _ => cases ho

/-! ### methods -/
/-- a method of the class c of the text, with what it promises -/
structure Md (P : Program) (w : World) (K : PySem.W.Frag) (mg : Str → Option Value) (base : Heap) (C : Addr) (m : Str) (ps : List Str) (k : Nat) (sp : Sp) : Prop where
  ex : ∃ (f : Addr) (fd : FuncData), Meth K C m f ∧ Binds K fd ps [] ∧ FnOk P w K mg base (L2N.CX P w) k f fd ps sp
/-- as the top leaves it -/
structure Dm (K : PySem.W.Frag) (C : Addr) (m qual : Str) (st : Stmt) (ps : List Str) : Prop where
  ex : ∃ (f : Addr) (fd : FuncData), Meth K C m f ∧ Fun K m qual st f fd ∧ Binds K fd ps []
/-- what a call of F on the object d and further arguments gives -/
def insOf : D → Option (Str × List Str × List D)
  | .ins c ns ds => some (c, ns, ds)
  | _ => none
def fMth (c m : Str) (n : Nat) (F : Sls → Mir → Rs D) (f : Fe) (g : Fa) : Fe := fun δ m0 => (f δ m0).bind fun x m1 => match (view m1 x).bind insOf with
  | some a => if (c == a.1) = true then (match lkD m a.2.1 a.2.2 with
      | none => (g δ m1).bind fun ys m2 => if ys.length + 1 = n then F (.dat x :: ys.map .dat) m2 else .bad
      | some _ => .bad) else .bad
  | none => .bad
/-- an instance, looked at -/
theorem ins_view {G : Gx} {π : Wv} {m : Mir} {H : Hp} {x : D} {v : V} {a : Str × List Str × List D} (k : MOk G π H m) (r : Rep (G.at π) (hid (lv π m) H) x v) (h : (view m x).bind insOf = some a) :
    ∃ p dx xs, v = .ref p ∧ H p = some (.ins (G.cn a.1) dx (a.2.1.zip xs)) ∧ RepAll (G.at π) (hid (lv π m) H) a.2.2 xs := by
  obtain ⟨y, h1, h2⟩ := Option.bind_eq_some_iff.mp h
  have t := view_rep k r h1
  cases y with
  | ins c ns ds =>
    cases h2
    exact t
  | _ => cases h2
/-- what a method's call reads -/
def tMt (C : Addr) (m : Str) (sp : Sp) (E : L2.St → XK) (ta : TE) (t : TA) : TE := fun σ H Q => ta σ H fun x H1 => ∃ a dx fs, x = .ref a ∧ H1 a = some (.ins C dx fs) ∧ fs.lookup m = none ∧ t σ H1 fun vs H2 => sp (x :: vs) H2 Q (E σ)
theorem lift_mth {G : Gx} {σ : L2.St} {H : Hp} {Q : VK} {c m : Str} {n : Nat} {F : Sls → Mir → Rs D} {f : Fe} {g : Fa} (h : tD G E (fMth c m n F f g) σ H Q) : tMt (G.cn c) m (spD G n F) E (tD G E f) (tDA G E g) σ H Q := by
  obtain ⟨π, δ, m0, a, p⟩ := h
  refine ⟨π, δ, m0, a, ?_⟩
  unfold fMth at p
  cases hf : f δ m0 with
  | bad => rw [hf] at p; exact p
  | exc x m1 => rw [hf] at p; exact p
  | ok x m1 =>
    rw [hf] at p
    intro π1 v H1 s1 rx
    have a1 := a.step s1
    simp only [Rs.bind] at p
    cases hi : (view m1 x).bind insOf with
    | none => rw [hi] at p; exact False.elim p
    | some b =>
      rw [hi] at p
      simp only at p
      by_cases hc : (c == b.1) = true
      · rw [if_pos hc] at p
        have ec := eq_of_beq hc
        cases hl : lkD m b.2.1 b.2.2 with
        | some z => rw [hl] at p; exact False.elim p
        | none =>
          rw [hl] at p
          simp only at p
          replace p := Post.from_ s1 p
          obtain ⟨q, dx, xs, rfl, h1, h2⟩ := ins_view s1.ok rx hi
          refine ⟨q, dx, _, rfl, by rw [ec]; exact h1, lk_none h2 hl, π1, δ, m1, a1, ?_⟩
          cases hg : g δ m1 with
          | bad => rw [hg] at p; exact p
          | exc y m2 => rw [hg] at p; exact p
          | ok ys m2 =>
            rw [hg] at p
            intro π2 vs H2 s2 ry
            simp only at p
            by_cases hn : ys.length + 1 = n
            · rw [if_pos hn] at p
              refine ⟨by rw [List.length_cons, RepAll.length ry]; exact hn, π2, .dat x :: ys.map .dat, m2, (at_dats (ds := x :: ys) (vs := .ref q :: vs) (a1.step s2) ⟨_, _, rfl, s2.ex.rep x rx, ry⟩).j0, (Post.from_ s2 p).j0⟩
            · rw [if_neg hn] at p; exact False.elim p
      · rw [if_neg hc] at p; exact False.elim p
theorem pe_mt {pl : Sem Bool} {o e : Expr} {es : List Expr} {apos pos : Pos} {m : Str} {C f : Addr} {fd : FuncData} {ps : List Str} {k : Nat} {sp : Sp} {ta : TE} {t : TA} (ho : PE X o ta) (hc : Cls X.K C) (hm : Meth X.K C m f) (F : FnOk X.prog X.w X.K X.mg X.base (L2N.CX X.prog X.w) k f fd ps sp) (hr : Room k X.A)
    (hb : Binds X.K fd ps []) (hx : Pas X E) (ha : PA X (e :: es) t) (hst : starEach (e :: es) X.env = (false, eval e X.env) :: starEach es X.env := by rfl) (hpl : (backTo pos (starEach es X.env)).any (·.1) = false := by rfl)
    (ht : eval (.Call (.Attribute o m apos) (e :: es) [] pos) X.env = (do
      let ov ← eval o X.env
      standAt apos.atName
      let (f, first) ← holding [ov] (getMethod ov m pl)
      callWith pos f first (backTo pos (starEach (e :: es) X.env)) (backToKw pos (keywordEach [] X.env))) := by rfl) :
    PE X (.Call (.Attribute o m apos) (e :: es) [] pos) (tMt C m sp E ta t) :=
  ⟨fun pins s σ H Q I h => PySem.W.methodCall_KW (pl := pl) (L2.thn (ho.run pins s σ H _ I h) fun u s1 ⟨x, H1, I1, rx, a, dx, fs, ex, ea, l, q⟩ => by
    cases ex
    cases rx
    exact getmeth_ok I1 ea hc hm l (PySem.W.callWith_K (first := [.ref a]) (h₀ := X.base) I.ok.mod.kin hm.kp (L2.thn (ha.run pos pins s1 σ H1 _ I1 q) fun us s2 ⟨vs, H2, I2, r, q2⟩ =>
      ⟨I2.kIn, run_fnS (E := E) (us := .ref a :: us) (vs := .ref a :: vs) F hr hb (hx σ) I2 (.cons rfl r) q2⟩) hst hpl)) ht⟩
theorem pe_mt0 {pl : Sem Bool} {o : Expr} {apos pos : Pos} {m : Str} {C f : Addr} {fd : FuncData} {ps : List Str} {k : Nat} {sp : Sp} {ta : TE} (ho : PE X o ta) (hc : Cls X.K C) (hm : Meth X.K C m f) (F : FnOk X.prog X.w X.K X.mg X.base (L2N.CX X.prog X.w) k f fd ps sp) (hr : Room k X.A)
    (hb : Binds X.K fd ps []) (hx : Pas X E)
    (ht : eval (.Call (.Attribute o m apos) [] [] pos) X.env = (do
      let ov ← eval o X.env
      standAt apos.atName
      let (f, first) ← holding [ov] (getMethod ov m pl)
      callWith pos f first (backTo pos (starEach [] X.env)) (backToKw pos (keywordEach [] X.env))) := by rfl) :
    PE X (.Call (.Attribute o m apos) [] [] pos) (tMt C m sp E ta tNil) :=
  ⟨fun pins s σ H Q I h => PySem.W.methodCall_KW (pl := pl) (L2.thn (ho.run pins s σ H _ I h) fun u s1 ⟨x, H1, I1, rx, a, dx, fs, ex, ea, l, q⟩ => by
    cases ex
    cases rx
    exact getmeth_ok I1 ea hc hm l (PySem.W.callWith_K0 (first := [.ref a]) I1.kIn hm.kp (run_fnS (E := E) (us := [.ref a]) (vs := [.ref a]) F hr hb (hx σ) I1 (.cons rfl .nil) q))) ht⟩
theorem de_mth {pl : Sem Bool} {c m : Str} {ps : List Str} {k n : Nat} {F : Sls → Mir → Rs DM.D} {o e : Expr} {es : List Expr} {apos pos : Pos} {f : Fe} {g : Fa} (D : Md X.prog X.w X.K X.mg X.base (cn c) m ps k (spD (gx X.K cn) n F)) (hc : Cls X.K (cn c)) (hr : Room k X.A) (hx : Pas X E) (ho : DE X cn E o f) (ha : DA X cn E (e :: es) g)
    (hst : starEach (e :: es) X.env = (false, eval e X.env) :: starEach es X.env := by rfl) (hpl : (backTo pos (starEach es X.env)).any (·.1) = false := by rfl)
    (ht : eval (.Call (.Attribute o m apos) (e :: es) [] pos) X.env = (do
      let ov ← eval o X.env
      standAt apos.atName
      let (f, first) ← holding [ov] (getMethod ov m pl)
      callWith pos f first (backTo pos (starEach (e :: es) X.env)) (backToKw pos (keywordEach [] X.env))) := by rfl) :
    DE X cn E (.Call (.Attribute o m apos) (e :: es) [] pos) (fMth c m n F f g) := by
  obtain ⟨fa, fd, hm, hb, Fo⟩ := D.ex
  exact PE.imp (pe_mt (pl := pl) ho hc hm Fo hr hb hx ha hst hpl ht) fun _ _ _ => lift_mth
theorem de_mth0 {pl : Sem Bool} {c m : Str} {ps : List Str} {k n : Nat} {F : Sls → Mir → Rs DM.D} {o : Expr} {apos pos : Pos} {f : Fe} (D : Md X.prog X.w X.K X.mg X.base (cn c) m ps k (spD (gx X.K cn) n F)) (hc : Cls X.K (cn c)) (hr : Room k X.A) (hx : Pas X E) (ho : DE X cn E o f)
    (ht : eval (.Call (.Attribute o m apos) [] [] pos) X.env = (do
      let ov ← eval o X.env
      standAt apos.atName
      let (f, first) ← holding [ov] (getMethod ov m pl)
      callWith pos f first (backTo pos (starEach [] X.env)) (backToKw pos (keywordEach [] X.env))) := by rfl) :
    DE X cn E (.Call (.Attribute o m apos) [] [] pos) (fMth c m n F f fNil) := by
  obtain ⟨fa, fd, hm, hb, Fo⟩ := D.ex
  refine PE.imp (pe_mt0 (pl := pl) ho hc hm Fo hr hb hx ht) fun σ H Q q => ?_
  obtain ⟨π, δ, m0, a, p⟩ := lift_mth q
  exact ⟨π, δ, m0, a, Post.imp p fun v H1 ⟨b, dx, fs, e1, e2, e3, e4⟩ => ⟨b, dx, fs, e1, e2, e3, lift_nil e4⟩⟩
end
end DM

/-! Instances: properties, making, constants of a class, own operators. -/
namespace DM
open PySem PySem.Spec PyProof.Rows L2

section
variable {X : Cx} {cn : Cn} {E : XKS}
/-! ### properties -/
/-- a property of the class, as the top leaves it -/
structure Dp (K : PySem.W.Frag) (C : Addr) (f qual : Str) (st : Stmt) : Prop where
  ex : ∃ (p g : Addr) (fd : FuncData), PropOf K C f p g ∧ Fun K f qual st g fd ∧ Binds K fd ["self"] []
/-- with what its getter promises -/
structure Pd (P : Program) (w : World) (K : PySem.W.Frag) (mg : Str → Option Value) (base : Heap) (C : Addr) (f : Str) (k : Nat) (sp : Sp) : Prop where
  ex : ∃ (p g : Addr) (fd : FuncData), PropOf K C f p g ∧ Binds K fd ["self"] [] ∧ FnOk P w K mg base (L2N.CX P w) k g fd ["self"] sp
def noX : Rs D → Rs D
  | .exc _ _ => .bad
  | r => r
def fProp (c : Str) (F : Sls → Mir → Rs D) (f : Fe) : Fe := fun δ m => (f δ m).bind fun x m1 => match (view m1 x).bind insOf with
  | some a => if (c == a.1) = true then noX (F [.dat x] m1) else .bad
  | none => .bad
theorem lift_prop {G : Gx} {σ : L2.St} {H : Hp} {Q : VK} {c : Str} {F : Sls → Mir → Rs D} {f : Fe} (h : tD G E (fProp c F f) σ H Q) : tProp (G.cn c) (spD G 1 F) [] E0 (tD G E f) σ H Q := by
  obtain ⟨π, δ, m, a, p⟩ := h
  refine ⟨π, δ, m, a, ?_⟩
  unfold fProp at p
  cases hf : f δ m with
  | bad => rw [hf] at p; exact p
  | exc x m1 => rw [hf] at p; exact p
  | ok x m1 =>
    rw [hf] at p
    intro π1 v H1 s1 rx
    simp only [Rs.bind] at p
    cases hi : (view m1 x).bind insOf with
    | none => rw [hi] at p; exact False.elim p
    | some b =>
      rw [hi] at p
      simp only at p
      by_cases hc : (c == b.1) = true
      · rw [if_pos hc] at p
        replace p := Post.from_ s1 p
        obtain ⟨q, dx, xs, rfl, h1, h2⟩ := ins_view s1.ok rx hi
        refine ⟨q, dx, _, rfl, by rw [eq_of_beq hc]; exact h1, rfl, π1, [.dat x], m1, (at_dats (ds := [x]) (vs := [.ref q]) (a.step s1) ⟨_, _, rfl, rx, rfl⟩).j0, ?_⟩
        refine Post.j0 ?_
        cases hF : F [.dat x] m1 with
        | bad => rw [hF] at p; exact p
        | exc y m2 => rw [hF] at p; exact False.elim p
        | ok y m2 => rw [hF] at p; exact p
      · rw [if_neg hc] at p; exact False.elim p
theorem de_prop {c f : Str} {k : Nat} {F : Sls → Mir → Rs DM.D} {e : Expr} {pos : Pos} {g : Fe} (D : Pd X.prog X.w X.K X.mg X.base (cn c) f k (spD (gx X.K cn) 1 F)) (hc : Cls X.K (cn c)) (hr : Room (k + 1) X.A) (he : DE X cn E e g)
    (hab : attributeBase e f X.env (eval e X.env) = eval e X.env := by rfl) : DE X cn E (.Attribute e f pos) (fProp c F g) := by
  obtain ⟨p, ga, fd, hp, hb, Fo⟩ := D.ex
  exact PE.imp (pe_prop he hc hp Fo hr hb .nil passN hab) fun _ _ _ => lift_prop

/-! ### making -/
/-- the class c of the text: its __init__ -/
structure Kd (P : Program) (w : World) (K : PySem.W.Frag) (mg : Str → Option Value) (base : Heap) (x : Str) (C : Addr) (ps : List Str) (k : Nat) (sp : Sp) : Prop where
  ex : ∃ (f : Addr) (fd : FuncData), mg x = some (.ref C) ∧ Mk K C f ∧ Binds K fd ps [] ∧ FnOk P w K mg base (L2N.CX P w) k f fd ps sp
structure Dk (K : PySem.W.Frag) (mg : Str → Option Value) (x : Str) (C : Addr) (qual : Str) (st : Stmt) (ps : List Str) : Prop where
  ex : ∃ (f : Addr) (fd : FuncData), mg x = some (.ref C) ∧ Mk K C f ∧ Fun K "__init__" qual st f fd ∧ Binds K fd ps []
def isNon : D → Bool
  | .non => true
  | _ => false
def fMake (c : Str) (n : Nat) (F : Sls → Mir → Rs D) (g : Fa) : Fe := fun δ m => (g δ m).bind fun ds m1 => if ds.length + 1 = n then
  (F (.dat (.ref m1.length) :: ds.map .dat) (m1 ++ [some (.ins c [] [])])).bind fun r m2 => if isNon r = true then .ok (.ref m1.length) m2 else .bad else .bad
theorem lift_make {G : Gx} {σ : L2.St} {H : Hp} {Q : VK} {c : Str} {n : Nat} {F : Sls → Mir → Rs D} {g : Fa} (h : tD G E (fMake c n F g) σ H Q) : tMake (G.cn c) (spD G n F) [] (E σ) (tDA G E g) σ H Q := by
  obtain ⟨π, δ, m, a, p⟩ := h
  refine ⟨π, δ, m, a, ?_⟩
  unfold fMake at p
  cases hg : g δ m with
  | bad => rw [hg] at p; exact p
  | exc x m1 => rw [hg] at p; exact p
  | ok ds m1 =>
    rw [hg] at p
    intro π1 vs H1 s1 rv x dx hx hdx hne
    simp only [Rs.bind] at p
    by_cases hn : ds.length + 1 = n
    · rw [if_pos hn] at p
      replace p := Post.from_ s1 p
      rw [List.append_nil]
      have a1 := a.step s1
      have ga : Go G π1 m1 H1 π1 m1 (upd H1 dx (.own x)) := Go.of s1.ok (same_new hdx)
      have hx2 : upd H1 dx (.own x) x = none := by rw [upd_ne (fun z => hne z.symm)]; exact hx
      have gb := ga.ok.push (o := .ins (G.cn c) dx []) (d := .ins c [] []) hx2 ⟨dx, [], upd_same, rfl, rfl⟩
      have g2 := ga.trans gb
      have self : Rep (G.at ⟨π1.pi ++ [x], π1.hb, π1.lm⟩) (hid (lv ⟨π1.pi ++ [x], π1.hb, π1.lm⟩ (m1 ++ [some (.ins c [] [])])) (upd (upd H1 dx (.own x)) x (.ins (G.cn c) dx []))) (.ref m1.length) (.ref x) := rep_pushed s1.ok
      refine ⟨by rw [List.length_cons, RepAll.length rv]; exact hn, ⟨π1.pi ++ [x], π1.hb, π1.lm⟩, .dat (.ref m1.length) :: ds.map .dat, m1 ++ [some (.ins c [] [])], ?_, ?_⟩
      · exact (at_dats (ds := .ref m1.length :: ds) (vs := .ref x :: vs) (a1.step g2) ⟨_, _, rfl, self, g2.ex.repAll ds rv⟩).j0
      refine Post.j0 ?_
      replace p := Post.from_ g2 p
      cases hF : F (.dat (.ref m1.length) :: ds.map .dat) (m1 ++ [some (.ins c [] [])]) with
      | bad => rw [hF] at p; exact p
      | exc y m2 => rw [hF] at p; exact p
      | ok r m2 =>
        rw [hF] at p
        intro π3 w H3 s3 rr
        simp only at p
        cases r with
        | non =>
          obtain rfl : w = .non := rr
          exact ⟨rfl, p π3 (.ref x) H3 s3 (s3.ex.rep _ self)⟩
        | _ => exact False.elim p
    · rw [if_neg hn] at p; exact False.elim p
theorem de_make {x c : Str} {ps : List Str} {k n : Nat} {F : Sls → Mir → Rs DM.D} {p pos : Pos} {e : Expr} {es : List Expr} {g : Fa} (D : Kd X.prog X.w X.K X.mg X.base x (cn c) ps k (spD (gx X.K cn) n F)) (hr : Room (k + 1) X.A) (hx : PasC X E) (ha : DA X cn E (e :: es) g) (hg : Gl X x := by rfl)
    (hdb : (x == ("__debug__" : Str)) = false := by decide) (he : starEach (e :: es) X.env = (false, eval e X.env) :: starEach es X.env := by rfl) (hpl : (backTo pos (starEach es X.env)).any (·.1) = false := by rfl) : DE X cn E (.Call (.Name x p) (e :: es) [] pos) (fMake c n F g) := by
  obtain ⟨f, fd, hm, M, hb, Fo⟩ := D.ex
  obtain ⟨e0, h0, hp⟩ := hx.ex
  refine PE.imp (pe_make M Fo hr hg hm hb .nil hp ha hdb he hpl) fun σ H Q q => ?_
  have q2 := lift_make q
  rw [h0 σ] at q2
  exact q2
theorem de_make0 {x c : Str} {ps : List Str} {k n : Nat} {F : Sls → Mir → Rs DM.D} {p pos : Pos} (D : Kd X.prog X.w X.K X.mg X.base x (cn c) ps k (spD (gx X.K cn) n F)) (hr : Room (k + 1) X.A) (hx : PasC X E) (hg : Gl X x := by rfl)
    (hdb : (x == ("__debug__" : Str)) = false := by decide) : DE X cn E (.Call (.Name x p) [] [] pos) (fMake c n F fNil) := by
  obtain ⟨f, fd, hm, M, hb, Fo⟩ := D.ex
  obtain ⟨e0, h0, hp⟩ := hx.ex
  refine PE.imp (pe_make0 M Fo hr hg hm hb .nil hp hdb) fun σ H Q q => ?_
  have q2 := lift_make q
  rw [h0 σ] at q2
  exact lift_nil q2

/-! ### self.f = e -/
/-- an attribute is stored: in its place, or last -/
def putN (f : Str) : List Str → List Str
  | [] => [f]
  | n :: ns => if n = f then n :: ns else n :: putN f ns
def putDs (f : Str) (d : D) : List Str → List D → List D
  | n :: ns, e :: ds => if n = f then d :: ds else e :: putDs f d ns ds
  | _, _ => [d]
theorem put_rep {G : Gx} {H : Hp} {f : Str} {d : D} {v : V} (rd : Rep G H d v) : ∀ {ns : List Str} {ds : List D} {xs : List V}, ns.length = ds.length → RepAll G H ds xs →
    ∃ ys, putF f v (ns.zip xs) = (putN f ns).zip ys ∧ (putN f ns).length = (putDs f d ns ds).length ∧ RepAll G H (putDs f d ns ds) ys
  | [], [], xs, _, r => by
    obtain rfl : xs = [] := r
    exact ⟨[v], rfl, rfl, v, [], rfl, rd, rfl⟩
  | n :: ns, e :: ds, _, hl, ⟨u, r, h1, h2, h3⟩ => by
    subst h1
    show ∃ ys, (if n = f then (n, v) :: ns.zip r else (n, u) :: putF f v (ns.zip r)) = _ ∧ _
    simp only [putN, putDs]
    by_cases hn : n = f
    · rw [if_pos hn, if_pos hn, if_pos hn]
      exact ⟨v :: r, rfl, by simpa using hl, v, r, rfl, rd, h3⟩
    · rw [if_neg hn, if_neg hn, if_neg hn]
      obtain ⟨ys, e1, e2, e3⟩ := put_rep rd (ns := ns) (ds := ds) (by simpa using hl) h3
      exact ⟨u :: ys, by rw [e1]; rfl, by simp [e2], u, ys, rfl, h2, e3⟩
  | [], _ :: _, _, hl, _ => by cases hl
  | _ :: _, [], _, hl, _ => by cases hl
def sFld (cs : List Str) (f : Str) (fo fv : Fe) : Fs := fun δ m => DM.thn (fv δ m) δ fun v m1 => DM.thn (fo δ m1) δ fun o m2 => match o with
  | .ref n => (match cell m2 n with
    | some (.ins c ns ds) => if hasC c cs = true ∧ ns.length < 1000 then .nx δ (m2.set n (some (.ins c (putN f ns) (putDs f v ns ds)))) else .bad
    | _ => .bad)
  | _ => .bad
theorem ds_fld {cs : List Str} {f : Str} {o value : Expr} {pos' pos : Pos} {fo fv : Fe} (h : FldOk X.K cn cs f) (ho : DE X cn E o fo) (hv : DE X cn E value fv) (hs : swapsWith value (some (.Attribute o f pos')) pos.line X.env = pure false := by rfl) :
    DS X cn E (.Assign [.Attribute o f pos'] value pos) (sFld cs f fo fv) := by
  refine PS.imp (ps_fld ho hv hs) fun Dn σ H q => ?_
  obtain ⟨π, δ, m, a, p⟩ := q
  refine ⟨π, δ, m, a, post_thn a p fun v m1 π1 w H1 s1 a1 rv p => ?_⟩
  refine ⟨π1, δ, m1, a1, post_thn a1 p fun od m2 π2 u H2 s2 a2 ro p => ?_⟩
  cases od with
  | ref n =>
    simp only at p
    cases hc : cell m2 n with
    | none => rw [hc] at p; exact False.elim p
    | some c =>
      rw [hc] at p
      cases c with
      | ins c ns ds =>
        simp only at p
        split at p
        · rename_i hh
          obtain ⟨q, rfl, hq⟩ := ro
          obtain ⟨dx, xs, t1, t0, t2⟩ := a2.mok.cel n _ q (cell_iff.mp hc) hq
          obtain ⟨k1, k2⟩ := h c (hasC_mem hh.1)
          obtain ⟨ys, e1, e2, e3⟩ := put_rep (f := f) (s2.ex.rep v rv) t0 t2
          refine ⟨q, cn c, dx, ns.zip xs, rfl, t1, k1, k2, ?_, ?_⟩
          · rw [List.length_zip]
            have := hh.2
            omega
          · rw [e1]
            have g4 := a2.mok.put (o := .ins (cn c) dx ((putN f ns).zip ys)) (d' := .ins c (putN f ns) (putDs f v ns ds)) (cell_iff.mp hc) hq ⟨dx, ys, upd_same, e2, e3⟩
            exact p _ _ _ g4.ex (a2.step g4)
        · exact False.elim p
      | _ => exact False.elim p
  | _ => exact False.elim p

/-! ### C.f, a constant of the class -/
structure Cv (K : PySem.W.Frag) (mg : Str → Option Value) (cn : Str → Addr) (x f : Str) (d : D) : Prop where
  ex : ∃ (C : Addr) (mc : Value) (v : V) (u : Value), mg x = some (.ref C) ∧ ClX.CRead K C mc ∧ ClX.CVal K C mc f v u ∧ ∀ π H, Rep (Gx.at (gx K (c0 cn)) π) H d v
theorem cv_of {K : PySem.W.Frag} {mg : Str → Option Value} {cn : Str → Addr} {x f : Str} {d : D} {C : Addr} {mc u : Value} (n : Nat) (hm : mg x = some (.ref C)) (h1 : PySem.W.readsIn K C mc = true) (h2 : PySem.W.specialIn K (.ref C) "__getattribute__" = some (some (.builtin "type.__getattribute__")))
    (h3 : PySem.W.findCls K (.ref C) mc f = some (.val u)) (h : readC K n u = some d) : Cv K mg cn x f d := by
  obtain ⟨v, r1, r2⟩ := readC_of (cn := cn) n u d h
  exact ⟨C, mc, v, u, hm, ⟨h1, h2⟩, ⟨h3, r1⟩, r2⟩
theorem de_ccon {x f : Str} {d : DM.D} {p pos : Pos} (h : Cv X.K X.mg cn x f d) (hg : Gl X x := by rfl) (hd : (x == ("__debug__" : Str)) = false := by decide) (hb : attributeBase (.Name x p) f X.env (eval (.Name x p) X.env) = eval (.Name x p) X.env := by rfl) :
    DE X cn E (.Attribute (.Name x p) f pos) (fC d) := by
  obtain ⟨C, mc, v, u, hm, r, k, hr⟩ := h.ex
  refine PE.imp (ClX.pe_cval (pe_glob (v := .ref C) hg hm rfl hd) hb) fun σ H Q q => ?_
  exact ⟨C, mc, v, u, rfl, r, k, lift_c (G := gx X.K cn) (fun π H => hr π H) q⟩
end
end DM

/-! Own operators of instances of one class: *, ==, !=, truth. No exception leaves them. -/
namespace DM
open PySem PySem.Spec PyProof.Rows L2

section
variable {prog : Program} {w : World} {A : Around} {EE : Value → Shared → Prop} {s : Shared} {K : PySem.W.Frag} {x C f : Addr} {ox : Obj} {od : Option Obj} {b : Value}
/-- what x != b comes to where the class of both has an own == and no own != -/
theorem tryNe {Q : Option Value → Shared → Prop} (kin : K.In s.heap) (J : PySem.W.InstAt s.heap x ox C od) (hu : A.units + 1 < cLine) (no : PySem.W.findIn K (.ref C) "__ne__" = some (some (.builtin "object.__ne__")))
    (top : PySem.W.mroIn K C (.type "object") = some true) (eq : PySem.W.findIn K (.ref C) "__eq__" = some (some (.ref f))) (fn : PySem.W.isFn K (.ref f) = true)
    (run : wpAny (model prog w) A.in1 (call (.ref f) [.ref x, b]) (fun v s' => ∃ c, v = .bool c ∧ Q (some (.bool (!c))) s') EE s) : wpAny (model prog w) A (tryCompare (.ref x) "__ne__" b) Q EE s := by
  have body : wpAny (model prog w) A.in1 (Builtin.«object.__ne__» ⟨[.ref x, b], []⟩) (fun r s' => ∃ c, r = .done (.ret (.bool (!c))) ∧ Q (some (.bool (!c))) s') EE s := by
    unfold Builtin.«object.__ne__»
    show wpAny _ _ ((cRoomFor "comparison" [.ref x, b]) >>= _) _ _ _
    have hu1 : A.in1.units < cLine := by
      have e : A.in1.units = A.units + 1 := rfl
      omega
    refine wpAny_bind (wpAny_cRoomFor hu1 (wpAny_bind (m := callSpecialIfBound? (.ref x) (Str.ofString "__eq__") [b]) (PySem.W.ifBound_K kin J eq fn (wpAny_mono run (fun v s' z => ?_) fun _ _ e => e))))
    obtain ⟨c, rfl, q⟩ := z
    exact wpAny_bind (m := truthy (.bool c)) (wpAny_truthy_bool (wpAny_pure ⟨c, rfl, q⟩))
  have whole : wpAny (model prog w) A (call (.builtin "object.__ne__") [.ref x, b]) (fun v s' => ∃ c, v = .bool (!c) ∧ Q (some v) s') EE s := by
    refine wpAny_call (codeAny_call_builtin F.cmp_object.ne.plain F.cmpEntry_ne (PySem.W.check_slot F.cmpKind_ne F.cmpSplit_ne (J.type.andThen (PySem.W.looks_mroIn kin top)) (F.cmpArgs_ne _ _) (wpAny_mono body (fun r s' z => ?_) fun _ _ e => e)))
    obtain ⟨c, rfl, q⟩ := z
    exact ⟨c, rfl, q⟩
  have fin : wpAny (model prog w) A (call (.builtin "object.__ne__") ([.ref x] ++ [b]) >>= fun v => pure (some v)) (fun r s' => ∃ c, r = some (Value.bool (!c)) ∧ Q r s') EE s := wpAny_bind (wpAny_mono whole (fun v s' ⟨c, e, q⟩ => by subst e; exact wpAny_pure ⟨c, rfl, q⟩) fun _ _ e => e)
  have found : wpAny (model prog w) A (callSpecialIfBound? (.ref x) "__ne__" [b]) (fun r s' => ∃ c, r = some (Value.bool (!c)) ∧ Q r s') EE s := by
    unfold callSpecialIfBound? bindSpecialIfBound?
    refine wpAny_holding (wpAny_bind (wpAny_bind (wpAny_bind (J.type.here ((PySem.W.looks_findIn kin no).here (wpAny_bind (wpAny_askSetting (wpAny_ite ?_))))))))
    split
    · refine wpAny_bind (wpAny_of_eq (F.cmp_object.ne.bind _) (wpAny_pure ?_))
      exact fin
    · refine wpAny_tryCatch (wpAny_bind (wpAny_of_eq (F.cmp_object.ne.bind _) (wpAny_pure ?_)))
      exact fin
  unfold tryCompare
  refine wpAny_bind (wpAny_mono found (fun r s' z => ?_) fun _ _ e => e)
  obtain ⟨c, rfl, q⟩ := z
  exact wpAny_pure q
theorem rcNe {Q : Value → Shared → Prop} (kin : K.In s.heap) (J : PySem.W.InstAt s.heap x ox C od) (J2 : PySem.W.Looks (model prog w) s.heap (typeOf b) (.ref C)) (hu : A.units + 1 < cLine) (no : PySem.W.findIn K (.ref C) "__ne__" = some (some (.builtin "object.__ne__")))
    (top : PySem.W.mroIn K C (.type "object") = some true) (eq : PySem.W.findIn K (.ref C) "__eq__" = some (some (.ref f))) (fn : PySem.W.isFn K (.ref f) = true)
    (run : wpAny (model prog w) A.in1 (call (.ref f) [.ref x, b]) (fun v s' => ∃ c, v = .bool c ∧ Q (.bool (!c)) s') EE s) : wpAny (model prog w) A (richCompare .NotEq (.ref x) b) Q EE s := by
  have one : wpAny (model prog w) A (tryCompare (.ref x) "__ne__" b) (fun r s' => ∃ v, r = some v ∧ Q v s') EE s := tryNe kin J hu no top eq fn (wpAny_mono run (fun v s' ⟨c, e, q⟩ => ⟨c, e, _, rfl, q⟩) fun _ _ e => e)
  have same : (Value.ref C != Value.ref C) = false := by simp
  unfold richCompare
  rw [oneThing_ref]
  apply wpAny_holding
  apply wpAny_bind
  apply wpAny_cRoomFor (Nat.lt_of_succ_lt hu)
  apply wpAny_bind
  apply J.type.here
  apply wpAny_bind
  apply J2.here
  rw [same, if_neg Bool.false_ne_true]
  apply wpAny_bind
  apply wpAny_pure
  dsimp only
  rw [if_neg Bool.false_ne_true]
  apply wpAny_bind
  exact wpAny_mono one (by rintro _ _ ⟨v, rfl, q⟩; exact wpAny_pure q) fun _ _ z => z
end

/-! ### rules on values -/
section
variable {X : Cx} {C f : Addr} {k : Nat} {sp : Sp}
theorem inst_of {pins : List (Addr × Obj)} {σ : L2.St} {H : Hp} {s : Shared} {a dx : Addr} {fs : List (Str × V)} (I : Inv X pins σ H s) (e : H a = some (.ins C dx fs)) : ∃ od, PySem.W.InstAt s.heap a (PySem.W.instObj C dx) C (some od) := by
  obtain ⟨_, O, _⟩ := ins_get I.hok e
  obtain ⟨od, J, _⟩ := O.look
  exact ⟨od, J⟩
/-- the def at f runs in A' -/
theorem run_in {A' : Around} {pins : List (Addr × Obj)} {σ : L2.St} {H : Hp} {s : Shared} {Q : VK} {us : List Value} {vs : List V} (F : FnR X.prog X.w X.K X.mg X.base (L2N.CX X.prog X.w) k f sp) (hr : Room k A') (e0 : Env0 X.prog X.w X.K X.mg X.base A' X.stack s H) (I : Inv X pins σ H s) (r : Vals vs us) (h : sp vs H Q E0) :
    wpAny (model X.prog X.w) A' (call (.ref f) us) (EP X pins σ Q) X.xe s := by
  refine wpAny_call (codeAny_mono (F A' X.stack s H us vs Q E0 hr e0 r h) fun r s' z => ?_)
  match r, z with
  | .error e, z => exact passN pins σ H s e s' I z
  | .ok (.ret v), z => exact I.after z
def rOB (C : Addr) (sp : Sp) : R2 := fun x y H Q => ∃ a dx fs b dy gs, x = .ref a ∧ y = .ref b ∧ H a = some (.ins C dx fs) ∧ H b = some (.ins C dy gs) ∧ sp [x, y] H Q E0
def rOBn (C : Addr) (sp : Sp) : R2 := fun x y H Q => ∃ a dx fs b dy gs, x = .ref a ∧ y = .ref b ∧ H a = some (.ins C dx fs) ∧ H b = some (.ins C dy gs) ∧ sp [x, y] H (fun v H1 => ∃ c, v = .bl c ∧ Q (.bl (!c)) H1) E0
theorem op_ownMul (M : Meth X.K C "__mul__" f) (sf : PySem.W.selfFirst X.K C = true) (F : FnR X.prog X.w X.K X.mg X.base (L2N.CX X.prog X.w) k f sp) (hr : Room k X.A) : OpR X (binaryOp .Mult) (rOB C sp) := by
  rintro pins s σ H _ _ v u Q I rx ry ⟨a, dx, fs, b, dy, gs, rfl, rfl, ha, hb, q⟩
  cases rx
  cases ry
  obtain ⟨_, J⟩ := inst_of I ha
  obtain ⟨_, J2⟩ := inst_of I hb
  obtain ⟨m, fr⟩ := I.fr
  refine PySem.W.binop_K fr I.ok.mod.kin J J2.type sf M.at_ M.fn (wpAny_mono (run_in (us := [.ref a, .ref b]) (vs := [.ref a, .ref b]) F hr I.env0 I (.cons rfl (.cons rfl .nil)) q) (fun w s' ⟨z, H', I', rz, qz⟩ => SlX.cmpback rz ⟨z, H', I', rz, qz⟩) fun _ _ e => e)
theorem op_ownEq (M : Meth X.K C "__eq__" f) (F : FnR X.prog X.w X.K X.mg X.base (L2N.CX X.prog X.w) k f sp) (hr : Room k X.A) : OpR X (compareOp .Eq) (rOB C sp) := by
  rintro pins s σ H _ _ v u Q I rx ry ⟨a, dx, fs, b, dy, gs, rfl, rfl, ha, hb, q⟩
  cases rx
  cases ry
  obtain ⟨_, J⟩ := inst_of I ha
  obtain ⟨_, J2⟩ := inst_of I hb
  obtain ⟨m, fr⟩ := I.fr
  have nf : PySem.W.notFirst X.K C (.ref C) = true := by simp [PySem.W.notFirst]
  exact PySem.W.cmp_K (op := .Eq) (tb := .ref C) hr.units0 fr I.ok.mod.kin J J2.type nf M.at_ M.fn (wpAny_mono (run_in (us := [.ref a, .ref b]) (vs := [.ref a, .ref b]) F hr I.env0 I (.cons rfl (.cons rfl .nil)) q) (fun w s' ⟨z, H', I', rz, qz⟩ => SlX.cmpback rz ⟨z, H', I', rz, qz⟩) fun _ _ e => e)
theorem op_ownNe (M : Meth X.K C "__eq__" f) (no : PySem.W.findIn X.K (.ref C) "__ne__" = some (some (.builtin "object.__ne__"))) (top : PySem.W.mroIn X.K C (.type "object") = some true) (F : FnR X.prog X.w X.K X.mg X.base (L2N.CX X.prog X.w) k f sp) (hr : Room (k + 1) X.A) : OpR X (compareOp .NotEq) (rOBn C sp) := by
  rintro pins s σ H _ _ v u Q I rx ry ⟨a, dx, fs, b, dy, gs, rfl, rfl, ha, hb, q⟩
  cases rx
  cases ry
  obtain ⟨_, J⟩ := inst_of I ha
  obtain ⟨_, J2⟩ := inst_of I hb
  refine rcNe I.kIn J J2.type (by have := hr.in1.units0; exact this) no top M.at_ M.fn (wpAny_mono (run_in (us := [.ref a, .ref b]) (vs := [.ref a, .ref b]) F hr.in1 I.env0.in1 I (.cons rfl (.cons rfl .nil)) q) (fun w s' z => ?_) fun _ _ e => e)
  obtain ⟨_, H', I', rz, c, rfl, qz⟩ := z
  cases rz
  exact ⟨c, rfl, .bl (!c), H', I', rfl, qz⟩
def rOT (C : Addr) (sp : Sp) : V → Hp → (Bool → Hp → Prop) → Prop := fun x H Q => ∃ a dx fs, x = .ref a ∧ H a = some (.ins C dx fs) ∧ sp [x] H (fun v H1 => ∃ c, v = .bl c ∧ Q c H1) E0
theorem tru_own (M : Meth X.K C "__bool__" f) (F : FnR X.prog X.w X.K X.mg X.base (L2N.CX X.prog X.w) k f sp) (hr : Room k X.A) : TruR X (rOT C sp) := by
  rintro pins s σ H _ v Q I rx ⟨a, dx, fs, rfl, ha, q⟩
  cases rx
  obtain ⟨_, J⟩ := inst_of I ha
  obtain ⟨m, fr⟩ := I.fr
  refine PySem.W.truthy_K fr I.ok.mod.kin J M.at_ M.fn (wpAny_mono (run_in (us := [.ref a]) (vs := [.ref a]) F hr I.env0 I (.cons rfl .nil) q) (fun w s' z => ?_) fun _ _ e => e)
  obtain ⟨_, H', I', rz, c, rfl, qz⟩ := z
  cases rz
  exact ⟨H', I', qz⟩
end

/-! ### over data -/
def isC (c : Str) (o : Option D) : Bool := match o with
  | some (.ins c' _ _) => c == c'
  | _ => false
def fOw2 (c : Str) (F : Sls → Mir → Rs D) (f g : Fe) : Fe := fun δ m => (f δ m).bind fun x m1 => (g δ m1).bind fun y m2 => if isC c (view m2 x) = true ∧ isC c (view m2 y) = true then noX (F [.dat x, .dat y] m2) else .bad
def notD : Rs D → Rs D
  | .ok (.bl b) m => .ok (.bl (!b)) m
  | _ => .bad
def fOwN (c : Str) (F : Sls → Mir → Rs D) (f g : Fe) : Fe := fun δ m => notD (fOw2 c F f g δ m)
theorem isC_of {c : Str} {o : Option D} (h : isC c o = true) : ∃ ns ds, o = some (.ins c ns ds) := by
  cases o with
  | none => cases h
  | some d => cases d <;> first | (cases h) | (rename_i c' ns ds; exact ⟨ns, ds, by rw [eq_of_beq h]⟩)
theorem isC_view {G : Gx} {π : Wv} {m : Mir} {H : Hp} {x : D} {v : V} {c : Str} (k : MOk G π H m) (r : Rep (G.at π) (hid (lv π m) H) x v) (h : isC c (view m x) = true) : ∃ p dx fs, v = .ref p ∧ H p = some (.ins (G.cn c) dx fs) := by
  obtain ⟨ns, ds, e⟩ := isC_of h
  obtain ⟨p, dx, xs, h1, h2, _⟩ := ins_view (a := (c, ns, ds)) k r (by rw [e]; rfl)
  exact ⟨p, dx, _, h1, h2⟩
section
variable {G : Gx} {E : XKS} {σ : L2.St} {H : Hp} {Q : VK} {c : Str} {F : Sls → Mir → Rs D} {f g : Fe}
theorem Post.noX {E' : XK} {π : Wv} {m : Mir} {H : Hp} {Q : VK} {r : Rs D} (p : Post G E' π m H Q (noX r)) : Post G E0 π m H Q r := by
  cases r with
  | ok d m1 => exact p
  | exc x m1 => exact False.elim p
  | bad => exact p
theorem lift_ow2 (h : tD G E (fOw2 c F f g) σ H Q) : tOp (rOB (G.cn c) (spD G 2 F)) (tD G E f) (tD G E g) σ H Q := by
  obtain ⟨π, δ, m, a, p⟩ := h
  refine ⟨π, δ, m, a, ?_⟩
  unfold fOw2 at p
  cases hf : f δ m with
  | bad => rw [hf] at p; exact p
  | exc x m1 => rw [hf] at p; exact p
  | ok x m1 =>
    rw [hf] at p
    intro π1 v H1 s1 rx
    have a1 := a.step s1
    refine ⟨π1, δ, m1, a1, ?_⟩
    replace p := Post.from_ s1 p
    simp only [Rs.bind] at p
    cases hg : g δ m1 with
    | bad => rw [hg] at p; exact p
    | exc x2 m2 => rw [hg] at p; exact p
    | ok y m2 =>
      rw [hg] at p
      intro π2 u H2 s2 ry
      simp only at p
      by_cases hc : isC c (view m2 x) = true ∧ isC c (view m2 y) = true
      · rw [if_pos hc] at p
        have rx2 := s2.ex.rep x rx
        obtain ⟨p1, dx, fs, rfl, e1⟩ := isC_view s2.ok rx2 hc.1
        obtain ⟨p2, dy, gs, rfl, e2⟩ := isC_view s2.ok ry hc.2
        exact ⟨p1, dx, fs, p2, dy, gs, rfl, rfl, e1, e2, rfl, π2, _, m2, (at_dats (ds := [x, y]) (vs := [.ref p1, .ref p2]) (a1.step s2) ⟨_, _, rfl, rx2, _, _, rfl, ry, rfl⟩).j0, (Post.noX (Post.from_ s2 p)).j0⟩
      · rw [if_neg hc] at p; exact False.elim p
theorem lift_owN (h : tD G E (fOwN c F f g) σ H Q) : tOp (rOBn (G.cn c) (spD G 2 F)) (tD G E f) (tD G E g) σ H Q := by
  obtain ⟨π, δ, m, a, p⟩ := h
  refine (show tOp (rOB (G.cn c) (spD G 2 F)) (tD G E f) (tD G E g) σ H (fun v H1 => ∃ c, v = .bl c ∧ Q (.bl (!c)) H1) from lift_ow2 ⟨π, δ, m, a, ?_⟩)
  unfold fOwN at p
  cases hr : fOw2 c F f g δ m with
  | bad => rw [hr] at p; exact p
  | exc x m1 => rw [hr] at p; exact False.elim p
  | ok d m1 =>
    rw [hr] at p
    intro π2 v H2 s2 rv
    cases d with
    | bl b => exact ⟨b, rv, p π2 (.bl (!b)) H2 s2 rfl⟩
    | _ => exact False.elim p
def toB : Rs D → Rs Bool
  | .ok (.bl b) m => .ok b m
  | _ => .bad
/-- the truth of an instance with an own __bool__ -/
def fOwT (c : Str) (F : Sls → Mir → Rs D) (f : Fe) : Ft := fun δ m => (f δ m).bind fun x m1 => if isC c (view m1 x) = true then toB (F [.dat x] m1) else .bad
theorem lift_owT {Q : Bool → Hp → Prop} (h : tDT G E (fOwT c F f) σ H Q) : tD G E f σ H fun x H1 => rOT (G.cn c) (spD G 1 F) x H1 Q := by
  obtain ⟨π, δ, m, a, p⟩ := h
  refine ⟨π, δ, m, a, ?_⟩
  unfold fOwT at p
  cases hf : f δ m with
  | bad => rw [hf] at p; exact p
  | exc x m1 => rw [hf] at p; exact p
  | ok x m1 =>
    rw [hf] at p
    intro π1 v H1 s1 rx
    simp only [Rs.bind] at p
    by_cases hc : isC c (view m1 x) = true
    · rw [if_pos hc] at p
      obtain ⟨q, dx, fs, rfl, e1⟩ := isC_view s1.ok rx hc
      refine ⟨q, dx, fs, rfl, e1, rfl, π1, [.dat x], m1, (at_dats (ds := [x]) (vs := [.ref q]) (a.step s1) ⟨_, _, rfl, rx, rfl⟩).j0, ?_⟩
      refine Post.j0 ?_
      cases hF : F [.dat x] m1 with
      | bad => rw [hF] at p; exact False.elim p
      | exc y m2 => rw [hF] at p; exact False.elim p
      | ok d m2 =>
        rw [hF] at p
        intro π2 v2 H2 s2 rv
        cases d with
        | bl b => exact ⟨b, rv, p π2 H2 (s1.trans s2)⟩
        | _ => exact False.elim p
    · rw [if_neg hc] at p; exact False.elim p
end

/-! ### rules of the text -/
section
variable {X : Cx} {cn : Cn} {E : XKS} {c : Str} {k : Nat} {F : Sls → Mir → Rs DM.D} {a b : Expr} {f g : Fe} {pos : Pos}
theorem de_ownMul {ps : List Str} (D : Md X.prog X.w X.K X.mg X.base (cn c) "__mul__" ps k (spD (gx X.K cn) 2 F)) (sf : PySem.W.selfFirst X.K (cn c) = true) (hr : Room k X.A) (ha : DE X cn E a f) (hb : DE X cn E b g) : DE X cn E (.BinOp a .Mult b pos) (fOw2 c F f g) := by
  obtain ⟨fa, fd, hm, bi, Fo⟩ := D.ex
  exact PE.imp (pe_op (op_ownMul hm sf (Fo.raw bi .nil) hr) ha hb) fun σ H Q h => by simpa using lift_ow2 h
theorem de_ownEq {ps : List Str} (D : Md X.prog X.w X.K X.mg X.base (cn c) "__eq__" ps k (spD (gx X.K cn) 2 F)) (hr : Room k X.A) (ha : DE X cn E a f) (hb : DE X cn E b g) (hm : behindInMarks .Eq b = false := by first | exact nomark _ | rfl) : DE X cn E (.Compare a [.Eq] [b] pos) (fOw2 c F f g) := by
  obtain ⟨fa, fd, M, bi, Fo⟩ := D.ex
  exact PE.imp (pe_cmpR (op_ownEq M (Fo.raw bi .nil) hr) ha hb hm) fun σ H Q h => by simpa using lift_ow2 h
/-- what == and != ask of the class besides its __eq__ -/
structure NeOk (K : PySem.W.Frag) (C : Addr) : Prop where
  no : PySem.W.findIn K (.ref C) "__ne__" = some (some (.builtin "object.__ne__"))
  top : PySem.W.mroIn K C (.type "object") = some true
theorem de_ownNe {ps : List Str} (D : Md X.prog X.w X.K X.mg X.base (cn c) "__eq__" ps k (spD (gx X.K cn) 2 F)) (no : NeOk X.K (cn c)) (hr : Room (k + 1) X.A) (ha : DE X cn E a f) (hb : DE X cn E b g) (hm : behindInMarks .NotEq b = false := by first | exact nomark _ | rfl) :
    DE X cn E (.Compare a [.NotEq] [b] pos) (fOwN c F f g) := by
  obtain ⟨fa, fd, M, bi, Fo⟩ := D.ex
  exact PE.imp (pe_cmpR (op_ownNe M no.no no.top (Fo.raw bi .nil) hr) ha hb hm) fun σ H Q h => by simpa using lift_owN h
theorem dt_ownNe {ps : List Str} (D : Md X.prog X.w X.K X.mg X.base (cn c) "__eq__" ps k (spD (gx X.K cn) 2 F)) (no : NeOk X.K (cn c)) (hr : Room (k + 1) X.A) (ha : DE X cn E a f) (hb : DE X cn E b g) (hm : behindInMarks .NotEq b = false := by first | exact nomark _ | rfl) :
    DT X cn E (.Compare a [.NotEq] [b] pos) (fB (fOwN c F f g)) := by
  obtain ⟨fa, fd, M, bi, Fo⟩ := D.ex
  refine PT.imp (pt_cmpR (op_ownNe M no.no no.top (Fo.raw bi .nil) hr) ha hb hm) fun σ H Q h => ?_
  have h2 := lift_owN (lift_b h)
  simpa using (show tTest (tOp _ _ _) σ H Q from h2)
theorem dt_ownEq {ps : List Str} (D : Md X.prog X.w X.K X.mg X.base (cn c) "__eq__" ps k (spD (gx X.K cn) 2 F)) (hr : Room k X.A) (ha : DE X cn E a f) (hb : DE X cn E b g) (hm : behindInMarks .Eq b = false := by first | exact nomark _ | rfl) :
    DT X cn E (.Compare a [.Eq] [b] pos) (fB (fOw2 c F f g)) := by
  obtain ⟨fa, fd, M, bi, Fo⟩ := D.ex
  refine PT.imp (pt_cmpR (op_ownEq M (Fo.raw bi .nil) hr) ha hb hm) fun σ H Q h => ?_
  have h2 := lift_ow2 (lift_b h)
  simpa using (show tTest (tOp _ _ _) σ H Q from h2)
theorem dt_own {ps : List Str} (D : Md X.prog X.w X.K X.mg X.base (cn c) "__bool__" ps k (spD (gx X.K cn) 1 F)) (hr : Room k X.A) (ha : DE X cn E a f) (he : ∀ whole, isTrue a X.env whole = (do let v ← whole; standAt a.pos; holding [v] (truthy v)) := by intro _; rfl) : DT X cn E a (fOwT c F f) := by
  obtain ⟨fa, fd, M, bi, Fo⟩ := D.ex
  exact PT.imp (pt_truthR ha (tru_own M (Fo.raw bi .nil) hr) he) fun σ H Q h => by simpa using lift_owT h
end
end DM

/-! Methods, getters and __init__ from their bodies; isinstance of an own class; a statement that is never reached. -/
namespace DM
open PySem PySem.Spec PyProof.Rows L2
section
variable {P : Program} {w : World} {K : PySem.W.Frag} {mg : Str → Option Value} {base : Heap} {cn : Str → Addr} {k : Nat} {N ps : List Str} {g : Fs} {st : Stmt} {C : Addr} {m qual : Str}
/-- the body of a def, run -/
abbrev BodyOk (P : Program) (w : World) (K : PySem.W.Frag) (mg : Str → Option Value) (base : Heap) (cn : Str → Addr) (k : Nat) (N : List Str) (qual : Str) (st : Stmt) (g : Fs) : Prop :=
  ∀ (f : Addr) (cdv : Value) (A : Around) (outer : List Env) (s : Shared) (H : Hp) (E : XK), Room k (A.deeper (envOfC qual (defScope st) s.heap.objs.size f cdv)) →
    PSs (cxOf (L2N.CX P w) P w K mg base N qual (defScope st) f cdv A outer s H E) (defBody st) (tS (gx K (c0 cn)) (fun _ => E) g)
theorem Dm.md (D : Dm K C m qual st ps) (S : FnScope N ps (defScope st)) (hb : BodyOk P w K mg base cn k N qual st g) : Md P w K mg base C m ps (k + 1) (spD (gx K (c0 cn)) ps.length (runF N.length g)) := by
  obtain ⟨f, fd, M, F, b⟩ := D.ex
  exact ⟨f, fd, M, b, fn_ok F S (hb f)⟩
theorem Dk.kd {x : Str} (D : Dk K mg x C qual st ps) (S : FnScope N ps (defScope st)) (hb : BodyOk P w K mg base cn k N qual st g) : Kd P w K mg base x C ps (k + 1) (spD (gx K (c0 cn)) ps.length (runF N.length g)) := by
  obtain ⟨f, fd, hm, M, F, b⟩ := D.ex
  exact ⟨f, fd, hm, M, b, fn_ok F S (hb f)⟩
theorem Dp.pd {f : Str} (D : Dp K C f qual st) (S : FnScope N ["self"] (defScope st)) (hb : BodyOk P w K mg base cn k N qual st g) : Pd P w K mg base C f (k + 1) (spD (gx K (c0 cn)) 1 (runF N.length g)) := by
  obtain ⟨p, ga, fd, M, F, b⟩ := D.ex
  exact ⟨p, ga, fd, M, b, fn_ok F S (hb ga)⟩
end

/-! ### isinstance(e, C) -/
structure IsC (K : PySem.W.Frag) (C : Addr) : Prop where
  cl : Cls K C
  ca : PySem.W.findIn K (.ref C) "__class__" = some (some (.builtin "object.__class__"))
  cn : PySem.W.specialIn K (.builtin "object.__class__") "__get__" = some (some (.builtin "getset_descriptor.__get__"))
  ct : PySem.W.takesIn K (.builtin "object.__class__") = some true
  cm : PySem.W.mroIn K C (.type "object") = some true
  pl : ∀ T ∈ ["NoneType", "bool", "int", "str", "list", "tuple"], PySem.W.kitOne K (.type T) (.ref C) = some false
def fIsC (c : Str) (f : Fe) : Fe := fun δ m => (f δ m).bind fun x m1 => match view m1 x with
  | some y => if isC c (some y) = true then .ok (.bl true) m1 else if y.plain = true then .ok (.bl false) m1 else .bad
  | none => .bad
theorem tyD_mem {d : D} (h : d.plain = true) : tyD d ∈ ["NoneType", "bool", "int", "str", "list", "tuple"] := by
  cases d <;> simp only [tyD] <;> first | decide | (cases h)
section
variable {X : Cx} {cn : Cn} {E : XKS}
theorem ds_bad1 {s : Stmt} : DS X cn E s (fun _ _ => .bad) := ⟨fun pins s σ H Dn I h => by
  obtain ⟨_, _, _, _, p⟩ := h
  exact False.elim p⟩
theorem de_isC {c x y : Str} {p p2 pos : Pos} {e : Expr} {f : Fe} (hc : IsC X.K (cn c)) (hg : Gl X x) (hm : X.mg x = none) (hv : bootBuiltins x = some (.builtin "isinstance")) (hgC : Gl X y) (hmC : X.mg y = some (.ref (cn c))) (he : DE X cn E e f)
    (hn : x ≠ "__name__" := by decide) (hdb : (x == ("__debug__" : Str)) = false := by decide) (hdbC : (y == ("__debug__" : Str)) = false := by decide)
    (hs1 : starEach [.Name y p2] X.env = (false, eval (.Name y p2) X.env) :: starEach [] X.env := by rfl) (hs : starEach [e, .Name y p2] X.env = (false, eval e X.env) :: starEach [.Name y p2] X.env := by rfl) (hpl : (backTo pos (starEach [.Name y p2] X.env)).any (·.1) = false := by rfl) :
    DE X cn E (.Call (.Name x p) [e, .Name y p2] [] pos) (fIsC c f) := by
  refine PE.imp (pe_callB call_isi hg hm hv (pa_cons he (pa_cons (pe_glob (v := .ref (cn c)) hgC hmC rfl hdbC) pa_nil hs1) hs) hn hdb hs hpl) fun σ H Q h => ?_
  obtain ⟨π, δ, m, at0, p⟩ := h
  refine (show tD _ E f σ H _ from ⟨π, δ, m, at0, ?_⟩)
  unfold fIsC at p
  cases hf : f δ m with
  | bad => rw [hf] at p; exact p
  | exc x m1 => rw [hf] at p; exact p
  | ok d0 m1 =>
    rw [hf] at p
    intro π1 v H1 s1 rx0
    simp only [Rs.bind] at p
    cases v1 : view m1 d0 with
    | none => rw [v1] at p; exact False.elim p
    | some d =>
    rw [v1] at p
    simp only at p
    by_cases hi : isC c (some d) = true
    · rw [if_pos hi] at p
      obtain ⟨q, dx, fs, rfl, e1⟩ := isC_view s1.ok rx0 (by rw [v1]; exact hi)
      exact ⟨.ref q, .ref (cn c), _, _, true, rfl, .own _, .base (.ins e1 hc.cl hc.ca hc.cn hc.ct hc.cm), by simp [PySem.W.kitOne], p _ _ H1 s1 rfl⟩
    · rw [if_neg hi] at p
      by_cases hp : d.plain = true
      · rw [if_pos hp] at p
        have rx := view_rep s1.ok rx0 v1
        exact ⟨v, .ref (cn c), _, _, false, rfl, .own _, tyx_of hp rx, hc.pl _ (tyD_mem hp), p _ _ H1 s1 rfl⟩
      · rw [if_neg hp] at p; exact False.elim p
end
end DM

/-! list(zip( *rows )): a zip over any number of tuples, collected. -/
namespace ZN
open PySem PySem.Builtin PyProof.Rows

/-- a tuple that is walked: its iterator, the tuple, its items -/
structure Row where
  it : Addr
  tp : Addr
  xs : Array Value
def Stands (h : Heap) (i : Nat) (r : Row) : Prop := h.IsTupleIter r.it r.tp i ∧ h.IsTuple r.tp r.xs
/-- the items at i -/
def Col (i : Nat) : List Row → List Value → Prop
  | [], ys => ys = []
  | r :: l, ys => ∃ y t, ys = y :: t ∧ r.xs[i]? = some y ∧ Col i l t
theorem Col.length {i : Nat} : ∀ {l : List Row} {ys : List Value}, Col i l ys → l.length = ys.length
  | [], ys, h => by rw [show ys = [] from h]; rfl
  | r :: l, ys, ⟨y, t, e, _, h⟩ => by rw [e, List.length_cons, List.length_cons, Col.length h]
def Kp (wr : List Addr) (h h' : Heap) : Prop := ∀ b o, b ∉ wr → h.get? b = some o → h'.get? b = some o
theorem Kp.rfl' {wr : List Addr} {h : Heap} : Kp wr h h := fun _ _ _ e => e
theorem Kp.trans {wr : List Addr} {h h1 h2 : Heap} (a : Kp wr h h1) (b : Kp wr h1 h2) : Kp wr h h2 := fun c o n e => b c o n (a c o n e)
theorem Kp.mono {wr wr' : List Addr} {h h1 : Heap} (a : Kp wr h h1) (s : ∀ b ∈ wr, b ∈ wr') : Kp wr' h h1 := fun c o n e => a c o (fun m => n (s c m)) e
theorem Kp.but {a : Addr} {wr : List Addr} {h h1 : Heap} (s : Heap.SameBut a h h1) (m : a ∈ wr) : Kp wr h h1 := fun c o n e => (s.2 c fun q => n (q ▸ m)).trans e
/-- the rows lie apart -/
structure Apart (l : List Row) : Prop where
  nd : (l.map Row.it).Nodup
  tp : ∀ r ∈ l, ∀ q ∈ l, r.it ≠ q.tp
theorem Apart.tail {r : Row} {l : List Row} (a : Apart (r :: l)) : Apart l := ⟨(List.nodup_cons.mp a.nd).2, fun p hp q hq => a.tp p (List.mem_cons_of_mem _ hp) q (List.mem_cons_of_mem _ hq)⟩
theorem Apart.ne {r q : Row} {l : List Row} (a : Apart (r :: l)) (hq : q ∈ l) : q.it ≠ r.it := fun e => (List.nodup_cons.mp a.nd).1 (e ▸ List.mem_map_of_mem hq)
theorem Stands.kp {h h' : Heap} {i : Nat} {r : Row} {wr : List Addr} (s : Stands h i r) (k : Kp wr h h') (h1 : r.it ∉ wr) (h2 : r.tp ∉ wr) : Stands h' i r :=
  ⟨s.1.at fun o e => k _ o h1 e, s.2.at fun o e => k _ o h2 e⟩

section
variable {prog : Program} {w : World} {A : Around} {E : Value → Shared → Prop} {i : Nat}
abbrev StB := Option PySem.Fin × Array Value
theorem loopB {f : Value → StB → Sem (ForInStep StB)}
    (hf : ∀ (r : Row) (acc : Array Value) (x : Value) (s : Shared) (Q : ForInStep StB → Shared → Prop), Stands s.heap i r → r.xs[i]? = some x →
      (∀ h', h'.IsTupleIter r.it r.tp (i + 1) → Heap.SameBut r.it s.heap h' → Q (.yield (none, acc.push x)) { s with heap := h' }) → wpAny (model prog w) A (f (.ref r.it) (none, acc)) Q E s) :
    ∀ (l : List Row) (ys : List Value) (acc : Array Value) (s : Shared) (Q : StB → Shared → Prop), Col i l ys → (∀ r ∈ l, Stands s.heap i r) → Apart l →
      (∀ h', (∀ r ∈ l, Stands h' (i + 1) r) → Kp (l.map Row.it) s.heap h' → h'.objs.size = s.heap.objs.size → Q (none, acc ++ ys.toArray) { s with heap := h' }) →
      wpAny (model prog w) A (forIn (l.map fun r => Value.ref r.it) (none, acc) f) Q E s := by
  intro l
  induction l with
  | nil =>
    intro ys acc s Q hc _ _ hQ
    obtain rfl : ys = [] := hc
    exact wpAny_pure (by have := hQ s.heap (fun r hr => by cases hr) Kp.rfl' rfl; simpa using this)
  | cons r l ih =>
    intro ys acc s Q hc hs ap hQ
    obtain ⟨y, t, rfl, hy, hc⟩ := hc
    rw [List.map_cons, List.forIn_cons]
    refine wpAny_bind (hf r acc y s _ (hs r List.mem_cons_self) hy fun h' h1 h2 => ?_)
    have k1 : Kp [r.it] s.heap h' := Kp.but h2 (by simp)
    refine ih t (acc.push y) { s with heap := h' } Q hc (fun q hq => (hs q (List.mem_cons_of_mem _ hq)).kp k1 (by simpa using ap.ne hq) (by simpa using (ap.tp r List.mem_cons_self q (List.mem_cons_of_mem _ hq)).symm)) ap.tail fun h2' s2 k2 z2 => ?_
    have st : Stands h' (i + 1) r := ⟨h1, (hs r List.mem_cons_self).2.at fun o e => k1 _ o (by simpa using (ap.tp r List.mem_cons_self r List.mem_cons_self).symm) e⟩
    have := hQ h2' (fun q hq => ?_) (fun b o n e => k2 b o (fun m => n (List.mem_cons_of_mem _ m)) (k1 b o (fun m => n (by simp [List.mem_singleton.mp m])) e)) (z2.trans h2.1)
    · simpa using this
    · rcases List.mem_cons.mp hq with rfl | hq
      · refine st.kp k2 (List.nodup_cons.mp ap.nd).1 fun m => ?_
        obtain ⟨p, hp, e⟩ := List.mem_map.mp m
        exact ap.tp p (List.mem_cons_of_mem _ hp) q List.mem_cons_self e
      · exact s2 q hq

def tupO (a : Array Value) : Obj := { cls := .type "tuple", data := .seq a }
abbrev StA := Option PySem.Fin × Unit
theorem loopA {TO : Addr} {f : Value × Nat → StA → Sem (ForInStep StA)}
    (hf : ∀ (r : Row) (k : Nat) (arr : Array Value) (x : Value) (s : Shared) (Q : ForInStep StA → Shared → Prop), Stands s.heap i r → r.xs[i]? = some x → s.heap.get? TO = some (tupO arr) → arr.size ≤ 1000 → r.it ≠ TO →
      (∀ h', h'.IsTupleIter r.it r.tp (i + 1) → Kp [r.it, TO] s.heap h' → h'.objs.size = s.heap.objs.size → h'.get? TO = some (tupO (arr.setIfInBounds k x)) → Q (.yield (none, ())) { s with heap := h' }) → wpAny (model prog w) A (f (.ref r.it, k) (none, ())) Q E s) :
    ∀ (l : List Row) (ys pre : List Value) (s : Shared) (Q : StA → Shared → Prop), pre.length + l.length ≤ 1000 → Col i l ys → (∀ r ∈ l, Stands s.heap i r) → Apart l → (∀ r ∈ l, r.it ≠ TO ∧ r.tp ≠ TO) → s.heap.get? TO = some (tupO (pre ++ List.replicate l.length Value.none).toArray) →
      (∀ h', (∀ r ∈ l, Stands h' (i + 1) r) → Kp (TO :: l.map Row.it) s.heap h' → h'.objs.size = s.heap.objs.size → h'.get? TO = some (tupO (pre ++ ys).toArray) → Q (none, ()) { s with heap := h' }) →
      wpAny (model prog w) A (forIn ((l.map fun r => Value.ref r.it).zipIdx pre.length) (none, ()) f) Q E s := by
  intro l
  induction l with
  | nil =>
    intro ys pre s Q _ hc _ _ _ hT hQ
    obtain rfl : ys = [] := hc
    exact wpAny_pure (hQ s.heap (fun r hr => by cases hr) Kp.rfl' rfl (by simpa using hT))
  | cons r l ih =>
    intro ys pre s Q hn hc hs ap at_ hT hQ
    rw [List.length_cons] at hn
    obtain ⟨y, t, rfl, hy, hc⟩ := hc
    rw [List.map_cons, List.zipIdx_cons, List.forIn_cons]
    refine wpAny_bind (hf r _ _ y s _ (hs r List.mem_cons_self) hy hT (by simp; omega) (at_ r List.mem_cons_self).1 fun h' h1 k1 z1 hT' => ?_)
    have arr : ((pre ++ List.replicate (r :: l).length Value.none).toArray.setIfInBounds pre.length y) = ((pre ++ [y]) ++ List.replicate l.length Value.none).toArray := by
      rw [List.length_cons, List.replicate_succ, List.setIfInBounds_toArray]
      congr 1
      rw [List.set_append_right _ _ (Nat.le_refl _)]
      simp
    rw [arr] at hT'
    have len : (pre ++ [y]).length = pre.length + 1 := by simp
    have apart1 : ∀ q ∈ l, q.it ∉ [r.it, TO] ∧ q.tp ∉ [r.it, TO] := fun q hq => ⟨by simpa using ⟨ap.ne hq, (at_ q (List.mem_cons_of_mem _ hq)).1⟩, by simpa using ⟨(ap.tp r List.mem_cons_self q (List.mem_cons_of_mem _ hq)).symm, (at_ q (List.mem_cons_of_mem _ hq)).2⟩⟩
    have go := ih t (pre ++ [y]) { s with heap := h' } Q (by rw [len]; omega) hc (fun q hq => (hs q (List.mem_cons_of_mem _ hq)).kp k1 (apart1 q hq).1 (apart1 q hq).2) ap.tail (fun q hq => at_ q (List.mem_cons_of_mem _ hq)) hT' fun h2' s2 k2 z2 hT2 => ?_
    · rw [len] at go
      exact go
    have st : Stands h' (i + 1) r := ⟨h1, (hs r List.mem_cons_self).2.at fun o e => k1 _ o (by simpa using ⟨(ap.tp r List.mem_cons_self r List.mem_cons_self).symm, (at_ r List.mem_cons_self).2⟩) e⟩
    refine hQ h2' (fun q hq => ?_) (fun b o n e => k2 b o (fun m => n ?_) (k1 b o (fun m => n ?_) e)) (z2.trans z1) (by simpa using hT2)
    · rcases List.mem_cons.mp hq with rfl | hq
      · refine st.kp k2 ?_ ?_
        · exact fun m => (List.mem_cons.mp m).elim (at_ q List.mem_cons_self).1 (List.nodup_cons.mp ap.nd).1
        · intro m
          rcases List.mem_cons.mp m with m | m
          · exact (at_ q List.mem_cons_self).2 m
          · obtain ⟨p, hp, e⟩ := List.mem_map.mp m
            exact ap.tp p (List.mem_cons_of_mem _ hp) q List.mem_cons_self e
      · exact s2 q hq
    · rcases List.mem_cons.mp m with m | m
      · simp [m]
      · exact List.mem_cons_of_mem _ (List.mem_cons_of_mem _ m)
    · rcases List.mem_cons.mp m with m | m
      · simp [m]
      · simp [List.mem_singleton.mp m]
end

/-! ### next -/
def zipO (a b : Value) (TI TO : Addr) : Obj := { cls := .type "zip", data := .fields #[a, b, .bool false, .ref TI, .ref TO] }
structure Zs (h : Heap) (z TI TO : Addr) (R : List Row) (i : Nat) : Prop where
  ti : h.get? TI = some (tupO (R.map fun r => Value.ref r.it).toArray)
  rows : ∀ r ∈ R, Stands h i r
structure Lie (z TI TO : Addr) (R : List Row) : Prop where
  ap : Apart R
  ti : TI ≠ z ∧ TI ≠ TO ∧ TO ≠ z
  z : ∀ r ∈ R, r.it ≠ z ∧ r.tp ≠ z
  to : ∀ r ∈ R, r.it ≠ TO ∧ r.tp ≠ TO
  i : ∀ r ∈ R, r.it ≠ TI
theorem Lie.its {z TI TO a : Addr} {R : List Row} (L : Lie z TI TO R) (h : ∀ r ∈ R, r.it ≠ a) : a ∉ R.map Row.it := fun m => by
  obtain ⟨r, hr, e⟩ := List.mem_map.mp m
  exact h r hr e
theorem Zs.kp {h h' : Heap} {z TI TO : Addr} {R : List Row} {i : Nat} {wr : List Addr} (s : Zs h z TI TO R i) (k : Kp wr h h') (h1 : TI ∉ wr) (h2 : ∀ r ∈ R, r.it ∉ wr ∧ r.tp ∉ wr) : Zs h' z TI TO R i :=
  ⟨k _ _ h1 s.ti, fun r hr => (s.rows r hr).kp k (h2 r hr).1 (h2 r hr).2⟩
section
variable {prog : Program} {w : World} {A : Around} {E : Value → Shared → Prop} {s : Shared} {i : Nat} {z TI TO : Addr} {R : List Row}
theorem isEmpty_map {r : Row} {l : List Row} : (((r :: l).map fun r => Value.ref r.it).toArray).isEmpty = false := by simp
/-- the first turn: the tuple that the zip holds is free -/
theorem nextA {ys : List Value} {Q : PySem.Fin → Shared → Prop} (L : Lie z TI TO R) (hR : R ≠ []) (hn : R.length ≤ 1000) (hz : s.heap.get? z = some (zipO .none (.bool false) TI TO)) (Z : Zs s.heap z TI TO R i) (hT : s.heap.get? TO = some (tupO (List.replicate R.length Value.none).toArray)) (hc : Col i R ys)
    (hQ : ∀ h', h'.get? z = some (zipO (rawInt s.heap.objs.size) (.bool false) TI TO) → Zs h' z TI TO R (i + 1) → (∃ o, h'.get? TO = some o) → h'.get? s.heap.objs.size = some (tupO ys.toArray) → Kp (z :: TO :: R.map Row.it) s.heap h' → Q (.done (.ret (.ref s.heap.objs.size))) { s with heap := h' }) :
    wpAny (model prog w) A (Builtin.«zip.__next__» ⟨[.ref z], []⟩) Q E s := by
  obtain ⟨r0, R0, rfl⟩ : ∃ r l, R = r :: l := by
    cases R with
    | nil => exact absurd rfl hR
    | cons r l => exact ⟨r, l, rfl⟩
  have e1 : ∀ B : Around, ∀ Q' : Value → Shared → Prop, Q' (.bool false) s → wpAny (model prog w) B (field (.ref z) 2) Q' E s := fun B Q' q => wpAny_field hz rfl rfl q
  have e2 : ∀ B : Around, ∀ Q' : Value → Shared → Prop, Q' (.ref TI) s → wpAny (model prog w) B (field (.ref z) 3) Q' E s := fun B Q' q => wpAny_field hz rfl rfl q
  have e0 : ∀ B : Around, ∀ Q' : Value → Shared → Prop, Q' .none s → wpAny (model prog w) B (field (.ref z) 0) Q' E s := fun B Q' q => wpAny_field hz rfl rfl q
  have e4 : ∀ B : Around, ∀ Q' : Value → Shared → Prop, Q' (.ref TO) s → wpAny (model prog w) B (field (.ref z) 4) Q' E s := fun B Q' q => wpAny_field hz rfl rfl q
  show wpAny _ _ (field (.ref z) 2 >>= _) _ _ _
  refine wpAny_bind (e1 _ _ ?_)
  show wpAny _ _ (field (.ref z) 3 >>= _) _ _ _
  refine wpAny_bind (e2 _ _ (wpAny_bind (wpAny_seqItems Z.ti rfl ?_)))
  simp only [isEmpty_map, Bool.false_eq_true, if_false]
  refine wpAny_bind (m := SmallTypes.ownedTupleIsFree (.ref z)) ?_
  show wpAny _ _ (field (.ref z) 0 >>= _) _ _ _
  refine wpAny_bind (e0 _ _ (wpAny_pure ?_))
  simp only [if_true]
  refine wpAny_bind (wpAny_rule (wpAny_bind (e4 _ _ (wpAny_bind (wpAny_setField_rec hz (by simp) fun h1 hz1 s1 => ?_)))))
  replace hz1 : h1.get? z = some (zipO .ellipsis (.bool false) TI TO) := hz1
  have K1 : Kp [z] s.heap h1 := Kp.but s1 (by simp)
  have Z1 : Zs h1 z TI TO (r0 :: R0) i := Z.kp K1 (by simpa using L.ti.1) fun r hr => by simpa using L.z r hr
  refine wpAny_bind (m := forIn (List.zipIdx (List.toArray _).toList) _ _) ?_
  rw [List.toList_toArray]
  refine loopA (i := i) (TO := TO) ?body (r0 :: R0) ys [] { s with heap := h1 } _ (by simpa using hn) hc Z1.rows L.ap L.to (K1 _ _ (by simpa using L.ti.2.2) hT) fun h2 S2 K2 z2 T2 => ?_
  case body =>
    intro r k arr x s Q hs hx hTO hsz hne hq
    refine wpAny_bind (wpAny_onRaise ?_)
    show wpAny _ _ (SmallTypes.nextOf (.ref r.it) >>= _) _ _ _
    refine wpAny_bind (PySem.wpAny_nextOf_tuple_item hs.1 hs.2 hx fun g1 g2 g3 => wpAny_pure ?_)
    have hTO1 : g1.get? TO = some (tupO arr) := (g3.2 _ hne.symm).trans hTO
    refine wpAny_bind (wpAny_seqItems (s := { s with heap := g1 }) hTO1 rfl (wpAny_bind (wpAny_updateSeq (s := { s with heap := g1 }) hTO1 rfl (wpAny_bind (wpAny_letGo (wpAny_pure (hq _ ?_ ?_ ?_ ?_)))) (by rw [sizeLine_eq]; omega) (by show (arr.setIfInBounds k x).size ≤ sizeLine + 1; rw [Array.size_setIfInBounds, sizeLine_eq]; omega))))
    · exact g2.at fun o e => (Heap.get?_update_other _ _ hne.symm).trans e
    · intro b o n e
      have n2 : b ≠ r.it ∧ b ≠ TO := by simpa using n
      exact (Heap.get?_update_other _ _ n2.2.symm).trans ((g3.2 _ n2.1).trans e)
    · have := (Heap.SameBut.update (h := g1) (a := TO) (f := Obj.mapSeq (·.setIfInBounds k x))).1
      exact this.trans g3.1
    · rw [Heap.get?_update_self _ hTO1 rfl]
      simp [Obj.mapSeq, tupO]
  · have hzz : h2.get? z = some (zipO .ellipsis (.bool false) TI TO) := K2 z _ (by
      intro m
      rcases List.mem_cons.mp m with m | m
      · exact L.ti.2.2 m.symm
      · exact L.its (fun r hr => (L.z r hr).1) m) hz1
    have Z2 : Zs h2 z TI TO (r0 :: R0) (i + 1) := ⟨K2 TI _ (by
      intro m
      rcases List.mem_cons.mp m with m | m
      · exact L.ti.2.1 m
      · exact L.its (fun r hr => L.i r hr) m) Z1.ti, S2⟩
    have zsz : h2.objs.size = s.heap.objs.size := z2.trans s1.1
    have hyl : ys.length ≤ 1000 := by rw [← hc.length]; exact hn
    replace T2 : h2.get? TO = some (tupO ys.toArray) := T2
    have zlt : z < h2.objs.size := Heap.lt_size hzz
    refine wpAny_bind (wpAny_seqItems (s := { s with heap := h2 }) T2 rfl (wpAny_bind (wpAny_newTuple ?_ (by rw [sizeLine_eq]; simp; omega))))
    rw [List.toList_toArray]
    have hz3 : (h2.push (tupO ys.toArray)).get? z = some (zipO .ellipsis (.bool false) TI TO) := Heap.get?_push_of_some _ hzz
    refine wpAny_bind (m := SmallTypes.ownedTupleHandOut (.ref z) (.ref h2.objs.size)) ?_
    show wpAny _ _ (setField (.ref z) 0 (rawInt h2.objs.size) >>= fun _ => setField (.ref z) 1 (.bool false)) _ _ _
    refine wpAny_bind (wpAny_setField_rec (s := { s with heap := _ }) hz3 (by simp) fun h4 hz4 s4 => ?_)
    replace hz4 : h4.get? z = some (zipO (rawInt h2.objs.size) (.bool false) TI TO) := hz4
    refine wpAny_setField_rec (s := { s with heap := _ }) hz4 (by simp) fun h5 hz5 s5 => wpAny_pure ?_
    have K4 : Kp [z] (h2.push (tupO ys.toArray)) h5 := (Kp.but s4 (by simp)).trans (Kp.but s5 (by simp))
    have K5 : Kp [z] h2 h5 := fun b o n e => K4 b o n (Heap.get?_push_of_some _ e)
    rw [zsz] at hz5 ⊢
    refine hQ h5 hz5 (Z2.kp K5 (by simpa using L.ti.1) fun r hr => by simpa using L.z r hr) ⟨_, K5 _ _ (by simpa using L.ti.2.2) T2⟩ (by rw [← zsz]; exact K4 _ _ (by simpa using Nat.ne_of_gt zlt) (Heap.get?_push_size _ rfl)) ?_
    have one : ∀ b ∈ [z], b ∈ z :: TO :: (r0 :: R0).map Row.it := fun b hb => by simp [List.mem_singleton.mp hb]
    exact ((K1.mono one).trans (K2.mono fun b hb => List.mem_cons_of_mem _ hb)).trans (K5.mono one)
theorem ifAlive {M : Model} {B : Around} {a : Addr} {Q : Option Obj → Shared → Prop} (h : Q (s.heap.get? a) s) : wpAny M B (loadIfAlive a) Q E s := fun Γ p _ => by
  unfold loadIfAlive
  rw [Sem.wp_loadIfAlive, Sem.wp]
  exact h
/-- what a later call finds first: the tuple is not free -/
theorem notFree {B : Around} {a : Addr} {b : Value} {o : Obj} {Q : Bool → Shared → Prop} (hz : s.heap.get? z = some (zipO (rawInt a) b TI TO)) (ha : s.heap.get? a = some o)
    (hQ : ∀ h' b', h'.get? z = some (zipO (rawInt a) b' TI TO) → Heap.SameBut z s.heap h' → Q false { s with heap := h' }) : wpAny (model prog w) B (SmallTypes.ownedTupleIsFree (.ref z)) Q E s := by
  have e0 : ∀ Q' : Value → Shared → Prop, Q' (rawInt a) s → wpAny (model prog w) B (field (.ref z) 0) Q' E s := fun Q' q => wpAny_field hz rfl rfl q
  have e1 : ∀ Q' : Value → Shared → Prop, Q' b s → wpAny (model prog w) B (field (.ref z) 1) Q' E s := fun Q' q => wpAny_field hz rfl rfl q
  have stay : Heap.SameBut z s.heap s.heap := ⟨rfl, fun _ _ => rfl⟩
  show wpAny _ _ (field (.ref z) 0 >>= _) _ _ _
  refine wpAny_bind (e0 _ ?_)
  show wpAny _ _ (loadIfAlive a >>= _) _ _ _
  refine wpAny_bind (m := loadIfAlive a) (ifAlive ?_)
  rw [ha]
  simp only [Option.isNone_some, Bool.false_eq_true, if_false]
  refine wpAny_bind (e1 _ ?_)
  by_cases hb : (b != .bool true) = true
  · simp only [hb, if_true]
    refine wpAny_bind (wpAny_setField_rec hz (by simp) fun h1 hz1 s1 => wpAny_pure (hQ h1 (.bool true) hz1 s1))
  · rw [if_neg hb]
    exact wpAny_pure (hQ s.heap b hz stay)
/-- a later turn -/
theorem nextB {ys : List Value} {a : Addr} {b : Value} {o : Obj} {Q : PySem.Fin → Shared → Prop} (L : Lie z TI TO R) (hR : R ≠ []) (hn : R.length ≤ 1000) (hz : s.heap.get? z = some (zipO (rawInt a) b TI TO)) (ha : s.heap.get? a = some o) (Z : Zs s.heap z TI TO R i) (hc : Col i R ys)
    (hQ : ∀ h' b', h'.get? z = some (zipO (rawInt a) b' TI TO) → Zs h' z TI TO R (i + 1) → h'.get? s.heap.objs.size = some (tupO ys.toArray) → Kp (z :: R.map Row.it) s.heap h' → Q (.done (.ret (.ref s.heap.objs.size))) { s with heap := h' }) :
    wpAny (model prog w) A (Builtin.«zip.__next__» ⟨[.ref z], []⟩) Q E s := by
  obtain ⟨r0, R0, rfl⟩ : ∃ r l, R = r :: l := by
    cases R with
    | nil => exact absurd rfl hR
    | cons r l => exact ⟨r, l, rfl⟩
  have e2 : ∀ B : Around, ∀ Q' : Value → Shared → Prop, Q' (.bool false) s → wpAny (model prog w) B (field (.ref z) 2) Q' E s := fun B Q' q => wpAny_field hz rfl rfl q
  have e3 : ∀ B : Around, ∀ Q' : Value → Shared → Prop, Q' (.ref TI) s → wpAny (model prog w) B (field (.ref z) 3) Q' E s := fun B Q' q => wpAny_field hz rfl rfl q
  show wpAny _ _ (field (.ref z) 2 >>= _) _ _ _
  refine wpAny_bind (e2 _ _ ?_)
  show wpAny _ _ (field (.ref z) 3 >>= _) _ _ _
  refine wpAny_bind (e3 _ _ (wpAny_bind (wpAny_seqItems Z.ti rfl ?_)))
  simp only [isEmpty_map, Bool.false_eq_true, if_false]
  refine wpAny_bind (notFree hz ha fun h1 b1 hz1 s1 => ?_)
  simp only [Bool.false_eq_true, if_false]
  have K1 : Kp [z] s.heap h1 := Kp.but s1 (by simp)
  have Z1 : Zs h1 z TI TO (r0 :: R0) i := Z.kp K1 (by simpa using L.ti.1) fun r hr => by simpa using L.z r hr
  refine wpAny_bind (m := forIn (List.toArray _) _ _) ?_
  rw [List.forIn_toArray]
  refine loopB (i := i) ?body (r0 :: R0) ys #[] { s with heap := h1 } _ hc Z1.rows L.ap fun h2 S2 K2 z2 => ?_
  case body =>
    intro r acc x s Q hs hx hq
    refine wpAny_bind (wpAny_holding ?_)
    show wpAny _ _ (SmallTypes.nextOf (.ref r.it) >>= _) _ _ _
    exact wpAny_bind (PySem.wpAny_nextOf_tuple_item hs.1 hs.2 hx fun g1 g2 g3 => wpAny_pure (wpAny_pure (hq g1 g2 g3)))
  · have zno : z ∉ (r0 :: R0).map Row.it := L.its fun r hr => (L.z r hr).1
    have hyl : ys.length ≤ 1000 := by rw [← hc.length]; exact hn
    have zsz : h2.objs.size = s.heap.objs.size := z2.trans s1.1
    have Z2 : Zs h2 z TI TO (r0 :: R0) (i + 1) := ⟨K2 TI _ (L.its fun r hr => L.i r hr) Z1.ti, S2⟩
    refine wpAny_bind (wpAny_newTuple (wpAny_pure ?_) (by rw [sizeLine_eq]; simp; omega))
    simp only [List.nil_append, Array.empty_append]
    show Q (.done (.ret (.ref h2.objs.size))) _
    rw [zsz]
    have new : Kp [] h2 (h2.push (tupO ys.toArray)) := fun c o _ e => Heap.get?_push_of_some _ e
    refine hQ _ b1 (new _ _ (by simp) (K2 z _ zno hz1)) (Z2.kp new (by simp) fun r hr => by simp) (by rw [← zsz]; exact Heap.get?_push_size _ rfl) ?_
    exact ((K1.mono fun b hb => by simp [List.mem_singleton.mp hb]).trans (K2.mono fun b hb => List.mem_cons_of_mem _ hb)).trans (new.mono fun b hb => by cases hb)
/-- the end, at a later call -/
theorem endB {r0 : Row} {R0 : List Row} {a : Addr} {b : Value} {o : Obj} {Q : PySem.Fin → Shared → Prop} (hh : A.handled = none) (L : Lie z TI TO (r0 :: R0)) (hz : s.heap.get? z = some (zipO (rawInt a) b TI TO)) (ha : s.heap.get? a = some o) (Z : Zs s.heap z TI TO (r0 :: R0) i) (hx : r0.xs[i]? = none)
    (hE : ∀ h' e, Kp [z, r0.it] s.heap h' → (∃ o, h'.get? e = some o ∧ o.cls = .type "StopIteration") → E (.ref e) { s with heap := h' }) : wpAny (model prog w) A (Builtin.«zip.__next__» ⟨[.ref z], []⟩) Q E s := by
  have e2 : ∀ B : Around, ∀ Q' : Value → Shared → Prop, Q' (.bool false) s → wpAny (model prog w) B (field (.ref z) 2) Q' E s := fun B Q' q => wpAny_field hz rfl rfl q
  have e3 : ∀ B : Around, ∀ Q' : Value → Shared → Prop, Q' (.ref TI) s → wpAny (model prog w) B (field (.ref z) 3) Q' E s := fun B Q' q => wpAny_field hz rfl rfl q
  show wpAny _ _ (field (.ref z) 2 >>= _) _ _ _
  refine wpAny_bind (e2 _ _ ?_)
  show wpAny _ _ (field (.ref z) 3 >>= _) _ _ _
  refine wpAny_bind (e3 _ _ (wpAny_bind (wpAny_seqItems Z.ti rfl ?_)))
  simp only [isEmpty_map, Bool.false_eq_true, if_false]
  refine wpAny_bind (notFree hz ha fun h1 b1 hz1 s1 => ?_)
  simp only [Bool.false_eq_true, if_false]
  have K1 : Kp [z] s.heap h1 := Kp.but s1 (by simp)
  have Z1 : Zs h1 z TI TO (r0 :: R0) i := Z.kp K1 (by simpa using L.ti.1) fun r hr => by simpa using L.z r hr
  refine wpAny_bind (m := forIn (List.toArray _) _ _) ?_
  rw [List.forIn_toArray, List.map_cons, List.forIn_cons]
  refine wpAny_bind (wpAny_bind (wpAny_holding ?_))
  show wpAny _ _ (SmallTypes.nextOf (.ref r0.it) >>= _) _ _ _
  have st := Z1.rows r0 List.mem_cons_self
  refine wpAny_bind (PySem.wpAny_nextOf_tuple_end (s := { s with heap := h1 }) hh st.1 st.2 hx fun h2 e k2 he => ?_)
  refine hE h2 e (fun c o n q => ?_) he
  have n2 : c ≠ z ∧ c ≠ r0.it := by simpa using n
  exact k2 c o n2.2 (K1 c o (by simpa using n2.1) q)
end
end ZN

/-! zip of up to six tuples is made, and collected into a list. -/
namespace ZN
open PySem PySem.Builtin PyProof.Rows L2

section
variable {prog : Program} {w : World} {A : Around} {E : Value → Shared → Prop} {s : Shared} {i : Nat} {z TI TO : Addr} {R : List Row}
theorem zipTy {a b : Value} (hz : s.heap.get? z = some (zipO a b TI TO)) : s.TypeIs (.ref z) "zip" := ⟨_, hz, rfl⟩
/-- next(z) by what __next__ does -/
theorem pnext {a b : Value} {Q : Option Value → Shared → Prop} (hz : s.heap.get? z = some (zipO a b TI TO)) (h : wpAny (model prog w) A.in1 (Builtin.«zip.__next__» ⟨[.ref z], []⟩) (fun f s' => ∃ v, f = .done (.ret v) ∧ Q (some v) s') (fun e s' => (∃ o e', e = .ref e' ∧ s'.heap.get? e' = some o ∧ o.cls = .type "StopIteration") ∧ Q none s') s) :
    wpAny (model prog w) A (pyNext (.ref z)) Q E s := by
  unfold pyNext
  have body := wpAny_mono (Q' := fun f s' => ∃ v, f = .done (.ret v) ∧ wpAny (model prog w) A (pure (some v)) Q E s') h (fun f s' ⟨v, e, q⟩ => ⟨v, e, wpAny_pure q⟩) fun _ _ e => e
  refine wpAny_bind (wpAny_attempt (wpAny_callSpecial?_slot (name := Str.ofString "__next__") (zipTy hz) F.slot_zip_next (wpAny_call_entry F.slot_zip_next (zipTy hz) F.entry_zip_next (wpAny_mono body (fun f s' q => ?_) fun e s' q => ?_) (F.args_zip_next_1 _))))
  · exact q
  · obtain ⟨⟨o, e', rfl, ho, hc⟩, q⟩ := q
    exact wpAny_bind (wpAny_isInstance (T := "StopIteration") (b := true) ⟨o, ho, hc⟩ isSubtype_stop (wpAny_pure q))
end

/-! ### the loop of list(z) -/
/-- the rows by their values -/
def RowsV : List Row → List (List V) → Prop
  | [], vs => vs = []
  | r :: l, vs => ∃ xs t, vs = xs :: t ∧ Vals xs r.xs.toList ∧ RowsV l t
def ColV (i : Nat) : List (List V) → List V → Prop
  | [], ys => ys = []
  | xs :: l, ys => ∃ y t, ys = y :: t ∧ xs[i]? = some y ∧ ColV i l t
theorem ColV.length {i : Nat} : ∀ {l : List (List V)} {ys : List V}, ColV i l ys → l.length = ys.length
  | [], ys, h => by rw [show ys = [] from h]; rfl
  | r :: l, ys, ⟨y, t, e, _, h⟩ => by rw [e, List.length_cons, List.length_cons, ColV.length h]
theorem col_of {i m : Nat} (hi : i < m) : ∀ {l : List Row} {vs : List (List V)}, RowsV l vs → (∀ xs ∈ vs, xs.length = m) → ∃ us ys, Col i l us ∧ ColV i vs ys ∧ Vals ys us
  | [], vs, h, _ => by
    obtain rfl : vs = [] := h
    exact ⟨[], [], rfl, rfl, .nil⟩
  | r :: l, vs, ⟨xs, t, e, hv, h⟩, hm => by
    subst e
    obtain ⟨us, ys, h1, h2, h3⟩ := col_of hi h fun q hq => hm q (List.mem_cons_of_mem _ hq)
    have hx : i < xs.length := by rw [hm xs List.mem_cons_self]; exact hi
    obtain ⟨u, hu, ru⟩ := hv.get (show xs[i]? = some xs[i] by simp [hx])
    exact ⟨u :: us, xs[i] :: ys, ⟨u, us, rfl, by simpa using hu, h1⟩, ⟨xs[i], ys, rfl, by simp [hx], h2⟩, .cons ru h3⟩
theorem rows_len {m : Nat} : ∀ {l : List Row} {vs : List (List V)}, RowsV l vs → (∀ xs ∈ vs, xs.length = m) → ∀ r ∈ l, r.xs.size = m
  | [], _, _, _, r, hr => by cases hr
  | q :: l, vs, ⟨xs, t, e, hv, h⟩, hm, r, hr => by
    subst e
    rcases List.mem_cons.mp hr with rfl | hr
    · have := hv.length
      rw [hm xs List.mem_cons_self] at this
      simpa using this.symm
    · exact rows_len h (fun q hq => hm q (List.mem_cons_of_mem _ hq)) r hr

/-- how the zip stands ahead of turn i -/
structure Zst (h : Heap) (z TI TO S : Addr) (R : List Row) (i : Nat) : Prop where
  zs : Zs h z TI TO R i
  st : (i = 0 ∧ h.get? z = some (zipO .none (.bool false) TI TO) ∧ h.get? TO = some (tupO (List.replicate R.length Value.none).toArray)) ∨
    (0 < i ∧ ∃ (a : Addr) (b : Value) (o : Obj), h.get? z = some (zipO (rawInt a) b TI TO) ∧ h.get? a = some o ∧ a ∉ S :: z :: TO :: R.map Row.it)
  lv : ∃ o, h.get? TO = some o
theorem Zst.kpS {h h' : Heap} {z TI TO S : Addr} {R : List Row} {i : Nat} (s : Zst h z TI TO S R i) (k : Kp [S] h h') (h1 : z ≠ S ∧ TI ≠ S ∧ TO ≠ S) (h2 : ∀ r ∈ R, r.it ≠ S ∧ r.tp ≠ S) : Zst h' z TI TO S R i :=
  ⟨s.zs.kp k (by simpa using h1.2.1) fun r hr => by simpa using h2 r hr, s.st.elim (fun ⟨e, q1, q2⟩ => .inl ⟨e, k _ _ (by simpa using h1.1) q1, k _ _ (by simpa using h1.2.2) q2⟩)
    fun ⟨e, a, b, o, q1, q2, q3⟩ => .inr ⟨e, a, b, o, k _ _ (by simpa using h1.1) q1, k _ _ (fun m => q3 (by simp [List.mem_singleton.mp m])) q2, q3⟩, let ⟨o, e⟩ := s.lv; ⟨o, k _ _ (by simpa using h1.2.2) e⟩⟩
section
variable {X : Cx} {pins : List (Addr × Obj)} {σ : L2.St} {A1 : Around} {S z TI TO : Addr} {R : List Row} {VR : List (List V)} {m : Nat} {Rs : Result → Shared → Prop} {H0 : Hp}
theorem zloop (hh : A1.in1.handled = none) (L : Lie z TI TO R) (hR : R ≠ []) (hn : R.length ≤ 1000) (hm : m ≤ 1000) (RV : RowsV R VR) (hl : ∀ xs ∈ VR, xs.length = m) (hS : z ≠ S ∧ TI ≠ S ∧ TO ≠ S) (hS2 : ∀ r ∈ R, r.it ≠ S ∧ r.tp ≠ S) (hm0 : 0 < m)
    (done : ∀ (H' : Hp) (s' : Shared) (cols : List Addr), Inv X pins σ H' s' → (∀ b o, H0 b = some o → H' b = some o) → H' S = some (.lst (cols.map V.ref)) → cols.length = m → (∀ j c, cols[j]? = some c → ∃ ys, ColV j VR ys ∧ H' c = some (.tup ys) ∧ H0 c = none) → Rs (.ok (.ret .none)) s') :
    ∀ (k i : Nat) (cols : List Addr) (H : Hp) (s : Shared), k + i = m → Inv X pins σ H s → H0 S = none → (∀ b o, H0 b = some o → H b = some o) → H S = some (.lst (cols.map V.ref)) → cols.length = i → (∀ j c, cols[j]? = some c → ∃ ys, ColV j VR ys ∧ H c = some (.tup ys) ∧ H0 c = none) →
      (∀ b ∈ z :: TO :: R.map Row.it, FpOk X pins H b) → Zst s.heap z TI TO S R i → codeAny (model X.prog X.w) A1 (.builtin "list.extend.loop" ⟨[.ref S, .ref z, .none], []⟩) Rs s := by
  intro k
  induction k with
  | zero =>
    intro i cols H s hk I h0 hx hSl hcl hcs fp Z
    obtain rfl : i = m := by omega
    obtain ⟨e, _⟩ | ⟨_, a, b, o, hz, ha, hna⟩ := Z.st
    · omega
    cases hRR : R with
    | nil => exact absurd hRR hR
    | cons r0 R0 =>
      subst hRR
      have hend : r0.xs[i]? = none := by
        have := rows_len RV hl r0 List.mem_cons_self
        simp [this]
      refine codeAny_builtin F.entry_extend_loop ?_
      rw [Around.under_plainId F.plain_extend_loop _]
      show wpAny _ A1.in1 (pyNext (.ref z) >>= _) _ _ s
      refine wpAny_bind (pnext hz (endB hh L hz ha Z.zs hend fun h' e kp ⟨o2, ho2, hc2⟩ => ⟨⟨o2, e, rfl, ho2, hc2⟩, wpAny_pure (done H _ cols (I.turnedL (t' := s.toks) (ch := z :: TO :: (r0 :: R0).map Row.it) (fun b o n q => kp b o (fun mm => n ?_) q) fp) hx hSl hcl hcs)⟩))
      rcases List.mem_cons.mp mm with mm | mm
      · simp [mm]
      · simp [List.mem_singleton.mp mm]
  | succ k ih =>
    intro i cols H s hk I h0 hx hSl hcl hcs fp Z
    obtain ⟨us, ys, hc, hcv, hv⟩ := col_of (by omega : i < m) RV hl
    refine codeAny_builtin F.entry_extend_loop ?_
    rw [Around.under_plainId F.plain_extend_loop _]
    show wpAny _ A1.in1 (pyNext (.ref z) >>= _) _ _ s
    have hyl : ys.length ≤ sizeLine := by
      have e1 := hv.length
      have e2 := hc.length
      rw [sizeLine_eq]
      omega
    -- what both kinds of turn leave
    have rest : ∀ h', (∃ (a : Addr) (b : Value) (o : Obj), h'.get? z = some (zipO (rawInt a) b TI TO) ∧ h'.get? a = some o ∧ a ∉ S :: z :: TO :: R.map Row.it) → Zs h' z TI TO R (i + 1) → (∃ o, h'.get? TO = some o) → h'.get? s.heap.objs.size = some (tupO us.toArray) → Kp (z :: TO :: R.map Row.it) s.heap h' →
        wpAny (model X.prog X.w) A1.in1 (updateSeq S (·.push (.ref s.heap.objs.size)) >>= fun _ => PySem.again (.builtin "list.extend.loop" ⟨[.ref S, .ref z, .none], []⟩)) (fun fin s' => match fin with | .done f => Rs (.ok f) s' | .again c' => c'.quiet = true ∧ codeAny (model X.prog X.w) A1 c' Rs s') (fun e s' => Rs (.error e) s') { s with heap := h' } := by
      intro h' st Z2 lv hT K
      have hsS : S < s.heap.objs.size := by
        obtain ⟨_, its, n, _, _, e⟩ := I.lstM hSl
        exact Heap.lt_size e
      have new : ObjOk X.prog X.w (upd H s.heap.objs.size (.tup ys)) h' s.heap.objs.size (.tup ys) := ⟨hyl, us, hv, ⟨_, hT, rfl, _, rfl⟩⟩
      have I1 : Inv X pins σ (upd H s.heap.objs.size (.tup ys)) { s with heap := h' } := I.turnedNew (t' := s.toks) (ch := z :: TO :: R.map Row.it) (fun b o n q => K b o n q) fp (Nat.le_refl _) new
      have hfr : H s.heap.objs.size = none := I.hok.fresh (Nat.le_refl _)
      have hS1 : upd H s.heap.objs.size (.tup ys) S = some (.lst (cols.map V.ref)) := by rw [upd_ne (Nat.ne_of_lt hsS)]; exact hSl
      obtain ⟨_, its, n, r2, hl2, e⟩ := I1.lstM hS1
      have hlen : its.length ≤ 1000 := by rw [← hl2, List.length_map]; omega
      refine wpAny_bind (wpAny_updateSeq e rfl (wpAny_pure ⟨plainId_quiet F.plain_extend_loop _, ?_⟩) (by rw [sizeLine_eq, List.size_toArray]; omega) (by show (its.toArray.push _).size ≤ sizeLine + 1; rw [sizeLine_eq, Array.size_push, List.size_toArray]; omega))
      have I2 := I1.lset (f := (·.push (Value.ref s.heap.objs.size))) (its' := its ++ [.ref s.heap.objs.size]) (ys := cols.map V.ref ++ [.ref s.heap.objs.size]) (t' := s.toks) hS1 e (by simp) (r2.append (.cons (show RelV (.ref _) (.ref _) from rfl) .nil)) (by rw [sizeLine_eq]; simp; omega)
      have KS : Kp [S] h' (h'.update S (Obj.mapSeq (·.push (Value.ref s.heap.objs.size)))) := fun b o n q => (Heap.get?_update_other _ _ (fun e => n (by simp [e]))).trans q
      have neT : ∀ b o, H b = some o → b ≠ s.heap.objs.size := fun b o q e => by rw [e, hfr] at q; cases q
      refine ih (i + 1) (cols ++ [s.heap.objs.size]) _ _ (by omega) I2 h0 (fun b o q => ?_) (by rw [upd_same]; simp) (by simp [hcl]) (fun j c hj => ?_) (fun b hb => ?_) (Zst.kpS ⟨Z2, .inr ⟨by omega, st⟩, lv⟩ KS hS hS2)
      · have hb : b ≠ S := fun e => by rw [e, h0] at q; cases q
        rw [upd_ne hb, upd_ne (neT _ _ (hx b o q))]
        exact hx b o q
      · have cS : ∀ c ys', H c = some (.tup ys') → c ≠ S := fun c ys' q e => by rw [e, hSl] at q; cases q
        by_cases hjl : j < cols.length
        · rw [List.getElem?_append_left hjl] at hj
          obtain ⟨ys', q1, q2, q3⟩ := hcs j c hj
          exact ⟨ys', q1, by rw [upd_ne (cS _ _ q2), upd_ne (neT _ _ q2)]; exact q2, q3⟩
        · have hj2 := (List.getElem?_eq_some_iff.mp hj).1
          rw [List.length_append, List.length_singleton] at hj2
          obtain rfl : j = cols.length := by omega
          rw [List.getElem?_append_right (Nat.le_refl _), Nat.sub_self] at hj
          cases hj
          rw [hcl]
          refine ⟨ys, hcv, by rw [upd_ne (Nat.ne_of_gt hsS), upd_same], ?_⟩
          cases q : H0 s.heap.objs.size with
          | none => rfl
          | some o => exact absurd (hx _ _ q) (by rw [hfr]; intro z; cases z)
      · obtain ⟨f0, f1⟩ := fp b hb
        have hbS : b ≠ S := fun e => by rw [e, hSl] at f0; cases f0
        have hbT : b ≠ s.heap.objs.size := by
          have live : ∃ o, s.heap.get? b = some o := by
            rcases List.mem_cons.mp hb with rfl | hb
            · rcases Z.st with ⟨_, q, _⟩ | ⟨_, _, _, _, q, _⟩ <;> exact ⟨_, q⟩
            · rcases List.mem_cons.mp hb with rfl | hb
              · exact Z.lv
              · obtain ⟨r, hr, rfl⟩ := List.mem_map.mp hb
                obtain ⟨o, q, _⟩ := (Z.zs.rows r hr).1
                exact ⟨o, q⟩
          obtain ⟨o, q⟩ := live
          exact Nat.ne_of_lt (Heap.lt_size q)
        exact ⟨by rw [upd_ne hbS, upd_ne hbT]; exact f0, f1⟩
    have fresh : s.heap.objs.size ∉ S :: z :: TO :: R.map Row.it := by
      obtain ⟨_, its, n, _, _, e⟩ := I.lstM hSl
      have old : ∀ b o, s.heap.get? b = some o → s.heap.objs.size ≠ b := fun b o q => Nat.ne_of_gt (Heap.lt_size q)
      intro mm
      rcases List.mem_cons.mp mm with mm | mm
      · exact old _ _ e mm
      · rcases List.mem_cons.mp mm with mm | mm
        · rcases Z.st with ⟨_, q, _⟩ | ⟨_, _, _, _, q, _⟩ <;> exact old _ _ q mm
        · rcases List.mem_cons.mp mm with mm | mm
          · obtain ⟨o, q⟩ := Z.lv
            exact old _ _ q mm
          · obtain ⟨r, hr, e⟩ := List.mem_map.mp mm
            obtain ⟨o, q, _⟩ := (Z.zs.rows r hr).1
            exact old _ _ q e.symm
    rcases Z.st with ⟨hi, hz, hT⟩ | ⟨hi, a, b, o, hz, ha, hna⟩
    · refine wpAny_bind (pnext hz (nextA L hR hn hz Z.zs hT hc fun h' z1 Z2 lv t1 K => ⟨_, rfl, rest h' ⟨_, _, _, z1, t1, fresh⟩ Z2 lv t1 K⟩))
    · have sub : ∀ b ∈ z :: R.map Row.it, b ∈ z :: TO :: R.map Row.it := fun b hb => by
        rcases List.mem_cons.mp hb with hb | hb
        · simp [hb]
        · exact List.mem_cons_of_mem _ (List.mem_cons_of_mem _ hb)
      have noTO : TO ∉ z :: R.map Row.it := fun mm => by
        rcases List.mem_cons.mp mm with mm | mm
        · exact L.ti.2.2 mm
        · exact L.its (fun r hr => (L.to r hr).1) mm
      obtain ⟨oT, eT⟩ := Z.lv
      exact wpAny_bind (pnext hz (nextB L hR hn hz ha Z.zs hc fun h' b' z1 Z2 t1 K => ⟨_, rfl, rest h' ⟨a, b', o, z1, K _ _ (fun mm => hna (List.mem_cons_of_mem _ (sub _ mm))) ha, hna⟩ Z2 ⟨oT, K _ _ noTO eT⟩ t1 (K.mono sub)⟩))
end
end ZN

/-! zip of up to six tuples is made. -/
namespace ZN
open PySem PySem.Builtin PyProof.Rows L2
theorem tyCall : ∀ us : List Value, us.length ≤ 6 → checkTypeCall "zip" ⟨us, []⟩ = pure ()
  | [], _ => by kernel_rfl
  | [_], _ => by kernel_rfl
  | [_, _], _ => by kernel_rfl
  | [_, _, _], _ => by kernel_rfl
  | [_, _, _, _], _ => by kernel_rfl
  | [_, _, _, _, _], _ => by kernel_rfl
  | [_, _, _, _, _, _], _ => by kernel_rfl
  | _ :: _ :: _ :: _ :: _ :: _ :: _ :: _, h => by simp at h
theorem newCall : ∀ us : List Value, us.length ≤ 6 → checkBuiltinCall "zip.__new__" ⟨.type "zip" :: us, []⟩ = pure ()
  | [], _ => by kernel_rfl
  | [_], _ => by kernel_rfl
  | [_, _], _ => by kernel_rfl
  | [_, _, _], _ => by kernel_rfl
  | [_, _, _, _], _ => by kernel_rfl
  | [_, _, _, _, _], _ => by kernel_rfl
  | [_, _, _, _, _, _], _ => by kernel_rfl
  | _ :: _ :: _ :: _ :: _ :: _ :: _ :: _, h => by simp at h
theorem initArgs (o : Value) : ∀ us : List Value, us.length ≤ 6 → argsOk "object.__init__" ⟨o :: us, []⟩
  | [], _ => by unfold argsOk; kernel_rfl
  | [_], _ => by unfold argsOk; kernel_rfl
  | [_, _], _ => by unfold argsOk; kernel_rfl
  | [_, _, _], _ => by unfold argsOk; kernel_rfl
  | [_, _, _, _], _ => by unfold argsOk; kernel_rfl
  | [_, _, _, _, _], _ => by unfold argsOk; kernel_rfl
  | [_, _, _, _, _, _], _ => by unfold argsOk; kernel_rfl
  | _ :: _ :: _ :: _ :: _ :: _ :: _ :: _, h => by simp at h
theorem newCls (us : List Value) : SmallTypes.newClass "zip" ⟨.type "zip" :: us, []⟩ = pure (.type "zip", us) := by
  unfold SmallTypes.newClass
  simp only [isType, sub_zip, pure_bind, Bool.not_true, Bool.false_eq_true, if_false]
def tItO (t : Addr) : Obj := { cls := .type "tuple_iterator", data := .fields #[.ref t, .int 0 0] }

section
variable {prog : Program} {w : World} {A : Around} {E : Value → Shared → Prop} {s : Shared}
theorem iterL {f : Value → Array Value → Sem (ForInStep (Array Value))}
    (hf : ∀ (t : Addr) (items acc : Array Value) (s : Shared) (Q : ForInStep (Array Value) → Shared → Prop), s.heap.IsTuple t items → Q (.yield (acc.push (.ref s.heap.objs.size))) { s with heap := s.heap.push (tItO t) } → wpAny (model prog w) A (f (.ref t) acc) Q E s) :
    ∀ (ts : List (Addr × Array Value)) (acc : Array Value) (s : Shared) (Q : Array Value → Shared → Prop), (∀ t ∈ ts, s.heap.IsTuple t.1 t.2) →
      (∀ (h' : Heap) (R : List Row), (R.map fun r => (r.tp, r.xs)) = ts → (∀ r ∈ R, Stands h' 0 r ∧ s.heap.objs.size ≤ r.it ∧ r.it < h'.objs.size) → (R.map Row.it).Nodup → Kp [] s.heap h' → s.heap.objs.size ≤ h'.objs.size → Q (acc ++ (R.map fun r => Value.ref r.it).toArray) { s with heap := h' }) →
      wpAny (model prog w) A (forIn (ts.map fun t => Value.ref t.1) acc f) Q E s := by
  intro ts
  induction ts with
  | nil =>
    intro acc s Q _ hQ
    exact wpAny_pure (by have := hQ s.heap [] rfl (fun r hr => by cases hr) List.nodup_nil Kp.rfl' (Nat.le_refl _); simpa using this)
  | cons t ts ih =>
    intro acc s Q ht hQ
    rw [List.map_cons, List.forIn_cons]
    refine wpAny_bind (hf t.1 t.2 acc s _ (ht t List.mem_cons_self) ?_)
    have k1 : Kp [] s.heap (s.heap.push (tItO t.1)) := fun b o _ e => Heap.get?_push_of_some _ e
    have z1 : (s.heap.push (tItO t.1)).objs.size = s.heap.objs.size + 1 := Heap.size_push ..
    refine ih _ _ Q (fun q hq => (ht q (List.mem_cons_of_mem _ hq)).at fun o e => k1 _ o (by simp) e) fun h' R e hs nd k z => ?_
    have new : (s.heap.push (tItO t.1)).get? s.heap.objs.size = some (tItO t.1) := Heap.get?_push_size _ rfl
    have z' : s.heap.objs.size + 1 ≤ h'.objs.size := by
      have : (s.heap.push (tItO t.1)).objs.size ≤ h'.objs.size := z
      omega
    have low : ∀ r ∈ R, s.heap.objs.size + 1 ≤ r.it := fun r hr => by
      have : (s.heap.push (tItO t.1)).objs.size ≤ r.it := (hs r hr).2.1
      omega
    have st : Stands h' 0 ⟨s.heap.objs.size, t.1, t.2⟩ := ⟨⟨_, k _ _ (by simp) new, rfl, rfl⟩, (ht t List.mem_cons_self).at fun o e => k _ o (by simp) (k1 _ o (by simp) e)⟩
    have go := hQ h' (⟨s.heap.objs.size, t.1, t.2⟩ :: R) (by rw [List.map_cons, e]) (fun r hr => ?_) ?_ (k1.trans k) (by omega)
    · simpa using go
    · rcases List.mem_cons.mp hr with rfl | hr
      · exact ⟨st, Nat.le_refl _, z'⟩
      · exact ⟨(hs r hr).1, by have := low r hr; omega, (hs r hr).2.2⟩
    · rw [List.map_cons, List.nodup_cons]
      refine ⟨fun mm => ?_, nd⟩
      obtain ⟨r, hr, e⟩ := List.mem_map.mp mm
      have := low r hr
      rw [e] at this
      exact absurd this (by show ¬ s.heap.objs.size + 1 ≤ s.heap.objs.size; omega)

/-- what zip( *us ) leaves -/
structure Made (h h' : Heap) (z TI TO : Addr) (R : List Row) (ts : List (Addr × Array Value)) : Prop where
  rows : (R.map fun r => (r.tp, r.xs)) = ts
  rec_ : h'.get? z = some (zipO .none (.bool false) TI TO)
  zs : Zs h' z TI TO R 0
  own : h'.get? TO = some (tupO (List.replicate R.length Value.none).toArray)
  lie : Lie z TI TO R
  new : h.objs.size ≤ z ∧ h.objs.size ≤ TI ∧ h.objs.size ≤ TO ∧ ∀ r ∈ R, h.objs.size ≤ r.it
  old : ∀ r ∈ R, r.tp < h.objs.size
  kp : Kp [] h h'
theorem call_zipN {ts : List (Addr × Array Value)} {Q : Value → Shared → Prop} (hn : ts.length ≤ 6) (ht : ∀ t ∈ ts, s.heap.IsTuple t.1 t.2)
    (hQ : ∀ h' z TI TO R, Made s.heap h' z TI TO R ts → Q (.ref z) { s with heap := h' }) : wpAny (model prog w) A (call (.type "zip") (ts.map fun t => Value.ref t.1)) Q E s := by
  have hl : (ts.map fun t => Value.ref t.1).length ≤ 6 := by simpa using hn
  have g : MeetsIn prog w (Builtin.«zip.__new__» ⟨.type "zip" :: ts.map fun t => Value.ref t.1, []⟩) (fun A R s => (∀ t ∈ ts, s.heap.IsTuple t.1 t.2) ∧ ∀ h' z TI TO Rw, Made s.heap h' z TI TO Rw ts → R (.ok (.ret (.ref z))) { s with heap := h' }) :=
    .of_wp fun A R s ⟨ht, h⟩ => by
      unfold Builtin.«zip.__new__»
      refine wpAny_bind (wpAny_of_eq (newCls _) ?_)
      show wpAny _ _ (SmallTypes.iterAll (ts.map fun t => Value.ref t.1) >>= _) _ _ _
      refine wpAny_bind ?_
      unfold SmallTypes.iterAll
      refine wpAny_bind ?_
      refine iterL ?body ts #[] s _ ht fun h1 Rw e hs nd k1 z1 => wpAny_pure ?_
      case body =>
        intro t items acc s Q hT hq
        refine wpAny_bind (wpAny_holding (wpAny_pyIter_tuple hT ?_))
        exact wpAny_pure hq
      simp only [Array.empty_append]
      have hlen : Rw.length ≤ 6 := by
        have := congrArg List.length e
        rw [List.length_map] at this
        omega
      refine wpAny_bind (wpAny_newTuple (wpAny_bind (wpAny_newTuple ?_ (by rw [sizeLine_eq]; simp; omega))) (by rw [sizeLine_eq]; simp; omega))
      have z2 : (h1.push (tupO (Rw.map fun r => Value.ref r.it).toArray)).objs.size = h1.objs.size + 1 := Heap.size_push ..
      have z3 : ((h1.push (tupO (Rw.map fun r => Value.ref r.it).toArray)).push (tupO (List.replicate Rw.length Value.none).toArray)).objs.size = h1.objs.size + 2 := by rw [Heap.size_push, z2]
      have nones : ((Rw.map fun r => Value.ref r.it).toArray.toList.map fun _ => Value.none) = List.replicate Rw.length Value.none := by
        rw [List.toList_toArray, List.map_map]
        exact List.map_eq_replicate_iff.mpr fun _ _ => rfl
      rw [nones]
      show wpAny _ _ (newObj (.type "zip") (.fields #[.none, .bool false, .bool false, .ref h1.objs.size, .ref (h1.push (tupO (Rw.map fun r => Value.ref r.it).toArray)).objs.size]) >>= _) _ _ _
      refine wpAny_bind (wpAny_newObj_type (wpAny_pure ?_))
      have up1 : Kp [] h1 (((h1.push (tupO (Rw.map fun r => Value.ref r.it).toArray)).push (tupO (List.replicate Rw.length Value.none).toArray)).push (zipO .none (.bool false) h1.objs.size (h1.objs.size + 1))) := fun b o _ e => Heap.get?_push_of_some _ (Heap.get?_push_of_some _ (Heap.get?_push_of_some _ e))
      have gz := Heap.get?_push_size ((h1.push (tupO (Rw.map fun r => Value.ref r.it).toArray)).push (tupO (List.replicate Rw.length Value.none).toArray)) (o := zipO .none (.bool false) h1.objs.size (h1.objs.size + 1)) rfl
      have gO := Heap.get?_push_of_some (zipO .none (.bool false) h1.objs.size (h1.objs.size + 1)) (Heap.get?_push_size (h1.push (tupO (Rw.map fun r => Value.ref r.it).toArray)) (o := tupO (List.replicate Rw.length Value.none).toArray) rfl)
      have gI := Heap.get?_push_of_some (zipO .none (.bool false) h1.objs.size (h1.objs.size + 1)) (Heap.get?_push_of_some (tupO (List.replicate Rw.length Value.none).toArray) (Heap.get?_push_size h1 (o := tupO (Rw.map fun r => Value.ref r.it).toArray) rfl))
      rw [z3] at gz
      rw [z2] at gO
      have tpl : ∀ r ∈ Rw, r.tp < s.heap.objs.size := fun r hr => by
        have : (r.tp, r.xs) ∈ ts := by rw [← e]; exact List.mem_map.mpr ⟨r, hr, rfl⟩
        obtain ⟨o, q, _⟩ := ht _ this
        exact Heap.lt_size q
      have z1' : s.heap.objs.size ≤ h1.objs.size := z1
      have hlo : ∀ r ∈ Rw, s.heap.objs.size ≤ r.it ∧ r.it < h1.objs.size := fun r hr => (hs r hr).2
      have M : Made s.heap _ (h1.objs.size + 2) h1.objs.size (h1.objs.size + 1) Rw ts := ⟨e, gz, ⟨gI, fun r hr => (hs r hr).1.kp up1 (by simp) (by simp)⟩, gO,
        ⟨⟨nd, fun r hr q hq e => ?_⟩, ⟨?_, ?_, ?_⟩, fun r hr => ⟨?_, ?_⟩, fun r hr => ⟨?_, ?_⟩, fun r hr => ?_⟩, ⟨?_, ?_, ?_, fun r hr => (hlo r hr).1⟩, tpl, k1.trans up1⟩
      · refine ⟨_, rfl, ?_⟩
        show R (.ok (.ret (.ref ((h1.push (tupO (Rw.map fun r => Value.ref r.it).toArray)).push (tupO (List.replicate Rw.length Value.none).toArray)).objs.size)))
          { s with heap := ((h1.push (tupO (Rw.map fun r => Value.ref r.it).toArray)).push (tupO (List.replicate Rw.length Value.none).toArray)).push (zipO .none (.bool false) h1.objs.size (h1.push (tupO (Rw.map fun r => Value.ref r.it).toArray)).objs.size) }
        rw [z3, z2]
        exact h _ _ _ _ _ M
      · have h1 := hlo r hr
        have h2 := tpl q hq
        rw [e] at h1
        exact absurd h2 (Nat.not_lt.mpr h1.1)
      · exact Nat.ne_of_lt (by omega)
      · exact Nat.ne_of_lt (by omega)
      · exact Nat.ne_of_lt (by omega)
      · exact Nat.ne_of_lt (Nat.lt_of_lt_of_le (hlo r hr).2 (Nat.le_add_right _ _))
      · exact Nat.ne_of_lt (Nat.lt_of_lt_of_le (tpl r hr) (Nat.le_trans z1' (Nat.le_add_right _ _)))
      · exact Nat.ne_of_lt (Nat.lt_of_lt_of_le (hlo r hr).2 (Nat.le_add_right _ _))
      · exact Nat.ne_of_lt (Nat.lt_of_lt_of_le (tpl r hr) (Nat.le_trans z1' (Nat.le_add_right _ _)))
      · exact Nat.ne_of_lt (hlo r hr).2
      · exact Nat.le_trans z1' (Nat.le_add_right _ _)
      · exact z1'
      · exact Nat.le_trans z1' (Nat.le_add_right _ _)
  refine callType_newIn F.called_zip (by decide) (tyCall _ hl) (newCall _ hl) (fun o => initArgs o _ hl) F.entry_zip_new g ⟨ht, fun h' z TI TO R M => ?_⟩
  show _ ∧ _
  exact ⟨⟨_, M.rec_, rfl⟩, hQ h' z TI TO R M⟩
end
end ZN

/-! list(zip( *rows )). -/
namespace ZN
open PySem PySem.Builtin PyProof.Rows L2
theorem zip_noLen : typeLookup (.type "zip") "__len__" = pure none := by
  rw [typeLookup_type, builtinLookup_eq_fast]
  kernel_rfl
theorem zip_noHint : typeLookup (.type "zip") "__length_hint__" = pure none := by
  rw [typeLookup_type, builtinLookup_eq_fast]
  kernel_rfl
def lsO (a : Array Value) (n : Nat) : Obj := { cls := .type "list", data := .seq a n }
section
variable {X : Cx} {pins : List (Addr × Obj)} {σ : L2.St} {H : Hp} {s : Shared} {h0 : Heap} {z TI TO : Addr} {R : List Row} {ts : List (Addr × Array Value)} {VR : List (List V)} {m : Nat} {Q : Value → Shared → Prop}
theorem call_listZ (hh : X.A.handled = none) (I : Inv X pins σ H s) (fpn : ∀ b, h0.objs.size ≤ b → FpOk X pins H b) (M : Made h0 s.heap z TI TO R ts) (hR : R ≠ []) (hn : R.length ≤ 6) (hm : m ≤ 1000) (hm0 : 0 < m) (RV : RowsV R VR) (hl : ∀ xs ∈ VR, xs.length = m)
    (hQ : ∀ (H' : Hp) (s' : Shared) (cols : List Addr) (S : Addr), Inv X pins σ H' s' → (∀ b o, H b = some o → H' b = some o) → H S = none → H' S = some (.lst (cols.map V.ref)) → cols.length = m → (∀ j c, cols[j]? = some c → ∃ ys, ColV j VR ys ∧ H' c = some (.tup ys) ∧ H c = none) → Q (.ref S) s') :
    wpAny (model X.prog X.w) X.A (call (.type "list") [.ref z]) Q X.xe s := by
  have live : ∀ b o, s.heap.get? b = some o → b ≠ s.heap.objs.size := fun b o e => Nat.ne_of_lt (Heap.lt_size e)
  have hS : z ≠ s.heap.objs.size ∧ TI ≠ s.heap.objs.size ∧ TO ≠ s.heap.objs.size := ⟨live _ _ M.rec_, live _ _ M.zs.ti, live _ _ M.own⟩
  have hS2 : ∀ r ∈ R, r.it ≠ s.heap.objs.size ∧ r.tp ≠ s.heap.objs.size := fun r hr => by
    obtain ⟨⟨o, e, _⟩, ⟨o2, e2, _⟩⟩ := M.zs.rows r hr
    exact ⟨live _ _ e, live _ _ e2⟩
  refine callType_codes (Q₁ := fun o s1 => o = .ref s.heap.objs.size ∧ s1 = { s with heap := s.heap.push (lsO #[] 0) }) F.called_list (F.typeCall_list_1 _) F.entry_list_init (code_list_new _ ⟨rfl, rfl⟩) ?_
  rintro _ _ ⟨rfl, rfl⟩
  have g1 : (s.heap.push (lsO #[] 0)).get? s.heap.objs.size = some (lsO #[] 0) := Heap.get?_push_size _ rfl
  have K1 : Kp [] s.heap (s.heap.push (lsO #[] 0)) := fun b o _ e => Heap.get?_push_of_some _ e
  have upd1 : ∀ (h : Heap) (f : Obj → Obj), Kp [] s.heap h → Kp [] s.heap (h.update s.heap.objs.size f) := fun h f k b o n e => (Heap.get?_update_other _ _ (live b o e).symm).trans (k b o n e)
  refine ⟨⟨_, g1, rfl⟩, F.args_list_init_2 _ _, ?_⟩
  show wpAny _ X.A.in1.in1 (Builtin.List.listItems (.ref s.heap.objs.size) >>= fun old => updateSeq s.heap.objs.size (fun _ => #[]) >>= fun _ => letGo old.toList.reverse >>= fun _ => Builtin.List.listExtendWith (.ref s.heap.objs.size) (.ref z) .none) _ _ _
  have zero : (0 : Nat) ≤ sizeLine := Nat.zero_le _
  have read : ∀ Q' : Array Value → Shared → Prop, Q' #[] { s with heap := s.heap.push (lsO #[] 0) } → wpAny (model X.prog X.w) X.A.in1.in1 (Builtin.List.listItems (.ref s.heap.objs.size)) Q' (fun e s' => wants (fun r s₂ => r = .none ∧ Q (.ref s.heap.objs.size) s₂) X.xe (.error e) s') { s with heap := s.heap.push (lsO #[] 0) } := fun Q' q => by
    unfold Builtin.List.listItems
    exact wpAny_bind (wpAny_seqItems g1 rfl (wpAny_pure q))
  refine wpAny_bind (read _ (wpAny_bind (wpAny_updateSeq g1 rfl (wpAny_bind (wpAny_letGo ?_)) zero (Nat.zero_le _))))
  have K2 := upd1 _ (Obj.mapSeq fun _ => #[]) K1
  have g2 := Heap.get?_update_self (Obj.mapSeq fun _ => (#[] : Array Value)) g1 rfl
  have hz2 := K2 _ _ (by simp) M.rec_
  unfold Builtin.List.listExtendWith
  have e1 : Builtin.List.listSameRef (.ref s.heap.objs.size) (.ref z) = false := by simp [Builtin.List.listSameRef, hS.1.symm]
  have e2 : (Value.type "zip" == Value.type "list" || Value.type "zip" == Value.type "tuple") = false := by decide
  refine wpAny_bind (wpAny_typeOf (s := { s with heap := _ }) (zipTy hz2) ?_)
  simp only [e1, e2, Bool.false_eq_true, if_false]
  refine wpAny_bind (wpAny_pyIter_zip (s := { s with heap := _ }) hz2 (wpAny_bind (wpAny_holding ?_)))
  have hint : ∀ (Q' : Bool → Shared → Prop) (E' : Value → Shared → Prop) (s' : Shared), s'.TypeIs (.ref z) "zip" → Q' true s' → wpAny (model X.prog X.w) X.A.in1.in1 (Builtin.List.listLengthHint (.ref z)) Q' E' s' := fun Q' E' s' t q => by
    unfold Builtin.List.listLengthHint
    refine wpAny_bind (wpAny_specialOf t zip_noLen ?_)
    show wpAny _ _ (specialOf (Value.ref z) (Str.ofString "__length_hint__") >>= _) _ _ _
    exact wpAny_bind (wpAny_specialOf t zip_noHint (wpAny_pure q))
  refine hint _ _ _ (zipTy (s := { s with heap := _ }) hz2) ?_
  simp only [Bool.true_or, if_true]
  have one : (1 : Nat) ≤ sizeLine := by rw [sizeLine_eq]; decide
  have K3 := upd1 _ (Obj.mapSeq (·.push Value.none)) K2
  have g3 := Heap.get?_update_self (Obj.mapSeq (·.push Value.none)) g2 rfl
  have K4 := upd1 _ (Obj.mapSeq (·.pop)) K3
  have g4 := Heap.get?_update_self (Obj.mapSeq (·.pop)) g3 rfl
  refine wpAny_bind (wpAny_rule (wpAny_bind (m := Builtin.List.listTouch (.ref s.heap.objs.size)) ?_))
  show wpAny _ _ (updateSeq s.heap.objs.size (·.push .none) >>= fun _ => updateSeq s.heap.objs.size (·.pop)) _ _ _
  refine wpAny_bind (wpAny_updateSeq g2 rfl (wpAny_updateSeq g3 rfl ?_ one (Nat.zero_le _)) zero (Nat.le_succ_of_le one))
  refine wpAny_pure ⟨plainId_quiet F.plain_extend_loop _, ?_⟩
  have new : ObjOk X.prog X.w (upd H s.heap.objs.size (.lst [])) _ s.heap.objs.size (.lst []) := ⟨zero, [], _, .nil, g4⟩
  have I4 := I.laid (t' := s.toks) (fun b o e => K4 b o (by simp) e) (Nat.le_refl _) new
  have hfr : H s.heap.objs.size = none := I.hok.fresh (Nat.le_refl _)
  have ok1 : ∀ b o, H b = some o → upd H s.heap.objs.size (.lst []) b = some o := fun b o e => by rw [upd_ne (fun q => by rw [q, hfr] at e; cases e)]; exact e
  have wr : ∀ b ∈ z :: TO :: R.map Row.it, h0.objs.size ≤ b ∧ b ≠ s.heap.objs.size := fun b hb => by
    rcases List.mem_cons.mp hb with rfl | hb
    · exact ⟨M.new.1, hS.1⟩
    · rcases List.mem_cons.mp hb with rfl | hb
      · exact ⟨M.new.2.2.1, hS.2.2⟩
      · obtain ⟨r, hr, rfl⟩ := List.mem_map.mp hb
        exact ⟨M.new.2.2.2 r hr, (hS2 r hr).1⟩
  refine zloop (A1 := X.A.in1) (S := s.heap.objs.size) (H0 := H) (m := m) hh M.lie hR (by omega) hm RV hl hS hS2 hm0 (fun H' s' cols I' ex a b c => ⟨rfl, hQ H' s' cols _ I' ex hfr a b c⟩) m 0 [] _ _ rfl I4 hfr ok1 upd_same rfl (fun j c hj => by cases hj) (fun b hb => ?_) ?_
  · obtain ⟨f0, f1⟩ := fpn b (wr b hb).1
    exact ⟨by rw [upd_ne (wr b hb).2]; exact f0, f1⟩
  · have Z4 : Zs _ z TI TO R 0 := M.zs.kp K4 (by simp) fun r hr => by simp
    exact ⟨Z4, .inl ⟨rfl, K4 _ _ (by simp) M.rec_, K4 _ _ (by simp) M.own⟩, ⟨_, K4 _ _ (by simp) M.own⟩⟩
end

/-! ### the rule -/
def RowsAt (K : PySem.W.Frag) (H : Hp) : List V → List (List V) → Prop
  | [], vs => vs = []
  | q :: qs, vs => ∃ t xs r, q = .ref t ∧ vs = xs :: r ∧ SqT K H t xs ∧ RowsAt K H qs r
def PairsV : List (Addr × Array Value) → List (List V) → Prop
  | [], vs => vs = []
  | t :: ts, vs => ∃ xs r, vs = xs :: r ∧ Vals xs t.2.toList ∧ PairsV ts r
theorem rowsV_of : ∀ {R : List Row} {ts : List (Addr × Array Value)} {vs : List (List V)}, (R.map fun r => (r.tp, r.xs)) = ts → PairsV ts vs → RowsV R vs
  | [], ts, vs, e, h => by subst e; exact h
  | r :: R, ts, vs, e, h => by
    subst e
    obtain ⟨xs, t, e1, h1, h2⟩ := h
    exact ⟨xs, t, e1, h1, rowsV_of rfl h2⟩
section
variable {X : Cx} {pins : List (Addr × Obj)} {σ : L2.St} {H : Hp} {s : Shared}
theorem rows_of (I : Inv X pins σ H s) : ∀ {qs : List V} {us : List Value} {VR : List (List V)}, RowsAt X.K H qs VR → Vals qs us → ∃ ts : List (Addr × Array Value), us = ts.map (fun t => Value.ref t.1) ∧ (∀ t ∈ ts, s.heap.IsTuple t.1 t.2) ∧ ts.length = qs.length ∧ PairsV ts VR
  | [], us, VR, h, r => by
    cases r
    exact ⟨[], rfl, (fun t ht => by cases ht), rfl, h⟩
  | q :: qs, us, VR, ⟨t, xs, VR', e1, e2, hs, h⟩, r => by
    subst e1 e2
    cases r with
    | cons r1 rr =>
      obtain ⟨ts, e, h1, h2, h3⟩ := rows_of I h rr
      cases (show _ = Value.ref t from r1)
      obtain ⟨its, rv, p, _⟩ := I.tuple hs
      refine ⟨(t, its.toArray) :: ts, by rw [List.map_cons, e], fun u hu => ?_, by simp [h2], xs, VR', rfl, by simpa using rv, h3⟩
      rcases List.mem_cons.mp hu with rfl | hu
      · exact p
      · exact h1 u hu
/-- list(zip( *e )) -/
def tLZ (K : PySem.W.Frag) (te : TE) : TE := fun σ H Q => te σ H fun y H1 => ∃ (a : Addr) (qs : List V) (VR : List (List V)) (m : Nat), y = .ref a ∧ (SqT K H1 a qs ∨ SqL K H1 a qs) ∧ RowsAt K H1 qs VR ∧ qs ≠ [] ∧ qs.length ≤ 6 ∧ 0 < m ∧ m ≤ 1000 ∧ (∀ xs ∈ VR, xs.length = m) ∧
  ∀ (S : Addr) (cols : List Addr) (H2 : Hp), (∀ b o, H1 b = some o → H2 b = some o) → H1 S = none → H2 S = some (.lst (cols.map V.ref)) → cols.length = m → (∀ j c, cols[j]? = some c → ∃ ys, ColV j VR ys ∧ H2 c = some (.tup ys) ∧ H1 c = none) → Q (.ref S) H2
theorem pe_lz {e : Expr} {te : TE} {p1 p2 sp pos2 pos : Pos} (hcalm : X.calm = true) (hgl : Gl X "list") (hml : X.mg "list" = none) (hgz : Gl X "zip") (hmz : X.mg "zip" = none) (he : PE X e te)
    (h1 : starEach [.Call (.Name "zip" p2) [.Starred e sp] [] pos2] X.env = [(false, eval (.Call (.Name "zip" p2) [.Starred e sp] [] pos2) X.env)] := by rfl) (h2 : starEach [.Starred e sp] X.env = [(true, eval e X.env)] := by rfl) :
    PE X (.Call (.Name "list" p1) [.Call (.Name "zip" p2) [.Starred e sp] [] pos2] [] pos) (tLZ X.K te) := by
  refine ⟨fun pins s σ H Q I h => ?_⟩
  refine wpAny_Call_Name_kw (ld_blt I hgl hml PyProof.Rows.boot_list (PyProof.Rows.callWith_type1 ?_ h1 rfl))
  rw [h1]
  refine Calls.spliced_cons (wpAny_mono (?_ : wpAny (model X.prog X.w) X.A (eval (.Call (.Name "zip" p2) [.Starred e sp] [] pos2) X.env) (fun v s1 => wpAny (model X.prog X.w) X.A (call (.type "list") [v]) (EP X pins σ Q) X.xe s1) X.xe s) (fun _ _ q => Calls.spliced_nil q) fun _ _ q => q)
  refine wpAny_Call_Name_kw (ld_blt I hgz hmz PyProof.Rows.boot_zip ?_)
  rw [h2]
  refine PySem.W.ks_call (P := fun _ => True) rfl (fun _ _ => ⟨.machine, .inr (.inl rfl), PySem.W.Looks.of_pure rfl⟩) (PySem.W.ks_lone (thn (he.run pins s σ H _ I h) fun v s1 ⟨y, H1, I1, ry, a, qs, VR, m, ey, hs, hr, hne, hn, hm0, hm, hl, q⟩ => ?_))
  subst ey
  obtain rfl : v = Value.ref a := ry
  refine StX.star_any I1 hs fun us s2 I2 rv => ⟨trivial, ?_⟩
  obtain ⟨ts, rfl, ht, htl, hp⟩ := rows_of I2 hr rv
  refine call_zipN (by omega) ht fun h' z TI TO R M => ?_
  have I3 : Inv X pins σ H1 { s2 with heap := h' } := I2.kept (t' := s2.toks) fun b o e => M.kp b o (by simp) e
  have hRl : R.length = ts.length := by
    have := congrArg List.length M.rows
    rwa [List.length_map] at this
  have hR : R ≠ [] := fun e => by
    rw [e, List.length_nil] at hRl
    cases qs with
    | nil => exact hne rfl
    | cons _ _ => rw [List.length_cons] at htl; omega
  exact call_listZ (I3.ok.hd hcalm) I3 (fun b hb => I2.fpOk hb (I2.hok.fresh hb)) M hR (by omega) hm hm0 (rowsV_of M.rows hp) hl fun H' s' cols S I' ex f a b c => ⟨.ref S, H', I', rfl, q S cols H' ex f a b c⟩
end
end ZN

/-! list(zip( *rows )) over data. -/
namespace DM
open PySem PySem.Spec PyProof.Rows L2
def rowsD : List D → Option (List (List D))
  | [] => some []
  | .tup ds :: r => (rowsD r).map (ds :: ·)
  | _ :: _ => none
def colD (j : Nat) (rs : List (List D)) : List D := rs.map fun r => r.getD j .non
def colsD (rs : List (List D)) : Option D := match rs with
  | [] => none
  | r0 :: _ => if rs.length ≤ 6 ∧ 0 < r0.length ∧ r0.length ≤ 1000 ∧ rs.all (fun r => r.length == r0.length) = true then some (.lst ((List.range r0.length).map fun j => .tup (colD j rs))) else none
def oLZ : D → Option D
  | .tup ds => (rowsD ds).bind colsD
  | .lst ds => (rowsD ds).bind colsD
  | _ => none
section
variable {G : Gx} {hd : Addr → Bool} {H H2 : Hp} {π : Wv}
/-- the rows, by their values -/
def RowsR (G : Gx) (H : Hp) : List (List D) → List (List V) → Prop
  | [], vs => vs = []
  | ds :: r, vs => ∃ xs t, vs = xs :: t ∧ RepAll G H ds xs ∧ RowsR G H r t
theorem rows_at : ∀ {ds : List D} {rs : List (List D)} {qs : List V}, rowsD ds = some rs → RepAll G (hid hd H) ds qs → ∃ VR, ZN.RowsAt G.K H qs VR ∧ RowsR G (hid hd H) rs VR
  | [], rs, qs, e, r => by
    cases e
    obtain rfl : qs = [] := r
    exact ⟨[], rfl, rfl⟩
  | d :: ds, rs, qs, e, ⟨q, qs', e2, rq, r⟩ => by
    subst e2
    cases d with
    | tup xs =>
      simp only [rowsD] at e
      obtain ⟨rs', e1, rfl⟩ := Option.map_eq_some_iff.mp e
      obtain ⟨VR, h1, h2⟩ := rows_at e1 r
      obtain ⟨a, ys, rfl, hs, hr⟩ := rq
      exact ⟨ys :: VR, ⟨a, ys, VR, rfl, rfl, Same.sqT hid_self hs, h1⟩, ys, VR, rfl, hr, h2⟩
    | _ => cases e
theorem rows_len {n : Nat} : ∀ {rs : List (List D)} {VR : List (List V)}, RowsR G H rs VR → (∀ r ∈ rs, r.length = n) → ∀ xs ∈ VR, xs.length = n
  | [], VR, e, _, xs, hx => by
    obtain rfl : VR = [] := e
    cases hx
  | ds :: rs, VR, ⟨ys, t, e, h1, h2⟩, hn, xs, hx => by
    subst e
    rcases List.mem_cons.mp hx with rfl | hx
    · rw [RepAll.length h1]; exact hn ds List.mem_cons_self
    · exact rows_len h2 (fun r hr => hn r (List.mem_cons_of_mem _ hr)) xs hx
theorem col_rep {j : Nat} : ∀ {rs : List (List D)} {VR : List (List V)} {ys : List V}, RowsR G H rs VR → ZN.ColV j VR ys → RepAll G H (colD j rs) ys
  | [], VR, ys, e, h => by
    obtain rfl : VR = [] := e
    exact h
  | ds :: rs, VR, ys, ⟨xs, t, e, h1, h2⟩, h => by
    subst e
    obtain ⟨y, ys', rfl, hy, h⟩ := h
    obtain ⟨d, hd, rd⟩ := RepAll.get h1 hy
    have e : ds.getD j .non = d := by rw [List.getD_eq_getElem?_getD, hd]; rfl
    exact ⟨y, ys', rfl, (show Rep G H (ds.getD j .non) y by rw [e]; exact rd), col_rep h2 h⟩
theorem list_rep {f : Nat → D} : ∀ {cols : List Addr} {i : Nat}, (∀ j c, cols[j]? = some c → Rep G H (f (i + j)) (.ref c)) → RepAll G H ((List.range' i cols.length).map f) (cols.map V.ref)
  | [], i, _ => rfl
  | c :: cols, i, h => by
    rw [List.length_cons, List.range'_succ, List.map_cons, List.map_cons]
    refine ⟨.ref c, cols.map V.ref, rfl, h 0 c rfl, list_rep fun j c' hj => ?_⟩
    have := h (j + 1) c' hj
    rwa [show i + 1 + j = i + (j + 1) by omega]
end
def rLZ (K : PySem.W.Frag) : V → Hp → VK → Prop := fun y H1 Q => ∃ (a : Addr) (qs : List V) (VR : List (List V)) (m : Nat), y = .ref a ∧ (SqT K H1 a qs ∨ SqL K H1 a qs) ∧ ZN.RowsAt K H1 qs VR ∧ qs ≠ [] ∧ qs.length ≤ 6 ∧ 0 < m ∧ m ≤ 1000 ∧ (∀ xs ∈ VR, xs.length = m) ∧
  ∀ (S : Addr) (cols : List Addr) (H2 : Hp), (∀ b o, H1 b = some o → H2 b = some o) → H1 S = none → H2 S = some (.lst (cols.map V.ref)) → cols.length = m → (∀ j c, cols[j]? = some c → ∃ ys, ZN.ColV j VR ys ∧ H2 c = some (.tup ys) ∧ H1 c = none) → Q (.ref S) H2
theorem rd_lz {G : Gx} : RD1 G (rLZ G.K) oLZ := by
  intro π hd H x d v Q hn rx ho k
  have core : ∀ (ds : List D) (a : Addr) (qs : List V), (SqT G.K H a qs ∨ SqL G.K H a qs) → RepAll (G.at π) (hid hd H) ds qs → (rowsD ds).bind colsD = some d → rLZ G.K (.ref a) H Q := by
    intro ds a qs hs hr e
    obtain ⟨rs, e1, e2⟩ := Option.bind_eq_some_iff.mp e
    cases rs with
    | nil => cases e2
    | cons r0 rs =>
      simp only [colsD] at e2
      split at e2
      · rename_i hc
        obtain ⟨c1, c2, c3, c4⟩ := hc
        cases e2
        have alln : ∀ r ∈ r0 :: rs, r.length = r0.length := fun r hr => by simpa using List.all_eq_true.mp c4 r hr
        obtain ⟨VR, h1, h2⟩ := rows_at (G := G.at π) e1 hr
        have hql : qs.length = (r0 :: rs).length := by
          have : ∀ {ds : List D} {rs : List (List D)}, rowsD ds = some rs → ds.length = rs.length := by
            intro ds
            induction ds with
            | nil => intro rs e; cases e; rfl
            | cons d ds ih =>
              intro rs e
              cases d with
              | tup xs =>
                simp only [rowsD] at e
                obtain ⟨rs', e1, rfl⟩ := Option.map_eq_some_iff.mp e
                simp [ih e1]
              | _ => cases e
          rw [RepAll.length hr, this e1]
        refine ⟨a, qs, VR, r0.length, rfl, hs, h1, fun e => by rw [e] at hql; simp at hql, by omega, c2, c3, rows_len h2 alln, fun S cols H2 same hS eS hcl hcs => ?_⟩
        have hin : Same (hid hd H) (hid hd H2) := fun b o hb => hid_some.mpr ⟨(hid_some.mp hb).1, same _ _ (hid_some.mp hb).2⟩
        refine k _ H2 same ⟨S, cols.map V.ref, rfl, hid_some.mpr ⟨hn S hS, eS⟩, ?_⟩
        have := list_rep (G := G.at π) (H := hid hd H2) (f := fun j => .tup (colD j (r0 :: rs))) (cols := cols) (i := 0) fun j c hj => ?_
        · rw [hcl, ← List.range_eq_range'] at this
          exact this
        · obtain ⟨ys, q1, q2, q3⟩ := hcs j c hj
          rw [Nat.zero_add]
          exact ⟨c, ys, rfl, .inl (.inl (hid_some.mpr ⟨hn c q3, q2⟩)), RepAll.mono hin _ (col_rep h2 q1)⟩
      · cases e2
  cases x with
  | tup ds =>
    obtain ⟨a, qs, rfl, hs, hr⟩ := rx
    exact core ds a qs (.inl (Same.sqT hid_self hs)) hr ho
  | lst ds =>
    obtain ⟨a, qs, rfl, hs, hr⟩ := rx
    exact core ds a qs (.inr (.inl (.inl hs))) hr ho
  | _ => cases ho
theorem de_lz {X : Cx} {cn : Cn} {E : XKS} {e : Expr} {f : Fe} {p1 p2 sp pos2 pos : Pos} (hgl : Gl X "list") (hml : X.mg "list" = none) (hgz : Gl X "zip") (hmz : X.mg "zip" = none) (he : DE X cn E e f) (hcalm : X.calm = true := by rfl)
    (h1 : starEach [.Call (.Name "zip" p2) [.Starred e sp] [] pos2] X.env = [(false, eval (.Call (.Name "zip" p2) [.Starred e sp] [] pos2) X.env)] := by rfl) (h2 : starEach [.Starred e sp] X.env = [(true, eval e X.env)] := by rfl) :
    DE X cn E (.Call (.Name "list" p1) [.Call (.Name "zip" p2) [.Starred e sp] [] pos2] [] pos) (f1 oLZ f) :=
  PE.imp (ZN.pe_lz hcalm hgl hml hgz hmz he h1 h2) fun _ _ _ h => lift1 (r := rLZ X.K) rd_lz h
end DM

/-! enumerate over tuples. -/
namespace ZN
open PySem PySem.Builtin PyProof.Rows L2
def enO (it : Addr) : Obj := { cls := .type "enumerate", data := .fields #[.none, .bool false, .ref it, rawInt 0, .none, .none] }
theorem enCls (us : List Value) : SmallTypes.newClass "enumerate" ⟨.type "enumerate" :: us, []⟩ = pure (.type "enumerate", us) := by
  unfold SmallTypes.newClass
  simp only [isType, sub_enumerate, pure_bind, Bool.not_true, Bool.false_eq_true, if_false]
section
variable {prog : Program} {w : World} {A : Around} {E : Value → Shared → Prop} {s : Shared}
theorem through {M : Model} {c : Value} {Q : Bool → Shared → Prop} (h : ∀ b, Q b s) : wpAny M A (SmallTypes.calledThroughType c) Q E s := by
  unfold SmallTypes.calledThroughType
  exact wpAny_bind (wpAny_stack_any fun st => wpAny_pure (h _))
theorem call_enumT {t : Addr} {items : Array Value} {Q : Value → Shared → Prop} (ht : s.heap.IsTuple t items)
    (hQ : ∀ h', h'.get? (s.heap.objs.size + 1) = some (enO s.heap.objs.size) → h'.IsTupleIter s.heap.objs.size t 0 → Kp [] s.heap h' → Q (.ref (s.heap.objs.size + 1)) { s with heap := h' }) : wpAny (model prog w) A (call (.type "enumerate") [.ref t]) Q E s := by
  have g : MeetsIn prog w (Builtin.«enumerate.__new__» ⟨[.type "enumerate", .ref t], []⟩) (fun A R s => s.heap.IsTuple t items ∧ R (.ok (.ret (.ref (s.heap.push (tItO t)).objs.size))) { s with heap := (s.heap.push (tItO t)).push (enO s.heap.objs.size) }) :=
    .of_wp fun A R s ⟨ht, h⟩ => by
      unfold Builtin.«enumerate.__new__»
      refine wpAny_bind (wpAny_of_eq (enCls _) ?_)
      dsimp only
      rw [if_pos (show (Value.type "enumerate" == Value.type "enumerate") = true from rfl)]
      refine wpAny_bind (through fun b => ?_)
      have fin : wpAny (model prog w) A.in1 (pyIter (.ref t) >>= fun v => SmallTypes.newRecord (.type "enumerate") (SmallTypes.ownedTupleFields ++ [v, rawInt 0, .none, .none]) >>= fun r => ret r) (fun fin s' => ∃ v, fin = .done (.ret v) ∧ R (.ok (.ret v)) s') (fun e s' => R (.error e) s') s := by
        refine wpAny_bind (wpAny_pyIter_tuple ht ?_)
        show wpAny _ _ (newObj (.type "enumerate") (.fields #[.none, .bool false, .ref s.heap.objs.size, rawInt 0, .none, .none]) >>= _) _ _ _
        exact wpAny_bind (wpAny_newObj_type (wpAny_pure ⟨_, rfl, h⟩))
      cases b
      · exact wpAny_bind (wpAny_of_eq (a := (Value.ref t, Option.none)) rfl fin)
      · exact wpAny_bind (wpAny_of_eq (a := (Value.ref t, Option.none)) rfl fin)
  refine callType_newIn F.called_enumerate (by decide) (F.typeCall_enumerate_1 _) (F.newCall_enumerate_1 _) (fun o => F.args_object_init_2 o _) F.entry_enumerate_new g ⟨ht, ?_⟩
  have z1 : (s.heap.push (tItO t)).objs.size = s.heap.objs.size + 1 := Heap.size_push ..
  have ge : ((s.heap.push (tItO t)).push (enO s.heap.objs.size)).get? (s.heap.objs.size + 1) = some (enO s.heap.objs.size) := by
    have := Heap.get?_push_size (s.heap.push (tItO t)) (o := enO s.heap.objs.size) rfl
    rwa [z1] at this
  show _ ∧ _
  rw [z1]
  exact ⟨⟨_, ge, rfl⟩, hQ _ ge ⟨_, Heap.get?_push_of_some _ (Heap.get?_push_size _ rfl), rfl, rfl⟩ fun b o _ e => Heap.get?_push_of_some _ (Heap.get?_push_of_some _ e)⟩
end

/-- each item of what S tells, with its number, in a new pair -/
def IteS (S : List V → Hp → Prop) : It where
  go i H := ∃ xs, S xs H ∧ i < xs.length
  yld i H v H2 := ∃ (T : Addr) (x : V), (∀ xs, S xs H → xs[i]? = some x) ∧ H T = none ∧ v = .ref T ∧ H2 = upd H T (.tup [.int (i : Nat), x])
  stop i H := ∃ xs, S xs H ∧ ¬ i < xs.length
abbrev IteT (K : PySem.W.Frag) (a : Addr) : It := IteS fun xs H => SqT K H a xs
/-- an enumerate object e over an iterator it of the tuple a, ahead of turn i -/
structure Est (e it a : Addr) (i : Nat) (h : Heap) : Prop where
  cnt : ∃ old, IsEnum h e it ((i : Nat) : Int) old
  pos : h.IsTupleIter it a i
theorem Est.live {e it a : Addr} {i : Nat} {h : Heap} (t : Est e it a i h) : (∃ vs, ∃ o : Obj, h.get? e = some o ∧ o.data = .fields vs) ∧ ∃ vs, ∃ o : Obj, h.get? it = some o ∧ o.data = .fields vs := by
  obtain ⟨old, c⟩ := t.cnt
  obtain ⟨o, p, _, d⟩ := t.pos
  exact ⟨⟨_, _, c, rfl⟩, _, o, p, d⟩
section
variable {X : Cx} {pins : List (Addr × Obj)} {σ : L2.St} {H : Hp} {s : Shared} {E : Value → Shared → Prop} {e it a : Addr} {xs : List V} {i : Nat}
theorem enumT_turn {elts : List Expr} {kk : Nat} {tpos : Pos} (calm : X.calm = true) (I : Inv X pins σ H s) (ours : ∀ b ∈ [e, it], FpOk X pins H b) (d1 : e ≠ it) (d2 : a ≠ e) (d3 : a ≠ it) (t : Est e it a i s.heap) (hS : SqT X.K H a xs) (x : V) (hx : xs[i]? = some x) :
    wpAny (model X.prog X.w) X.A (pyNext (.ref e)) (fun r s1 => ∃ u, r = some u ∧ wpAny (model X.prog X.w) X.A (letOwnedTupleGo (.Tuple elts kk tpos) (.ref e) u) (fun _ s2 => ∃ y H2, Inv X pins σ H2 s2 ∧ RelV y u ∧ (IteT X.K a).yld i H y H2 ∧ Est e it a (i + 1) s2.heap ∧ ∀ b ∈ [e, it], H2 b = none) E s1) E s := by
  have vals := I.tuple hS
  obtain ⟨ws, paired, stands, _⟩ := vals
  have W := WalksT.enumerateD (Draws.tuple (prog := X.prog) (w := X.w) (A := X.A.in1) (I.ok.hd calm) it a d3 ws.toArray) e d1 (by simp [d1, d2.symm]) (by simp)
  have at_i := paired.get hx
  have short : i < ws.toArray.size := by
    obtain ⟨u, hu, _⟩ := at_i
    simpa using (List.getElem?_eq_some_iff.mp hu).1
  refine W.item i s _ _ short ⟨t.cnt, t.pos, stands⟩ fun T two h1 tk here above isT mid old => ⟨.ref T, rfl, ?_⟩
  refine W.go elts kk tpos i T _ _ _ mid fun h2 later old2 => ?_
  have apart := W.apart i T h1 mid
  have none_T : H T = none := I.hok.fresh above
  obtain ⟨num, u, hu2, shape⟩ := here
  have ru : RelV x u := by
    obtain ⟨u', hu, r⟩ := at_i
    have : ws.toArray[i]? = some u' := by simpa using hu
    rw [this] at hu2
    exact Option.some.inj hu2 ▸ r
  rw [shape] at isT
  have laid : ObjOk X.prog X.w (upd H T (.tup [.int (i : Nat), x])) h2 T (.tup [.int (i : Nat), x]) := ⟨(by decide : 2 ≤ sizeLine), _, .cons ⟨num, rfl⟩ (.cons ru .nil), isT.at fun o q => old2 T o apart q⟩
  have after := I.turnedNew (t' := tk) (fun b o out q => old2 b o out (old b o out q)) ours above laid
  exact ⟨.ref T, _, after, rfl, ⟨T, x, fun ys hy => I.tuple_inj hy hS ▸ hx, none_T, rfl, rfl⟩, ⟨later.1, later.2.1⟩, fun b hb => (upd_ne fun (q : b = T) => apart (by rw [← q]; exact hb)).trans (ours b hb).1⟩
/-- draws from a tuple that has been gone through -/
theorem drained {A : Around} {items : Array Value} (calm : A.handled = none) (over : items[i]? = none) : Draws X.prog X.w A it [it, a] i (fun _ _ => False) (fun j h => (j = i ∧ h.IsTuple a items) ∧ h.IsTupleIter it a i) where
  live _ _ t := t.2.imp fun o q => q.1
  frame _ _ _ t old := ⟨⟨t.1.1, t.1.2.at (old a (by simp))⟩, t.2.at (old it (by simp))⟩
  item _ _ _ _ less t _ := absurd t.1.1 (Nat.ne_of_lt less)
  done _ _ _ t out := PySem.wpAny_nextOf_tuple_end calm t.2 t.1.2 over out
theorem enumT_stop (calm : X.calm = true) (I : Inv X pins σ H s) (ours : ∀ b ∈ [e, it], FpOk X pins H b) (t : Est e it a i s.heap) (hS : SqT X.K H a xs) (hx : ¬ i < xs.length) : wpAny (model X.prog X.w) X.A (pyNext (.ref e)) (fun r s1 => r = none ∧ Inv X pins σ H s1) E s := by
  have vals := I.tuple hS
  obtain ⟨ws, paired, stands, _⟩ := vals
  have over : ws.toArray[i]? = none := by
    have := paired.length
    simp
    omega
  obtain ⟨old, c⟩ := t.cnt
  exact wpAny_pyNext_enum_endD (drained (X := X) (I.ok.hd calm) over) c ⟨⟨rfl, stands⟩, t.pos⟩ fun h2 kept => ⟨rfl, I.turnedL (t' := s.toks) (ch := [e, it]) (fun b o out q => kept b o (fun z => out (by simp [z])) q) ours⟩
end
theorem turn_enumT {P : Program} {w : World} {K : PySem.W.Frag} {elts : List Expr} {kk : Nat} {tpos : Pos} {a e it : Addr} (d1 : e ≠ it) (d2 : a ≠ e) (d3 : a ≠ it) : Turn P w K (.Tuple elts kk tpos) (IteT K a) [e, it] e (Est e it a) where
  mem := List.mem_cons_self
  self _ _ _ _ _ t q := let ⟨_, c⟩ := t.cnt; wpAny_pyIter_enum c q
  obj i h t b hb := by
    have fields : ∃ vs, ∃ o : Obj, h.get? b = some o ∧ o.data = .fields vs := (List.mem_cons.mp hb).elim (fun z => z ▸ t.live.1) fun z => List.mem_singleton.mp z ▸ t.live.2
    obtain ⟨vs, o, q, d⟩ := fields
    exact ⟨o, q, fun v z => by rw [d] at z; cases z⟩
  keep i h h2 t old := ⟨t.cnt.imp fun _ c => old e (by simp) _ c, t.pos.at (old it (by simp))⟩
  item X eP ew eK calm i pins s σ H E I ours t go := by
    subst eP ew eK
    obtain ⟨xs, hS, less⟩ := go
    exact enumT_turn calm I ours d1 d2 d3 t hS _ (List.getElem?_eq_getElem less)
  done X eP ew eK calm i pins s σ H E I ours t stop := by
    subst eP ew eK
    obtain ⟨xs, hS, no⟩ := stop
    exact enumT_stop calm I ours t hS no
def iEnumT (K : PySem.W.Frag) (ta : TA) : TI := fun σ H R => ta σ H fun vs H1 => ∃ a xs, vs = [.ref a] ∧ SqT K H1 a xs ∧ R (IteT K a) H1
theorem pi_enumT {X : Cx} {e : Expr} {ta : TA} {p pos tpos : Pos} {elts : List Expr} {kk : Nat} (hg : Gl X "enumerate") (hm : X.mg "enumerate" = none) (ha : PA X [e] ta) (hs : starEach [e] X.env = [(false, eval e X.env)] := by rfl) :
    PI X (.Tuple elts kk tpos) (.Call (.Name "enumerate" p) [e] [] pos) (iEnumT X.K ta) := by
  refine ⟨fun pins s σ H R I h => ?_⟩
  refine Call_ (ld_blt I hg hm PyProof.Rows.boot_enumerate (PyProof.Rows.callWith_type1 (thn (ha.run pos pins s σ H _ I h) fun us s1 ⟨vs, H1, I1, r1, a, xs, ev, hq, q⟩ => ?_) hs rfl))
  subst ev
  obtain ⟨u, rfl, ru⟩ := r1.one
  cases ru
  obtain ⟨its, rv, p', hz⟩ := I1.tuple hq
  have low : a < s1.heap.objs.size := by
    obtain ⟨o, e, _⟩ := id p'
    exact Heap.lt_size e
  refine call_enumT p' fun h' he hit k => wpAny_pyIter_enum (it := s1.heap.objs.size) (i := 0) he ?_
  have I2 : Inv X pins σ H1 { s1 with heap := h' } := I1.kept (t' := s1.toks) fun b o e => k b o (by simp) e
  refine ⟨s1.heap.objs.size + 1, [s1.heap.objs.size + 1, s1.heap.objs.size], _, _, H1, rfl, I2, turn_enumT (Nat.succ_ne_self _) (Nat.ne_of_lt (Nat.lt_succ_of_lt low)) (Nat.ne_of_lt low), ⟨⟨.none, he⟩, hit⟩, fun b hb => ?_, q⟩
  have le : s1.heap.objs.size ≤ b := by
    rcases List.mem_cons.mp hb with rfl | hb
    · exact Nat.le_succ _
    · rw [List.mem_singleton.mp hb]; exact Nat.le_refl _
  exact I1.fpOk le (I1.hok.fresh le)
theorem walk_enumT {K : PySem.W.Frag} {a : Addr} {xs : List V} : Walk (IteT K a) xs.length (fun H => SqT K H a xs) (YPair (fun i => some (.int (i : Nat))) (fun i => xs[i]?)) where
  goes _ _ less q := ⟨xs, q, less⟩
  stops _ q := ⟨xs, q, Nat.lt_irrefl _⟩
  yields i H v H2 _ st pr := by
    obtain ⟨T, x, told, free, ev, laid⟩ := pr
    exact ⟨T, .int (i : Nat), x, ev, free, laid, rfl, told xs st⟩
end ZN
namespace DM
open PySem PySem.Spec PyProof.Rows L2
def fEnumT (g : Fa) : Fi := fun δ m => (g δ m).bind fun xs m1 => match xs with
  | [.tup a] => .ok (enumD 0 a, none) m1
  | _ => .bad
theorem di_enumT {X : Cx} {cn : Cn} {E : XKS} {e : Expr} {g : Fa} {p pos tpos : Pos} {elts : List Expr} {kk : Nat} (hg : Gl X "enumerate") (hm : X.mg "enumerate" = none) (ha : DA X cn E [e] g) (hs : starEach [e] X.env = [(false, eval e X.env)] := by rfl) :
    DI X cn E (.Tuple elts kk tpos) (.Call (.Name "enumerate" p) [e] [] pos) (fEnumT g) := by
  refine PI.imp (ZN.pi_enumT hg hm ha hs) fun σ H R q => ?_
  obtain ⟨π, δ, m, a, p⟩ := q
  refine (show tDA _ E g σ H _ from ⟨π, δ, m, a, ?_⟩)
  unfold fEnumT at p
  cases hf : g δ m with
  | bad => rw [hf] at p; exact p
  | exc x m1 => rw [hf] at p; exact p
  | ok xs m1 =>
    rw [hf] at p
    intro π1 vs H1 s1 rv
    simp only [Rs.bind] at p
    match xs, p, rv with
    | [.tup x], p, rv =>
      obtain ⟨v1, r', rfl, ⟨b1, us1, rfl, k1, q1⟩, rfl⟩ := rv
      refine ⟨b1, us1, rfl, Same.sqT hid_self k1, p _ _ H1 s1 ?_⟩
      refine ⟨_, _, by rw [enumD_len, ← RepAll.length q1]; exact ZN.walk_enumT (xs := us1), fun π2 m2 H2 k _ _ => Same.sqT hid_self (Same.sqT k.same k1), fun i H2 x' H3 π2 m2 hi p2 s k _ y => ?_⟩
      obtain ⟨T, u, z, rfl, hT, rfl, hx, hy⟩ := y
      cases hx
      obtain ⟨d2, e2, r2⟩ := RepAll.get q1 hy
      have sm : Same H2 (upd H2 T (.tup [.int (i : Nat), z])) := same_new hT
      have hin : Same (hid (lv π2 m2) H2) (hid (lv π2 m2) (upd H2 T (.tup [.int (i : Nat), z]))) := hid_same fun a o _ ha => sm a o ha
      refine ⟨sm, .tup [.int (i : Nat), d2], by rw [enumD_get x 0 i d2 e2, Nat.zero_add], ?_⟩
      exact ⟨T, [.int (i : Nat), z], rfl, .inl (.inl (hid_some.mpr ⟨k.fresh hT, upd_same⟩)), ⟨.int (i : Nat), [z], rfl, rfl, ⟨z, [], rfl, Rep.mono hin d2 (Rep.up p2 s d2 r2), rfl⟩⟩⟩
end DM

/-! bool(..); all of the M layer. -/
namespace DM
open PySem PySem.Spec PyProof.Rows L2
def oBool : List D → Option D
  | [.bl b] => some (.bl b)
  | [.int i] => some (.bl (i != 0))
  | _ => none
section
variable {X : Cx} {cn : Cn}
theorem bf_bool : Bf X cn (.type "bool") oBool := by
  refine ⟨_, call_bool1, ?_⟩
  intro π hd H xs d vs Q hn rx ho k
  match xs with
  | [] => cases ho
  | [x] =>
    obtain ⟨v, rfl, r⟩ := repT1 rx
    cases x <;> simp only [oBool] at ho <;> (try contradiction)
    · rename_i b
      obtain rfl : v = .bl b := r
      cases ho
      exact .inr ⟨b, rfl, k _ H (Same.refl H) rfl⟩
    · rename_i i
      obtain rfl : v = .int i := r
      cases ho
      exact .inl ⟨i, rfl, k _ H (Same.refl H) rfl⟩
  | x :: y :: r => cases x <;> simp only [oBool] at ho <;> contradiction
end
/-! ### isinstance facts from what k_is finds -/
theorem kit_false {K : PySem.W.Frag} {C : Addr} {T : String} {l : List Value} (ic : PySem.W.isClsIn K C = true) (ty : PySem.W.typeIn K (.ref C) = some (.type "type")) (e : fastBuiltinMro T = some l) (h : l.contains (.ref C) = false) : PySem.W.kitOne K (.type T) (.ref C) = some false := by
  have c1 : (PySem.W.clsIn K C).isSome = true := ic
  have c2 : ((PySem.W.clsIn K C).isSome && PySem.W.typeIn K (.ref C) == some (.type "type")) = true := by rw [c1, ty]; rfl
  unfold PySem.W.kitOne
  rw [if_neg (by intro z; cases z)]
  show (if ((PySem.W.clsIn K C).isSome && PySem.W.typeIn K (.ref C) == some (.type "type")) = true then PySem.W.subIn K (.type T) (.ref C) else none) = some false
  rw [if_pos c2]
  show (fastBuiltinMro T).map (·.contains (.ref C)) = some false
  rw [e, Option.map_some, h]
theorem isClsC {K : PySem.W.Frag} {C : Addr} (cl : Cls K C) (ca : PySem.W.findIn K (.ref C) "__class__" = some (some (.builtin "object.__class__"))) (cn : PySem.W.specialIn K (.builtin "object.__class__") "__get__" = some (some (.builtin "getset_descriptor.__get__")))
    (ct : PySem.W.takesIn K (.builtin "object.__class__") = some true) (cm : PySem.W.mroIn K C (.type "object") = some true) (ic : PySem.W.isClsIn K C = true) (ty : PySem.W.typeIn K (.ref C) = some (.type "type")) : IsC K C where
  cl := cl
  ca := ca
  cn := cn
  ct := ct
  cm := cm
  pl := by
    have e1 : fastBuiltinMro "NoneType" = some [.type "NoneType", .type "object"] := by decide +kernel
    have e2 : fastBuiltinMro "bool" = some [.type "bool", .type "int", .type "object"] := by decide +kernel
    have e3 : fastBuiltinMro "int" = some [.type "int", .type "object"] := by decide +kernel
    have e4 : fastBuiltinMro "str" = some [.type "str", .type "object"] := by decide +kernel
    have e5 : fastBuiltinMro "list" = some [.type "list", .type "object"] := by decide +kernel
    have e6 : fastBuiltinMro "tuple" = some [.type "tuple", .type "object"] := by decide +kernel
    intro T hT
    simp only [List.mem_cons, List.not_mem_nil, or_false] at hT
    rcases hT with rfl | rfl | rfl | rfl | rfl | rfl
    · exact kit_false ic ty e1 (by simp)
    · exact kit_false ic ty e2 (by simp)
    · exact kit_false ic ty e3 (by simp)
    · exact kit_false ic ty e4 (by simp)
    · exact kit_false ic ty e5 (by simp)
    · exact kit_false ic ty e6 (by simp)
/-- a, b = x, y with plain local names -/
def sPar (i j : Nat) (g : Fa) : Fs := fun δ m => DM.thn (g δ m) δ fun ds m1 => match ds with
  | [a, b] => .nx ((δ.set i (.dat a)).set j (.dat b)) m1
  | _ => .bad
section
variable {X : Cx} {cn : Cn} {E : XKS}
theorem ds_par (i j : Nat) {x y : Str} {a b : Expr} {g : Fa} {px py pt pos : Pos} {kt k2 pt2} (ha : DA X cn E [a, b] g) (hN : X.N.Nodup) (hi : X.N[i]? = some x := by rfl) (hj : X.N[j]? = some y := by rfl) (hij : i ≠ j := by decide)
    (hx : X.env.scope.names.lookup x = some .local := by rfl) (hy : X.env.scope.names.lookup y = some .local := by rfl) (hc : X.calm = true := by rfl)
    (hw : swappedStores [.Tuple [.Name x px, .Name y py] kt pt] (.Tuple [a, b] k2 pt2) X.env = pure (some [x, y]) := by rfl)
    (hs : swapsWithSole [.Tuple [.Name x px, .Name y py] kt pt] (.Tuple [a, b] k2 pt2) pos.line X.env = pure false := by rfl) :
    DS X cn E (.Assign [.Tuple [.Name x px, .Name y py] kt pt] (.Tuple [a, b] k2 pt2) pos) (sPar i j g) := by
  refine PS.imp (ps_par hc hN hi hj hij hx hy ha hw hs) fun Dn σ H h => ?_
  obtain ⟨π, δ, m, at0, p⟩ := h
  refine ⟨π, δ, m, at0, ?_⟩
  unfold sPar at p
  cases hg : g δ m with
  | bad => rw [hg] at p; exact p
  | exc x m1 =>
    rw [hg] at p
    exact fun π1 c dd H1 s x => p π1 σ c dd H1 s.ex (at0.step s) x
  | ok ds m1 =>
    rw [hg] at p
    intro π1 vs H1 s1 rv
    simp only [DM.thn] at p
    match ds, p, rv with
    | [], p, rv => exact False.elim p
    | [d], p, rv => exact False.elim p
    | [d1, d2], p, rv =>
      obtain ⟨v1, r1, rfl, q1, v2, r2, rfl, q2, rfl⟩ := rv
      exact ⟨v1, v2, rfl, p π1 _ H1 s1.ex (((at0.step s1).set i q1).set j q2)⟩
    | _ :: _ :: _ :: _, p, rv => exact False.elim p
end
end DM

/-! The plain side of the M layer: how the functions on data answer. -/
namespace DM
open PySem PySem.Spec PyProof.Rows L2
section
variable {δ δ1 δ2 : Sls} {m m1 m2 m3 : Mir}
theorem ev_seq {g h : Fs} (e : g δ m = .nx δ1 m1) : sSeq g h δ m = h δ1 m1 := by unfold sSeq; rw [e]
theorem ev_seqR {g h : Fs} {d : D} (e : g δ m = .rt d m1) : sSeq g h δ m = .rt d m1 := by unfold sSeq; rw [e]
theorem ev_if {t : Ft} {g h : Fs} {b : Bool} (e : t δ m = .ok b m1) : sIf t g h δ m = if b = true then g δ m1 else h δ m1 := by unfold sIf; rw [e]; rfl
theorem ev_ifT {t : Ft} {g h : Fs} (e : t δ m = .ok true m1) : sIf t g h δ m = g δ m1 := by rw [ev_if e]; rfl
theorem ev_ifF {t : Ft} {g h : Fs} (e : t δ m = .ok false m1) : sIf t g h δ m = h δ m1 := by rw [ev_if e]; rfl
theorem ev_set {i : Nat} {f : Fe} {d : D} (e : f δ m = .ok d m1) : sSet i f δ m = .nx (δ.set i (.dat d)) m1 := by unfold sSet; rw [e]; rfl
theorem ev_drop {f : Fe} {d : D} (e : f δ m = .ok d m1) : sDrop f δ m = .nx δ m1 := by unfold sDrop; rw [e]; rfl
theorem ev_ret {f : Fe} {d : D} (e : f δ m = .ok d m1) : sRet f δ m = .rt d m1 := by unfold sRet; rw [e]; rfl
theorem ev_for {f : Fi} {t : Ftg} {g : Fs} {ds : List D} {gd : Gd} (e : f δ m = .ok (ds, gd) m1) : sFor f t g δ m = forL t g gd ds δ m1 := by unfold sFor; rw [e]; rfl
theorem ev_par {i j : Nat} {g : Fa} {a b : D} (e : g δ m = .ok [a, b] m1) : sPar i j g δ m = .nx ((δ.set i (.dat a)).set j (.dat b)) m1 := by unfold sPar; rw [e]; rfl
theorem ev_f1 {o : D → Option D} {f : Fe} {x x' d : D} (e1 : f δ m = .ok x m1) (hx : view m1 x = some x') (h : o x' = some d) : f1 o f δ m = .ok d m1 := by
  unfold f1; rw [e1]; simp only [Rs.bind]; rw [hx, Option.bind_some, h]; rfl
theorem ev_f2 {o : D → D → Option D} {f g : Fe} {x y x' y' d : D} (e1 : f δ m = .ok x m1) (e2 : g δ m1 = .ok y m2) (hx : view m2 x = some x') (hy : view m2 y = some y') (h : o x' y' = some d) : f2 o f g δ m = .ok d m2 := by
  unfold f2; rw [e1]; simp only [Rs.bind]; rw [e2]; simp only [Rs.bind]; rw [hx, Option.bind_some, hy, Option.bind_some, h]; rfl
theorem ev_fB {f : Fe} {b : Bool} (e : f δ m = .ok (.bl b) m1) : fB f δ m = .ok b m1 := by unfold fB; rw [e]; rfl
theorem ev_not {f : Ft} {b : Bool} (e : f δ m = .ok b m1) : fNot f δ m = .ok (!b) m1 := by unfold fNot; rw [e]; rfl
theorem ev_orF {f g : Ft} (e : f δ m = .ok false m1) : fOr f g δ m = g δ m1 := by unfold fOr; rw [e]; rfl
theorem ev_andT {f g : Ft} (e : f δ m = .ok true m1) : fAnd f g δ m = g δ m1 := by unfold fAnd; rw [e]; rfl
theorem ev_andF {f g : Ft} (e : f δ m = .ok false m1) : fAnd f g δ m = .ok false m1 := by unfold fAnd; rw [e]; rfl
theorem ev_andVT {f g : Fe} (e : f δ m = .ok (.bl true) m1) : fAndV f g δ m = g δ m1 := by unfold fAndV; rw [e]; rfl
theorem ev_cons {f : Fe} {g : Fa} {x : D} {xs : List D} (e1 : f δ m = .ok x m1) (e2 : g δ m1 = .ok xs m2) : fCons f g δ m = .ok (x :: xs) m2 := by
  unfold fCons; rw [e1]; simp only [Rs.bind]; rw [e2]
theorem ev_one {f : Fe} {x : D} (e1 : f δ m = .ok x m1) : fCons f fNil δ m = .ok [x] m1 := ev_cons e1 rfl
theorem ev_CB {o : List D → Option D} {g : Fa} {xs ys : List D} {d : D} (e : g δ m = .ok xs m1) (hv : views m1 xs = some ys) (h : o ys = some d) : fCB o g δ m = .ok d m1 := by
  unfold fCB; rw [e]; simp only [Rs.bind]; rw [hv, Option.bind_some, h]; rfl
theorem ev_callN {n : Nat} {F : Sls → Mir → Rs D} {g : Fa} {as : List D} {d : D} (e : g δ m = .ok as m1) (hn : as.length = n) (h : F (as.map .dat) m1 = .ok d m2) : fCallN n F g δ m = .ok d m2 := by
  unfold fCallN; rw [e]; simp only [Rs.bind]; rw [if_pos hn, h]
theorem ev_run0 {n : Nat} {g : Fs} {as : Sls} {d : D} (e : g (as ++ List.replicate (n - as.length) .un) m = .rt d m) : runF n g as m = .ok d m := by
  unfold runF; rw [e]
  show trimR m.length d m = _
  unfold trimR
  rw [if_pos rfl]
theorem ev_s2 {o : Str → D → Option D} {f g : Fe} {z : Str} {y y' d : D} (e1 : f δ m = .ok (.str z) m1) (e2 : g δ m1 = .ok y m2) (hy : view m2 y = some y') (h : o z y' = some d) : fS2 o f g δ m = .ok d m2 := by
  unfold fS2; rw [e1]; simp only [Rs.bind]; rw [e2]; simp only [Rs.bind]; rw [hy, Option.bind_some, h]; rfl
theorem ev_tab {tb : List (Str × D)} {f : Fe} {z : Str} {d : D} (e1 : f δ m = .ok (.str z) m1) (h : tb.lookup z = some d) : fTab tb f δ m = .ok d m1 := by
  unfold fTab; rw [e1]; simp only [Rs.bind]; rw [h]; rfl
theorem ev_range1 {g : Fa} {j : Int} (e : g δ m = .ok [.int j] m1) (h : -(2 ^ 62) ≤ j ∧ j < 2 ^ 62) : fRange1 g δ m = .ok (rng 0 j.toNat, none) m1 := by
  unfold fRange1; rw [e]; simp only [Rs.bind]; rw [if_pos h]
theorem ev_fseq {f : Fe} {x : D} {ds : List D} (e : f δ m = .ok x m1) (hx : ∀ n, x ≠ .ref n) (h : itemsOf x = some ds) : fSeq f δ m = .ok (ds, none) m1 := by
  unfold fSeq; rw [e]; simp only [Rs.bind]
  cases x with
  | ref n => exact absurd rfl (hx n)
  | _ => simp only [h]
/-! comprehensions and loops that leave the mirror alone -/
theorem lcL_map {α : Type} {t : Ftg} {tt : Ft} {te : Fe} {a b : α → D} : ∀ (xs : List α), (∀ x ∈ xs, ∃ δ1, t (a x) δ = some δ1 ∧ tt δ1 m = .ok true m ∧ te δ1 m = .ok (b x) m) → lcL t tt te δ none (xs.map a) m = .ok (xs.map b) m
  | [], _ => rfl
  | x :: xs, h => by
    obtain ⟨δ1, e1, e2, e3⟩ := h x List.mem_cons_self
    have ih := lcL_map xs fun y hy => h y (List.mem_cons_of_mem _ hy)
    rw [List.map_cons]
    unfold lcL
    rw [e1]
    simp only [gdOk, if_true]
    rw [e2]
    simp only []
    rw [e3]
    simp only []
    rw [ih]
    rfl
theorem ev_lc {fi : Fi} {t : Ftg} {tt : Ft} {te : Fe} {vs : List Nat} {ds ys : List D} {gd : Gd} (e1 : fi δ m = .ok (ds, gd) m1) (hl : ds.length < sizeLine) (e2 : lcL t tt te (wipeD δ vs) gd ds m1 = .ok ys m2) : fLc fi t tt te vs δ m = .ok (.lst ys) m2 := by
  unfold fLc; rw [e1]; simp only [Rs.bind]; rw [if_pos hl, e2]
theorem forL_cons {t : Ftg} {g : Fs} {d : D} {ds : List D} (e1 : t d δ = some δ1) (e2 : g δ1 m = .nx δ2 m2) : forL t g none (d :: ds) δ m = forL t g none ds δ2 m2 := by
  conv => lhs; unfold forL
  rw [e1]
  simp only [gdOk, if_true]
  rw [e2]
theorem forL_consR {t : Ftg} {g : Fs} {d r : D} {ds : List D} (e1 : t d δ = some δ1) (e2 : g δ1 m = .rt r m2) : forL t g none (d :: ds) δ m = .rt r m2 := by
  conv => lhs; unfold forL
  rw [e1]
  simp only [gdOk, if_true]
  rw [e2]
/-- a loop that keeps what it keeps -/
theorem forL_nx {t : Ftg} {g : Fs} (I : Sls → Mir → Prop) : ∀ (ds : List D) (δ : Sls) (m : Mir), (∀ d ∈ ds, ∀ δ m, I δ m → ∃ δ1, t d δ = some δ1 ∧ ∃ δ2 m2, g δ1 m = .nx δ2 m2 ∧ I δ2 m2) → I δ m → ∃ δ2 m2, forL t g none ds δ m = .nx δ2 m2 ∧ I δ2 m2
  | [], δ, m, _, h0 => ⟨δ, m, rfl, h0⟩
  | d :: ds, δ, m, h, h0 => by
    obtain ⟨δ1, e1, δ2, m2, e2, h2⟩ := h d (List.mem_cons_self ..) δ m h0
    obtain ⟨δ3, m3, e3, h3⟩ := forL_nx I ds δ2 m2 (fun x hx => h x (List.mem_cons_of_mem _ hx)) h2
    exact ⟨δ3, m3, (forL_cons e1 e2).trans e3, h3⟩
/-- a list whose items all have a property, drawn one by one -/
theorem lcL_all {t : Ftg} {tt : Ft} {te : Fe} {δ0 : Sls} (J : Mir → Prop) (R : D → Prop) : ∀ (ds : List D) (m : Mir), (∀ d ∈ ds, ∀ m, J m → ∃ δ1, t d δ0 = some δ1 ∧ ∃ m1, tt δ1 m = .ok true m1 ∧ ∃ y m2, te δ1 m1 = .ok y m2 ∧ R y ∧ J m2) → J m →
    ∃ ys m2, lcL t tt te δ0 none ds m = .ok ys m2 ∧ ys.length = ds.length ∧ (∀ y ∈ ys, R y) ∧ J m2
  | [], m, _, h0 => ⟨[], m, rfl, rfl, (fun y hy => by cases hy), h0⟩
  | d :: ds, m, h, h0 => by
    obtain ⟨δ1, e1, m1, e2, y, m2, e3, hp, h2⟩ := h d (List.mem_cons_self ..) m h0
    obtain ⟨ys, m3, e4, hl, h3, h4⟩ := lcL_all J R ds m2 (fun x hx => h x (List.mem_cons_of_mem _ hx)) h2
    refine ⟨y :: ys, m3, ?_, by simp [hl], fun z hz => ?_, h4⟩
    · unfold lcL
      rw [e1]
      simp only [gdOk, if_true]
      rw [e2]
      simp only []
      rw [e3]
      simp only []
      rw [e4]
      rfl
    · rcases List.mem_cons.mp hz with rfl | hz
      · exact hp
      · exact h3 z hz
end

/-! ### equality of data -/
theorem oEq_of {x y : D} {a b : PyData} (h1 : D.py x = some a) (h2 : D.py y = some b) (s1 : SeqAt.shaped a = true) (s2 : SeqAt.shaped b = true) : oEq x y = some (.bl (PyData.eqv a b)) := by
  unfold oEq
  rw [h1, Option.bind_some, h2, Option.bind_some, if_pos ⟨s1, s2⟩]
theorem oNe_of {x y : D} {a b : PyData} (h1 : D.py x = some a) (h2 : D.py y = some b) (s1 : SeqAt.shaped a = true) (s2 : SeqAt.shaped b = true) : oNe x y = some (.bl (!PyData.eqv a b)) := by
  unfold oNe
  rw [h1, Option.bind_some, h2, Option.bind_some, if_pos ⟨s1, s2⟩]
theorem pyAll_map {α : Type} {f : α → D} {g : α → PyData} (h : ∀ x, D.py (f x) = some (g x)) : ∀ xs : List α, D.pyAll (xs.map f) = some (xs.map g)
  | [] => rfl
  | x :: xs => by
    rw [List.map_cons, D.pyAll, h x, Option.bind_some, pyAll_map h xs]
    rfl
theorem eqvAll_map {α : Type} {f g : α → PyData} : ∀ xs : List α, PyData.eqvAll (xs.map f) (xs.map g) = xs.all fun x => PyData.eqv (f x) (g x)
  | [] => rfl
  | x :: xs => by
    rw [List.map_cons, List.map_cons, PyData.eqvAll, eqvAll_map xs]
    rfl
theorem shaped_map {α : Type} {f : α → PyData} {k : Nat} (h : ∀ x, (f x).canLay0 = true ∧ (f x).depth ≤ k) : ∀ xs : List α, PyData.canLayAll0 (xs.map f) = true ∧ PyData.depthAll (xs.map f) ≤ k
  | [] => ⟨by simp [PyData.canLayAll0], by simp [PyData.depthAll]⟩
  | x :: xs => by
    obtain ⟨h1, h2⟩ := shaped_map h xs
    rw [List.map_cons]
    refine ⟨by rw [PyData.canLayAll0, (h x).1, h1]; rfl, ?_⟩
    rw [PyData.depthAll]
    exact Nat.max_le.mpr ⟨(h x).2, h2⟩
theorem shaped_of {d : PyData} (h1 : d.canLay0 = true) (h2 : d.depth ≤ 64) : SeqAt.shaped d = true := by
  unfold SeqAt.shaped
  rw [h1, decide_eq_true h2]
  rfl
theorem tup_shape {xs : List PyData} {k : Nat} (h : PyData.canLayAll0 xs = true ∧ PyData.depthAll xs ≤ k) : (PyData.tuple xs).canLay0 = true ∧ (PyData.tuple xs).depth ≤ k + 1 := ⟨by rw [PyData.canLay0]; exact h.1, by rw [PyData.depth]; exact Nat.succ_le_succ h.2⟩
theorem lst_shape {xs : List PyData} {k : Nat} (h : PyData.canLayAll0 xs = true ∧ PyData.depthAll xs ≤ k) : (PyData.list xs).canLay0 = true ∧ (PyData.list xs).depth ≤ k + 1 := ⟨by rw [PyData.canLay0]; exact h.1, by rw [PyData.depth]; exact Nat.succ_le_succ h.2⟩
end DM

/-! len and repr of an instance, == of an instance with other data, in and not in of nested data. -/
namespace DM
open PySem PySem.Spec PyProof.Rows L2
section
variable {X : Cx} {C f : Addr} {k : Nat} {sp : Sp}
def rOLen (C : Addr) (sp : Sp) : List V → Hp → VK → Prop := fun xs H Q => ∃ a dx fs, xs = [V.ref a] ∧ H a = some (.ins C dx fs) ∧ sp [.ref a] H (fun v H1 => ∃ i, v = .int i ∧ 0 ≤ i ∧ i < 2 ^ 63 ∧ Q (.int i) H1) E0
theorem call_ownLen (M : Meth X.K C "__len__" f) (F : FnR X.prog X.w X.K X.mg X.base (L2N.CX X.prog X.w) k f sp) (hr : Room (k + 1) X.A) : CallR X (.builtin "len") (rOLen C sp) := by
  rintro pins s σ H _ us Q I r ⟨a, dx, fs, rfl, ha, q⟩
  obtain ⟨u, rfl, ru⟩ := r.one
  cases ru
  obtain ⟨_, J⟩ := inst_of I ha
  obtain ⟨m, fr⟩ := I.fr
  refine PySem.W.len_K fr I.ok.mod.kin J M.at_ M.fn (wpAny_mono (run_in (us := [.ref a]) (vs := [.ref a]) F hr.in1 I.env0.in1 I (.cons rfl .nil) q) (fun w s' z => ?_) fun _ _ e => e)
  obtain ⟨_, H', I', rz, i, rfl, b0, b1, qz⟩ := z
  obtain ⟨t, rfl⟩ := (show ∃ t, w = Value.int i t from rz)
  exact ⟨⟨b0, b1⟩, .int i, H', I'.tok _, ⟨_, rfl⟩, qz⟩
def rORepr (C : Addr) (sp : Sp) : List V → Hp → VK → Prop := fun xs H Q => ∃ a dx fs, xs = [V.ref a] ∧ H a = some (.ins C dx fs) ∧ sp [.ref a] H (fun v H1 => ∃ z, v = .str z ∧ Q (.str z) H1) E0
theorem call_ownRepr (M : Meth X.K C "__repr__" f) (F : FnR X.prog X.w X.K X.mg X.base (L2N.CX X.prog X.w) k f sp) (hr : Room (k + 1) X.A) : CallR X (.builtin "repr") (rORepr C sp) := by
  rintro pins s σ H _ us Q I r ⟨a, dx, fs, rfl, ha, q⟩
  obtain ⟨u, rfl, ru⟩ := r.one
  cases ru
  obtain ⟨_, J⟩ := inst_of I ha
  obtain ⟨m, fr⟩ := I.fr
  refine PySem.W.repr_K hr.in1.units0 fr I.ok.mod.kin J M.at_ M.fn (wpAny_mono (run_in (us := [.ref a]) (vs := [.ref a]) F hr.in1 I.env0.in1 I (.cons rfl .nil) q) (fun w s' z => ?_) fun _ _ e => e)
  obtain ⟨_, H', I', rz, y, rfl, qz⟩ := z
  obtain ⟨t, rfl⟩ := (show ∃ t, w = Value.str y t from rz)
  exact ⟨.str y, H', I', ⟨_, rfl⟩, qz⟩
/-- x == y, y of a built-in type -/
def rOBp (K : PySem.W.Frag) (C : Addr) (sp : Sp) : R2 := fun x y H Q => ∃ a dx fs t, x = .ref a ∧ H a = some (.ins C dx fs) ∧ TyX K H y (.type t) ∧ PySem.W.notFirst K C (.type t) = true ∧ sp [x, y] H Q E0
theorem op_ownEqP (M : Meth X.K C "__eq__" f) (F : FnR X.prog X.w X.K X.mg X.base (L2N.CX X.prog X.w) k f sp) (hr : Room k X.A) : OpR X (compareOp .Eq) (rOBp X.K C sp) := by
  rintro pins s σ H _ y v u Q I rx ry ⟨a, dx, fs, t, rfl, ha, ty, nf, q⟩
  cases rx
  obtain ⟨_, J⟩ := inst_of I ha
  obtain ⟨P, Z, p, _⟩ := kit_of I ry ty
  obtain ⟨m, fr⟩ := I.fr
  exact PySem.W.cmp_K (op := .Eq) (tb := .type t) hr.units0 fr I.ok.mod.kin J (Z.ty _ _ I.kIn p) nf M.at_ M.fn (wpAny_mono (run_in (us := [.ref a, u]) (vs := [.ref a, y]) F hr I.env0 I (.cons rfl (.cons ry .nil)) q) (fun w s' ⟨z, H', I', rz, qz⟩ => SlX.cmpback rz ⟨z, H', I', rz, qz⟩) fun _ _ e => e)
end
theorem notFirst_plain {K : PySem.W.Frag} {C : Addr} {d : D} (h : d.plain = true) : PySem.W.notFirst K C (.type (tyD d)) = true := by
  have e1 : fastBuiltinMro "NoneType" = some [.type "NoneType", .type "object"] := by decide +kernel
  have e2 : fastBuiltinMro "bool" = some [.type "bool", .type "int", .type "object"] := by decide +kernel
  have e3 : fastBuiltinMro "int" = some [.type "int", .type "object"] := by decide +kernel
  have e4 : fastBuiltinMro "str" = some [.type "str", .type "object"] := by decide +kernel
  have e5 : fastBuiltinMro "list" = some [.type "list", .type "object"] := by decide +kernel
  have e6 : fastBuiltinMro "tuple" = some [.type "tuple", .type "object"] := by decide +kernel
  have go : ∀ (T : String) (l : List Value), fastBuiltinMro T = some l → l.contains (.ref C) = false → PySem.W.notFirst K C (.type T) = true := fun T l e hl => by
    have s : PySem.W.subIn K (.type T) (.ref C) = some false := by
      show (fastBuiltinMro T).map (·.contains (.ref C)) = some false
      rw [e, Option.map_some, hl]
    unfold PySem.W.notFirst
    rw [s]
    exact Bool.or_true _
  cases d with
  | non => exact go _ _ e1 (by simp)
  | bl b => exact go _ _ e2 (by simp)
  | int i => exact go _ _ e3 (by simp)
  | str z => exact go _ _ e4 (by simp)
  | lst ds => exact go _ _ e5 (by simp)
  | tup ds => exact go _ _ e6 (by simp)
  | _ => cases h

/-! ### over data -/
def lenD : Rs D → Rs D
  | .ok (.int i) m => if 0 ≤ i ∧ i < 2 ^ 63 then .ok (.int i) m else .bad
  | _ => .bad
def strD : Rs D → Rs D
  | .ok (.str z) m => .ok (.str z) m
  | _ => .bad
/-- len(x), repr(x) of an instance: what its method gives, checked by chk -/
def fOw1 (chk : Rs D → Rs D) (c : Str) (F : Sls → Mir → Rs D) (g : Fa) : Fe := fun δ m => (g δ m).bind fun xs m1 => match xs with
  | [x] => if isC c (view m1 x) = true then chk (F [.dat x] m1) else .bad
  | _ => .bad
section
variable {G : Gx} {E : XKS} {σ : L2.St} {H : Hp} {Q : VK} {c : Str} {F : Sls → Mir → Rs D} {g : Fa}
theorem lift_ow1 {chk : Rs D → Rs D} {P : V → VK → Hp → Prop} (hx : ∀ x m, chk (.exc x m) = .bad) (hb : chk .bad = .bad)
    (hk : ∀ (d : D) (m : Mir) (π : Wv) (m0 : Mir) (H1 : Hp), Post G (E σ) π m0 H1 Q (chk (.ok d m)) → ∀ π2 v H2, Go G π m0 H1 π2 m H2 → Rep (G.at π2) (hid (lv π2 m) H2) d v → P v Q H2) (h : tD G E (fOw1 chk c F g) σ H Q) :
    tDA G E g σ H fun xs H1 => ∃ a dx fs, xs = [V.ref a] ∧ H1 a = some (.ins (G.cn c) dx fs) ∧ spD G 1 F [.ref a] H1 (fun v H2 => P v Q H2) E0 := by
  obtain ⟨π, δ, m, a, p⟩ := h
  refine ⟨π, δ, m, a, ?_⟩
  unfold fOw1 at p
  cases hg : g δ m with
  | bad => rw [hg] at p; exact p
  | exc x m1 => rw [hg] at p; exact p
  | ok xs m1 =>
    rw [hg] at p
    intro π1 vs H1 s1 rv
    simp only [Rs.bind] at p
    match xs, p, rv with
    | [], p, rv => exact False.elim p
    | _ :: _ :: _, p, rv => exact False.elim p
    | [x], p, rv =>
      obtain ⟨v, r', rfl, rx, rfl⟩ := rv
      by_cases hc : isC c (view m1 x) = true
      · simp only [hc, if_true] at p
        obtain ⟨q, dx, fs, rfl, e1⟩ := isC_view s1.ok rx hc
        refine ⟨q, dx, fs, rfl, e1, rfl, π1, [.dat x], m1, (at_dats (ds := [x]) (vs := [.ref q]) (a.step s1) ⟨_, _, rfl, rx, rfl⟩).j0, ?_⟩
        refine Post.j0 ?_
        cases hF : F [.dat x] m1 with
        | bad => rw [hF, hb] at p; exact False.elim p
        | exc y m2 => rw [hF, hx] at p; exact False.elim p
        | ok d m2 =>
          rw [hF] at p
          exact fun π2 v H2 s2 r => hk d m2 π m H p π2 v H2 (s1.trans s2) r
      · simp only [hc, if_false] at p; exact False.elim p
end
section
variable {X : Cx} {cn : Cn} {E : XKS} {c : Str} {k : Nat} {F : Sls → Mir → Rs DM.D} {e : Expr} {g : Fa} {x : Str} {p pos : Pos}
theorem de_ownLen {ps : List Str} (D : Md X.prog X.w X.K X.mg X.base (cn c) "__len__" ps k (spD (gx X.K cn) 1 F)) (hr : Room (k + 1) X.A) (hg : Gl X "len") (hm : X.mg "len" = none) (hv : bootBuiltins "len" = some (.builtin "len")) (ha : DA X cn E [e] g)
    (hs : starEach [e] X.env = (false, eval e X.env) :: starEach [] X.env := by rfl) (hpl : (backTo pos (starEach [] X.env)).any (·.1) = false := by rfl) : DE X cn E (.Call (.Name "len" p) [e] [] pos) (fOw1 lenD c F g) := by
  obtain ⟨fa, fd, M, bi, Fo⟩ := D.ex
  refine PE.imp (pe_callB (call_ownLen M (Fo.raw bi .nil) hr) hg hm hv ha (by decide) (by decide) hs hpl) fun σ H Q h => ?_
  have := lift_ow1 (P := fun v Q H1 => ∃ i, v = .int i ∧ 0 ≤ i ∧ i < 2 ^ 63 ∧ Q (.int i) H1) (fun _ _ => rfl) rfl (fun d m π m0 H1 p π2 v H2 s r => by
    cases d with
    | int i =>
      by_cases b : 0 ≤ i ∧ i < 2 ^ 63
      · have e : lenD (.ok (.int i) m) = .ok (.int i) m := if_pos b
        rw [e] at p
        exact ⟨i, r, b.1, b.2, p π2 (.int i) H2 s rfl⟩
      · have e : lenD (.ok (.int i) m) = .bad := if_neg b
        rw [e] at p
        exact False.elim p
    | _ => exact False.elim p) h
  exact this
theorem de_ownRepr {ps : List Str} (D : Md X.prog X.w X.K X.mg X.base (cn c) "__repr__" ps k (spD (gx X.K cn) 1 F)) (hr : Room (k + 1) X.A) (hg : Gl X "repr") (hm : X.mg "repr" = none) (hv : bootBuiltins "repr" = some (.builtin "repr")) (ha : DA X cn E [e] g)
    (hs : starEach [e] X.env = (false, eval e X.env) :: starEach [] X.env := by rfl) (hpl : (backTo pos (starEach [] X.env)).any (·.1) = false := by rfl) : DE X cn E (.Call (.Name "repr" p) [e] [] pos) (fOw1 strD c F g) := by
  obtain ⟨fa, fd, M, bi, Fo⟩ := D.ex
  refine PE.imp (pe_callB (call_ownRepr M (Fo.raw bi .nil) hr) hg hm hv ha (by decide) (by decide) hs hpl) fun σ H Q h => ?_
  have := lift_ow1 (P := fun v Q H1 => ∃ z, v = .str z ∧ Q (.str z) H1) (fun _ _ => rfl) rfl (fun d m π m0 H1 p π2 v H2 s r => by
    cases d with
    | str z =>
      obtain ⟨rfl, hz⟩ := r
      exact ⟨z, rfl, p π2 (.str z) H2 s ⟨rfl, hz⟩⟩
    | _ => exact False.elim p) h
  exact this
end
end DM

/-! super().__init__(text), the first statement of an own error's __init__. -/
namespace DM
open PySem PySem.Spec PyProof.Rows L2

/-- what the written part says of the class at C whose __init__ is the function at f, its code object cda, its cell cc -/
structure SupC (P : Program) (K : PySem.W.Frag) (mg : Str → Option Value) (f cda cc C : Addr) (fd : FuncData) : Prop where
  fn : ∃ oc od osl, K.lookup f = some ⟨oc, od, .func fd, osl⟩
  par : ∃ ar, (fd.params.posonlyargs ++ fd.params.args).head? = some ar ∧ ar.arg = ("self" : Str)
  code : ∃ (c : Value) (d : Option Addr) (vs : Array Value) (sl : Array (Option Value)) (file : Str) (tf : Tok), K.lookup cda = some ⟨c, d, .fields vs, sl⟩ ∧ vs[2]? = some (.str file tf) ∧ ((P.main.file : Str) == file) = true
  cell : ∃ c d sl, K.lookup cc = some ⟨c, d, .cell (some (.ref C)), sl⟩
  own : PySem.W.mroIn K C (.ref C) = some true
  none_ : mg "super" = none
  top : (P.main.scope.names.lookup ("super" : Str)).isSome = false
  opq : PySem.W.nsIn K cStatics "thirdparty.any" = some none
  up : PySem.W.ks_superIn K C C "__init__" = some (some (.builtin "ValueError.__init__"))
  ve : PySem.W.subIn K (.ref C) (.type "ValueError") = some true
  ox : OexC K C

section
variable {X : Cx} {pins : List (Addr × Obj)} {σ : L2.St} {H : Hp} {s : Shared} {f cda cc C a : Addr} {fd : FuncData} {E : Value → Shared → Prop}
/-- super(), bound to the object at a -/
theorem sup_node {body : List Stmt} {p0 p1 : Pos} {whole : Sem Value} {Q : Value → Shared → Prop} (T : SupC X.prog X.K X.mg f cda cc C fd) (I : Inv X pins σ H s) (ea : H a = some (exo a C none))
    (hg : Gl X "super") (hk : X.env.kindOf "__class__" = some .free) (hf : X.env.func = some f) (hc : X.env.code = .ref cda) (hcl : X.env.cells.lookup ("__class__" : Str) = some cc)
    (hN : X.N[0]? = some (Str.ofString "self")) (hv : X.env.kindOf "self" = some .local) (hσ : σ[0]? = some (some (.ref a)))
    (h : ∀ so h', (∀ b o, s.heap.get? b = some o → h'.get? b = some o) → h'.get? so = some (PySem.W.ks_superObj C a C) → Q (.ref so) { s with heap := h' }) :
    _root_.PySem.wpAt (model X.prog X.w) X.A (.func body X.env) (attributeBase (.Call (.Name "super" p0) [] [] p1) "__init__" X.env whole) Q E s := by
  obtain ⟨_, _, _, lf⟩ := T.fn
  obtain ⟨ar, h1, h2⟩ := T.par
  obtain ⟨_, _, vs, _, file, tf, lc, l2, l3⟩ := T.code
  obtain ⟨_, _, _, lcell⟩ := T.cell
  obtain ⟨nm, q, N, bs, bm, sn, sub, ab, col, dd, k0, k1, k2, k3, k5, hC, hbm⟩ := T.ox.cls
  obtain ⟨t1, hx⟩ := exo_at I.hok ea
  obtain ⟨mb, b1, b2⟩ := I.ok.mod.blt
  have kin := I.kIn
  have hC' := kin _ _ hC
  obtain ⟨m, hn, hl⟩ := I.loc
  obtain ⟨u, ru, lu⟩ := hl 0 _ _ hN hσ (.inl hv)
  obtain rfl : u = Value.ref a := ru
  have hm : m "self" = some (.ref a) := by
    rcases lu with ⟨_, z⟩ | ⟨z, _⟩
    · exact z
    · rw [show X.env.kindOf (Str.ofString "self") = some .local from hv] at z
      rcases z with z | z <;> cases z
  have hsup : bootBuiltins "super" = some (.type "super") := by first | boot_by_name | rfl | kernel_rfl
  refine ks_wpAt_super_base hg hk rfl hf (kin _ _ lf) rfl h1 hc (kin _ _ lc) rfl l2 l3 T.top ?_
  refine PySem.W.ks_loadName_global I.ok.kind hg (Calls.loadGlobal_builtin (by rw [I.ok.glob]; exact I.ok.mod.glob.keeps I.bk) T.none_ (by rw [I.ok.blt]; exact b1.keeps I.bk) ((b2 _ (by decide)).trans hsup) ⟨rfl, ?_⟩)
  refine wpAny_loadName_free I.ok.kind hk hcl ⟨_, kin _ _ lcell, rfl⟩ ?_
  rw [h2]
  refine wpAny_loadName_local I.ok.kind hv hn hm ?_
  obtain ⟨hp, g, d, t, os⟩ := s
  refine ks_wpAny_isType_cls hC' rfl ⟨rfl, ?_⟩
  exact ks_wpAny_call_super hC' rfl hx rfl (fun c z => by cases z) (PySem.W.looks_mroIn kin T.own) fun h' e k => h _ h' k e
/-- the bound __init__ of ValueError, called: the object's args are laid anew, nothing else -/
theorem mw_call {A : Around} {hp : Heap} {g : Array GenState} {d : Drawn} {t : Nat} {os : OsState} {u t0 : Addr} {us : List Value} {Q : Value → Shared → Prop} (T : OexC X.K C) (kin : X.K.In hp) (hx : hp.get? a = some (PySem.W.excObj C t0 none .none)) (hu : hp.get? u = some (PySem.W.kxs_mw "ValueError.__init__" a)) (hl : us.length ≤ sizeLine)
    (h : ∀ h' t1, (∀ b o, b ≠ a → hp.get? b = some o → h'.get? b = some o) → h'.get? a = some (PySem.W.excObj C t1 none .none) → Q .none ⟨h', g, d, t, os⟩) : wpAny (model X.prog X.w) A (call (.ref u) us) Q E ⟨hp, g, d, t, os⟩ := by
  obtain ⟨nm, q, N, bs, bm, sn, sub, ab, col, dd, k0, k1, k2, k3, k5, hC, hbm⟩ := T.cls
  have chk : ∀ {M : Model} {A : Around} {E : Value → Shared → Prop} {R : Unit → Shared → Prop}, R () ⟨hp, g, d, t, os⟩ → wpAny M A (checkBoundCall "ValueError.__init__" ⟨.ref a :: us, []⟩) R E ⟨hp, g, d, t, os⟩ :=
    fun z => PySem.W.check_bound_init F.excBase_ValueError.toExcCallFacts (kin _ _ hC) hx rfl z
  refine wpAny_call (codeAny_of_tree ?_)
  show wpAny _ _ (callAny (.ref u) ⟨us, []⟩) _ _ _
  unfold callAny
  refine wpAny_bind (wpAny_load hu ?_)
  show wpAny _ _ (checkBoundCall "ValueError.__init__" ⟨.ref a :: us, []⟩ >>= fun _ => again (.builtin "ValueError.__init__" ⟨.ref a :: us, []⟩)) _ _ _
  refine wpAny_bind (chk (wpAny_pure ?_))
  refine ⟨plainId_quiet F.excBase_ValueError.init.plain _, codeAny_builtin F.excBase_ValueError.initEntry ?_⟩
  exact PySem.W.exc_init_tree hx hl fun h' k e _ => h h' _ k e
/-- super().__init__('text'): nothing that is told changes -/
theorem sup_init {pl : Sem Bool} {body : List Stmt} {txt : Str} {j : Nat} {p0 p1 p2 p3 p4 : Pos} (T : SupC X.prog X.K X.mg f cda cc C fd) (I : Inv X pins σ H s) (ea : H a = some (exo a C none))
    (hg : Gl X "super") (hk : X.env.kindOf "__class__" = some .free) (hf : X.env.func = some f) (hc : X.env.code = .ref cda) (hcl : X.env.cells.lookup ("__class__" : Str) = some cc)
    (hN : X.N[0]? = some (Str.ofString "self")) (hv : X.env.kindOf "self" = some .local) (hσ : σ[0]? = some (some (.ref a)))
    (he : eval (.Call (.Attribute (.Call (.Name "super" p0) [] [] p1) "__init__" p2) [.Constant (.str txt) j p3] [] p4) X.env = (do
      let o ← attributeBase (.Call (.Name "super" p0) [] [] p1) "__init__" X.env (eval (.Call (.Name "super" p0) [] [] p1) X.env)
      standAt p2.atName
      let (m, first) ← holding [o] (getMethod o "__init__" pl)
      callWith p4 m first (backTo p4 (starEach [.Constant (.str txt) j p3] X.env)) []))
    (hs : starEach [.Constant (.str txt) j p3] X.env = (false, eval (.Constant (.str txt) j p3) X.env) :: starEach [] X.env := by rfl) (hpl : (backTo p4 (starEach [] X.env)).any (·.1) = false := by rfl) :
    _root_.PySem.wpAt (model X.prog X.w) X.A (.func body X.env) (eval (.Call (.Attribute (.Call (.Name "super" p0) [] [] p1) "__init__" p2) [.Constant (.str txt) j p3] [] p4) X.env) (fun _ s' => Inv X pins σ H s') X.xe s := by
  refine ks_wpAt_MethodCall (sup_node T I ea hg hk hf hc hcl hN hv hσ fun so h1 k1 e1 => ?_) he
  have I1 : Inv X pins σ H { s with heap := h1 } := I.kept (t' := s.toks) k1
  obtain ⟨hp, g, d, t, os⟩ := s
  obtain ⟨nm, q, N, bs, bm, sn, sub, ab, col, dd, k0, k2, k3, k4, k5, hC, hbm⟩ := T.ox.cls
  have hcd : PySem.W.clsIn X.K C = some { name := nm, bases := bs, mro := .ref C :: bm, ns := N, qualname := q, hasDict := true, slotNames := sn, subclasses := sub, abstract := ab, collection := col, hasDel := false } := by unfold PySem.W.clsIn; rw [hC] <;> rfl
  obtain ⟨t1, hx⟩ := exo_at I1.hok ea
  have J : PySem.W.InstAt h1 a (PySem.W.excObj C t1 none .none) C none := ⟨hx, rfl, rfl, trivial⟩
  have up := T.up
  unfold PySem.W.ks_superIn at up
  rw [hcd] at up
  refine PySem.W.kxs_getMethod PySem.W.kxs_ValueError e1 (PySem.W.looks_opaque I1.kIn T.opq) ((PySem.W.looks_clsIn I1.kIn hcd).andThen .now) rfl I1.kIn up (J.type.andThen (PySem.W.looks_subIn I1.kIn T.ve)) (PySem.W.ks_ne I1.kIn J hcd) rfl ?_
  have I2 : Inv X pins σ H ⟨h1.push (PySem.W.kxs_mw "ValueError.__init__" a), g, d, t + 1, os⟩ := I1.kept (t' := t + 1) fun b u e => Heap.get?_push_of_some _ e
  have hu : (h1.push (PySem.W.kxs_mw "ValueError.__init__" a)).get? h1.objs.size = some (PySem.W.kxs_mw "ValueError.__init__" a) := Heap.get?_push_size _ rfl
  have fresh : ∀ {b : Addr} {o : Obj}, h1.get? b = some o → h1.objs.size ≠ b := fun {b o} z e => absurd (Heap.lt_size z) (by rw [e]; exact Nat.lt_irrefl _)
  have news : News h1 (h1.objs.size + 1) (h1.push (PySem.W.kxs_mw "ValueError.__init__" a)) [(h1.objs.size, PySem.W.kxs_mw "ValueError.__init__" a)] := fun p hp => by
    cases List.mem_singleton.mp hp
    refine ⟨hu, fun z => absurd z (by show h1.objs.size ≠ h1.objs.size + 1; omega), ?_⟩
    cases z : h1.get? h1.objs.size with
    | none => rfl
    | some o => exact absurd rfl (fresh z)
  obtain ⟨m0, ⟨oL, _, _, hL, _⟩, _⟩ := I1.loc
  have I3 : Inv X ((h1.objs.size, PySem.W.kxs_mw "ValueError.__init__" a) :: pins) σ H ⟨h1.push (PySem.W.kxs_mw "ValueError.__init__" a), g, d, t + 1, os⟩ := I2.pins_of fun p hp => by
    rcases List.mem_cons.mp hp with rfl | hp
    · refine ⟨hu, I1.hok.fresh (Nat.le_refl _), fresh hL, fun z => ?_, fun v z => by cases z⟩
      obtain ⟨_, o, ho, _⟩ := I1.ok.funs.mem z
      have q1 := Heap.lt_size ho
      have q2 := I1.ok.above
      have q3 : X.env.locals < h1.objs.size := Heap.lt_size hL
      have q4 : h1.objs.size < X.s_0.heap.objs.size := q1
      exact absurd q3 (Nat.not_lt_of_le (Nat.le_of_lt (Nat.lt_of_lt_of_le q4 q2)))
    · exact I2.pin p (List.mem_append_right _ hp)
  refine PySem.W.kxs_callWith1 (i := "ValueError.__init__") (x := a) news (List.mem_singleton.mpr rfl) ?_ hs hpl
  have pa : PA X [.Constant (.str txt) j p3] (tCons (tC (.str txt)) tNil) := pa_cons pe_str pa_nil hs
  refine wpAny_mono (pa.run p4 _ _ σ H (fun vs H1 => vs = [V.str txt] ∧ H1 = H) I3 ⟨rfl, rfl⟩) (fun us s3 hh => ?_) fun _ _ z => z
  obtain ⟨vs, H1, I4, r4, rfl, rfl⟩ := hh
  have hu4 := (I4.pin (h1.objs.size, PySem.W.kxs_mw "ValueError.__init__" a) (List.mem_append_right _ List.mem_cons_self)).1
  refine ⟨hu4, ?_⟩
  obtain ⟨t4, hx4⟩ := exo_at I4.hok ea
  have hl : us.length ≤ sizeLine := by
    rw [← Paired.length r4, sizeLine_eq]
    show 1 ≤ 16777216
    decide
  obtain ⟨hp4, g4, d4, tk4, os4⟩ := s3
  have I5 : Inv X pins σ H1 ⟨hp4, g4, d4, tk4, os4⟩ := I4.pins_of fun p hp => I4.pin p (List.mem_append_right _ (List.mem_cons_of_mem _ hp))
  refine mw_call T.ox I5.kIn hx4 hu4 hl fun h' t' k e => ?_
  have J := I5.write (t' := tk4) (x := a) (e := a) (o := exo a C none) (by rw [ea]; exact True.intro) (.inl rfl) k ⟨_, e⟩ (exo_ok e)
  have same : upd H1 a (exo a C none) = H1 := funext fun b => by
    by_cases hb : b = a
    · rw [hb, upd_same, ea]
    · exact upd_ne hb
  rw [same] at J
  exact J
end
end DM

/-! An own error's __init__: super().__init__(text), then the rest of its body. -/
namespace DM
open PySem PySem.Spec PyProof.Rows L2

/-- the words of a function that looks at its class through a cell -/
abbrev Nf (name qual : Str) (params : Arguments) (body : List Stmt) (scope : Scope) (cc cda : Addr) : NdefX.NF := ⟨name, qual, params, body, scope, [("__class__", cc)], cda⟩
section
variable {P : Program} {w : World} {K : PySem.W.Frag} {mg : Str → Option Value} {base : Heap} {CX : CXT}
theorem cells_one {A : Around} {outer : List Env} {s : Shared} {H : Hp} {cc D : Addr} {c : Value} {d : Option Addr} {sl : Array (Option Value)} (e : Env0 P w K mg base A outer s H) (h : K.lookup cc = some ⟨c, d, .cell (some (.ref D)), sl⟩) :
    NdefX.CellsAt [(("__class__" : Str), cc)] ["__class__"] [none] s.heap H := by
  obtain ⟨h1, h2⟩ := e.bs cc _ (e.mod.kin _ _ h)
  have one : ∀ {y : Str} {b : Addr}, [(("__class__" : Str), cc)].lookup y = some b → y = "__class__" ∧ b = cc := fun {y b} z => by
    simp only [List.lookup] at z
    split at z
    · rename_i q
      exact ⟨by simpa using q, (Option.some.inj z).symm⟩
    · cases z
  refine ⟨rfl, fun y b z => ?_, fun x y b z1 z2 => (one z1).1.trans (one z2).1.symm, fun i y z => ⟨cc, ?_, fun v z2 => ?_⟩⟩
  · rw [(one z).2]
    exact ⟨h2, _, _, h1, rfl⟩
  · match i with
    | 0 =>
      obtain rfl := Option.some.inj z
      rfl
    | i + 1 => simp at z
  · match i with
    | 0 => simp at z2
    | i + 1 => simp at z2
theorem ini_fn {N ps : List Str} {name qual : Str} {params : Arguments} {rest : List Stmt} {scope : Scope} {f cc cda C : Addr} {fd : FuncData} {k : Nat} {sp : Sp} {txt : Str} {j : Nat} {p0 p1 p2 p3 p4 p5 : Pos} {st : Stmt}
    (hst : st = .Expr (.Call (.Attribute (.Call (.Name "super" p0) [] [] p1) "__init__" p2) [.Constant (.str txt) j p3] [] p4) p5)
    (hfd : ∃ doc pm ctv, fd = (Nf name qual params (st :: rest) scope cc cda).fd doc pm ctv) (T : SupC P K mg f cda cc C fd) (hcd : PySem.W.codeIn K (.ref cda) qual = true) (S : NdefX.NScope N ps ["__class__"] scope)
    (hN : N[0]? = some (Str.ofString "self")) (hself : scope.names.lookup ("self" : Str) = some .local) (hg : scope.names.lookup ("super" : Str) = some .globalImplicit) (hps : ∀ y ∈ ps, scope.names.lookup y = some .local)
    (hin : ∀ L, interactive (NdefX.envF (Nf name qual params (st :: rest) scope cc cda) f L) = false) {pl : Sem Bool}
    (he : ∀ L, let env := NdefX.envF (Nf name qual params (st :: rest) scope cc cda) f L
      eval (.Call (.Attribute (.Call (.Name "super" p0) [] [] p1) "__init__" p2) [.Constant (.str txt) j p3] [] p4) env = (do
      let o ← attributeBase (.Call (.Name "super" p0) [] [] p1) "__init__" env (eval (.Call (.Name "super" p0) [] [] p1) env)
      standAt p2.atName
      let (m, first) ← holding [o] (getMethod o "__init__" pl)
      callWith p4 m first (backTo p4 (starEach [.Constant (.str txt) j p3] env)) []))
    (hs : ∀ L, let env := NdefX.envF (Nf name qual params (st :: rest) scope cc cda) f L
      starEach [.Constant (.str txt) j p3] env = (false, eval (.Constant (.str txt) j p3) env) :: starEach [] env)
    (hpl : ∀ L, (backTo p4 (starEach [] (NdefX.envF (Nf name qual params (st :: rest) scope cc cda) f L))).any (·.1) = false)
    (len : ∀ vs H Q E, sp vs H Q E → vs.length = ps.length)
    (hb : ∀ (A : Around) (outer : List Env) (s : Shared) (H : Hp) (vs : List V) (Q : VK) (E : XK), sp vs H Q E → ∃ a ys, vs = .ref a :: ys ∧ H a = some (exo a C none) ∧
      ∃ t, PSs (NdefX.ncx CX P w K mg base N (Nf name qual params (st :: rest) scope cc cda) f A outer s H E) rest t ∧ t { nx := fun _ H' => Q .non H', rt := Q } (NdefX.startF N vs [none]) H) :
    FnOk P w K mg base CX (k + 1) f fd ps sp := by
  obtain ⟨doc, pm, ctv, rfl⟩ := hfd
  refine ⟨len, fun A outer s H args us vs Q E hr e0 hbd r hsp => ?_⟩
  obtain ⟨oc, od, osl, lk⟩ := T.fn
  obtain ⟨_, _, _, lcell⟩ := T.cell
  have KX : K.In s.heap := e0.mod.kin.keeps fun b o e => (e0.bs b o e).1
  have lim : s.heap.NoLimit := e0.mod.nolimit.keeps fun b o e => (e0.bs b o e).1
  obtain ⟨a, ys, rfl, ea, t, ht, hq⟩ := hb A outer s H vs Q E hsp
  have hl := len _ _ _ _ hsp
  refine ks_codeAny_call_defAt hr.depth (KX _ _ lk) rfl lim (PySem.W.codeRec_of KX hcd) rfl hbd S.nocell (fun y hy => hps y.1 (List.of_mem_zip hy).1) (fun h₁ hns kp => ?_) S.co S.gen S.kind
  have I := NdefX.inv_startN (CX := CX) (E := E) (f := f) (F := Nf name qual params (st :: rest) scope cc cda) (tk := s.toks + (ps.zip us).length) S hr.hd e0 hl r (cells_one e0 lcell) hns kp
  subst hst
  refine ks_wpAt_execs_cons (ks_wpAt_Expr_any (ks_wpAt_mono (sup_init T I ea hg (S.frk _ (by simp)) rfl rfl rfl hN hself rfl (he _) (hs _) (hpl _)) (fun _ s1 I1 => wpAt_of_wpAny ?_) fun _ _ z => z) (hi := hin _))
  refine wpAny_mono (ht.run [] s1 _ H _ I1 hq) (fun fl s2 h2 => ?_) fun _ _ z => z
  cases fl with
  | ret u =>
    obtain ⟨v, _, H2, I2, rv, q⟩ := h2
    exact ⟨v, H2, I2.os, I2.bare, I2.base, I2.hok, rv, q⟩
  | next =>
    obtain ⟨_, H2, I2, q⟩ := h2
    exact ⟨.non, H2, I2.os, I2.bare, I2.base, I2.hok, rfl, q⟩
  | brk => exact h2.choose_spec.choose_spec.2.elim
  | cont => exact h2.choose_spec.choose_spec.2.elim
end
end DM

/-! self.tag = 'text'; self.f = f in an own error's __init__. -/
namespace DM
open PySem PySem.Spec PyProof.Rows L2
/-! ### what such an __init__ makes: the tag, and a field or none -/
/-- the promise: the exception at a gets its dict -/
def spIni (n : Nat) (C : Addr) (fs : List V → List (Str × V)) : Sp := fun vs H Q _ => ∃ a ys, vs = .ref a :: ys ∧ ys.length = n ∧ H a = some (exo a C none) ∧ ∀ d H', H d = none → d ≠ a → H' a = some (exo a C (some d)) → H' d = some (exd d (fs ys)) → (∀ b, b ≠ a → b ≠ d → H' b = H b) → Q .non H'
section
variable {X : Cx} {C a : Addr} {tag fl : Str} {j : Nat} {p1 p2 p3 p4 p5 p6 p7 p8 : Pos}
/-- self.tag = 'text' -/
theorem ini_tag {ys : List V} {σ : L2.St} {H : Hp} {Q : VK} {E : XK} (T : OexC X.K C) (hno : PySem.W.findIn X.K (.ref C) "tag" = some none) (hN : X.N[0]? = some (Str.ofString "self")) (hv : Vis X.env.scope (Str.ofString "self")) (hσ : σ[0]? = some (some (.ref a)))
    (h : spIni ys.length C (fun _ => [(Str.ofString "tag", .str tag)]) (.ref a :: ys) H Q E) : ∃ t, PSs X [.Assign [.Attribute (.Name "self" p1) "tag" p2] (.Constant (.str tag) j p3) p4] t ∧ t { nx := fun _ H' => Q .non H', rt := Q } σ H := by
  obtain ⟨a', ys', e, hl, ha, k⟩ := h
  cases e
  refine ⟨_, pss_one (ps_ost (pe_var (i := 0) hN hv) pe_str), ?_⟩
  refine ⟨.ref a, hσ, a, C, rfl, T, hno, .inl ⟨ha, fun dx hd hda => ?_⟩⟩
  exact k dx _ hd hda (by rw [upd_same]) (by rw [upd_ne hda, upd_same]) (fun b h1 h2 => by rw [upd_ne h1, upd_ne h2])
/-- self.tag = 'text'; self.f = f -/
theorem ini_fld {y : V} {σ : L2.St} {H : Hp} {Q : VK} {E : XK} (T : OexC X.K C) (hno : PySem.W.findIn X.K (.ref C) "tag" = some none) (hnf : PySem.W.findIn X.K (.ref C) fl = some none) (hN : X.N[0]? = some (Str.ofString "self")) (hv : Vis X.env.scope (Str.ofString "self")) (hσ : σ[0]? = some (some (.ref a)))
    (hN1 : X.N[1]? = some fl) (hv1 : Vis X.env.scope fl) (hσ1 : σ[1]? = some (some y)) (hd1 : (fl == ("__debug__" : Str)) = false) (hc1 : (fl == ("__classdict__" : Str)) = false) (hsw : swapsWith (.Name fl p7) (some (.Attribute (.Name "self" p5) fl p6)) p8.line X.env = pure false)
    (h : spIni 1 C (fun ys => [(fl, ys.headD .non), (Str.ofString "tag", .str tag)]) [.ref a, y] H Q E) : ∃ t, PSs X [.Assign [.Attribute (.Name "self" p1) "tag" p2] (.Constant (.str tag) j p3) p4, .Assign [.Attribute (.Name "self" p5) fl p6] (.Name fl p7) p8] t ∧ t { nx := fun _ H' => Q .non H', rt := Q } σ H := by
  obtain ⟨a', ys', e, hl, ha, k⟩ := h
  cases e
  refine ⟨_, pss_cons (ps_ost (pe_var (i := 0) hN hv) pe_str) (pss_one (ps_ost (pe_var (i := 0) hN hv) (pe_var (i := 1) hN1 hv1 hd1 hc1) hsw)), ?_⟩
  refine ⟨.ref a, hσ, a, C, rfl, T, hno, .inl ⟨ha, fun dx hd hda => ?_⟩⟩
  refine ⟨y, hσ1, .ref a, hσ, a, C, rfl, T, hnf, .inr ⟨dx, [(Str.ofString "tag", .str tag)], by rw [upd_same], by rw [upd_ne hda, upd_same], by show 1 ≤ 900; decide, ?_⟩⟩
  exact k dx _ hd hda (by rw [upd_ne (Ne.symm hda), upd_same]) (by rw [upd_same]; rfl) (fun b h1 h2 => by rw [upd_ne h2, upd_ne h1, upd_ne h2])
end
end DM

/-! raise C() and raise C(e), C an own error. -/
namespace DM
open PySem PySem.Spec PyProof.Rows L2

/-- the parts of an own error's class that raise asks for -/
structure ErC (P : Program) (w : World) (K : PySem.W.Frag) (mg : Str → Option Value) (base : Heap) (x : Str) (C : Addr) (n k : Nat) (tag : Str) (fs : List V → List (Str × V)) : Prop where
  ex : ∃ (fI : Addr) (fd : FuncData) (ps : List Str), mg x = some (.ref C) ∧ OexC K C ∧ PySem.W.findIn K (.ref C) "__init__" = some (some (.ref fI)) ∧ PySem.W.typeIn K (.ref fI) = some (.type "function") ∧
    FnOk P w K mg base (L2N.CX P w) k fI fd ps (spIni n C fs) ∧ Binds K fd ps []
section
variable {X : Cx}
/-- C(): the new object stands alone above the heap, then its __init__ runs on it -/
theorem pmk_none {x tag : Str} {C : Addr} {k : Nat} {fs : List V → List (Str × V)} {p pos : Pos} (T : ErC X.prog X.w X.K X.mg X.base x C 0 k tag fs) (hr : Room (k + 1) X.A) (hx : Passes (L2N.CX X.prog X.w) X (fun _ _ _ => False)) (hg : Gl X x)
    (hdb : (x == ("__debug__" : Str)) = false := by decide) : L2N.PMk X (.Call (.Name x p) [] [] pos) (fun _ H Q => ∀ d, H d = none → Q (.ref C) (some d) (upd H d (.xd (fs [])))) := by
  obtain ⟨fI, fd, ps, hm, ox, hi, ht, Fo, hb⟩ := T.ex
  intro pins s σ H Q I h
  refine wpAny_Call_Name_kw (ld_glob I hg hm (PySem.W.callWith_K0 I.kIn ox.kC ?_) hdb)
  obtain ⟨nm, q, N, bs, bm, sn, sub, ab, col, dd, k0, k1, k2, k3, k5, hC, hbm⟩ := id ox.cls
  obtain ⟨hp, g, dr, tk, os⟩ := s
  have above : hp.objs.size ≤ hp.objs.size + 1 := Nat.le_succ _
  have new := I.hok.fresh above
  have up : ∀ b o, hp.get? b = some o → ((hp.push (PySem.W.kdv_tup [])).push (PySem.HandSPX.excO C hp.objs.size)).get? b = some o := fun b o z => Heap.get?_push_of_some _ (Heap.get?_push_of_some _ z)
  have I2 : Inv X pins σ (upd H (hp.objs.size + 1) (exo (hp.objs.size + 1) C none)) ⟨_, g, dr, tk, os⟩ := I.laid (t' := tk) up above (exo_ok (t1 := hp.objs.size) (by heap_get))
  have sp0 : spIni 0 C fs [.ref (hp.objs.size + 1)] (upd H (hp.objs.size + 1) (exo (hp.objs.size + 1) C none))
      (fun v H2 => v = .non ∧ ∃ d, H2 (hp.objs.size + 1) = some (exo (hp.objs.size + 1) C (some d)) ∧ H2 d = some (exd d (fs [])) ∧ H d = none ∧ Q (.ref C) (some d) (upd (del H2 (hp.objs.size + 1)) d (.xd (fs [])))) (fun _ _ _ => False) := by
    refine ⟨_, [], rfl, rfl, upd_same, fun d H' hd ne ha hd2 st => ⟨rfl, d, ha, hd2, ?_, ?_⟩⟩
    · rwa [upd_ne ne] at hd
    · rw [upd_ne ne] at hd
      have e : upd (del H' (hp.objs.size + 1)) d (.xd (fs [])) = upd H d (.xd (fs [])) := funext fun b => by
        by_cases h1 : b = d
        · rw [h1, upd_same, upd_same]
        · rw [upd_ne h1, upd_ne h1]
          by_cases h2 : b = hp.objs.size + 1
          · rw [h2, del_same, new]
          · rw [del_ne h2, st b h2 h1, upd_ne h2]
      rw [e]
      exact h d hd
  have len := Fo.len _ _ _ _ sp0
  have args : Vals [V.ref (hp.objs.size + 1)] ([Value.ref (hp.objs.size + 1)] ++ []) := Paired.cons rfl Paired.nil
  have run := Fo.run _ X.stack _ _ ⟨[.ref (hp.objs.size + 1)], []⟩ ([.ref (hp.objs.size + 1)] ++ []) _ _ _ (hr.make C [] []) (I2.env0.make C [] []) (hb _ [.ref (hp.objs.size + 1)] I2.kIn (show 1 = ps.length from len)) args sp0
  refine wpAny_call (PySem.HandSPX.call_own F.excBase_ValueError (fun Y => PySem.HandSPX.refsVE_contains Y bm hbm) (I.kIn _ _ hC) (PySem.W.looks_findIn I.kIn hi) (fun self => PySem.W.bind_fn I.kIn self ht) (Nat.zero_le _) (codeAny_mono run ?_))
  rintro (er | fl) s' z
  · exact hx pins σ _ _ er s' I2 z
  cases fl with
  | ret u =>
    obtain ⟨v, H2, os2, bare2, un2, hok2, rv, rfl, d, ea, ed, hd, q⟩ := z
    obtain ⟨h2, g2, d2, t2, os'⟩ := s'
    obtain ⟨t0, G, J, kG, ge, hoe, na⟩ := mk_end0 (d2 := d2) (t2 := t2) I above up un2 hok2 os2 bare2 ea ed hd
    exact ⟨rv, _, _, _, ⟨G, g2, d2, t2, os'⟩, _, .ref C, some d, rfl, J, kG, ge, hoe, ⟨rfl, rfl, fun vs z => by cases z; rfl⟩, rfl, rfl, na, rfl, bare2, raises_own ox.exC ox.tyC, q⟩
  | next => exact z.elim
  | brk => exact z.elim
  | cont => exact z.elim
/-- C(e): the same behind its argument -/
theorem pmk_one {e : Expr} {ta : TA} {x tag : Str} {C : Addr} {k : Nat} {fs : List V → List (Str × V)} {p pos : Pos} (T : ErC X.prog X.w X.K X.mg X.base x C 1 k tag fs) (hr : Room (k + 1) X.A) (hx : Passes (L2N.CX X.prog X.w) X (fun _ _ _ => False)) (hg : Gl X x) (ha : PA X [e] ta)
    (he : starEach [e] X.env = (false, eval e X.env) :: starEach [] X.env := by rfl) (hpl : (backTo pos (starEach [] X.env)).any (·.1) = false := by rfl) (hdb : (x == ("__debug__" : Str)) = false := by decide) : L2N.PMk X (.Call (.Name x p) [e] [] pos) (fun σ H Q => ta σ H fun vs H1 => ∃ y, vs = [y] ∧ ∀ d, H1 d = none → Q (.ref C) (some d) (upd H1 d (.xd (fs [y])))) := by
  obtain ⟨fI, fd, ps, hm, ox, hi, ht, Fo, hb⟩ := T.ex
  intro pins s σ H Q I h
  refine wpAny_Call_Name_kw (ld_glob I hg hm (PySem.W.callWith_K (h₀ := X.base) I.ok.mod.kin ox.kC (L2.thn (ha.run pos pins s σ H _ I h) fun us s1 told => ?_) he hpl) hdb)
  clear I h
  obtain ⟨vs, H, I, r1, y, rfl, h⟩ := told
  refine ⟨I.kIn, ?_⟩
  cases r1 with
  | @cons _ u _ us ru rn =>
  cases rn
  obtain ⟨nm, q, N, bs, bm, sn, sub, ab, col, dd, k0, k1, k2, k3, k5, hC, hbm⟩ := id ox.cls
  obtain ⟨hp, g, dr, tk, os⟩ := s1
  have above : hp.objs.size ≤ hp.objs.size + 1 := Nat.le_succ _
  have new := I.hok.fresh above
  have up : ∀ b o, hp.get? b = some o → ((hp.push (PySem.W.kdv_tup [u])).push (PySem.HandSPX.excO C hp.objs.size)).get? b = some o := fun b o z => Heap.get?_push_of_some _ (Heap.get?_push_of_some _ z)
  have I2 : Inv X pins σ (upd H (hp.objs.size + 1) (exo (hp.objs.size + 1) C none)) ⟨_, g, dr, tk, os⟩ := I.laid (t' := tk) up above (exo_ok (t1 := hp.objs.size) (by heap_get))
  have sp0 : spIni 1 C fs [.ref (hp.objs.size + 1), y] (upd H (hp.objs.size + 1) (exo (hp.objs.size + 1) C none))
      (fun v H2 => v = .non ∧ ∃ d, H2 (hp.objs.size + 1) = some (exo (hp.objs.size + 1) C (some d)) ∧ H2 d = some (exd d (fs [y])) ∧ H d = none ∧ Q (.ref C) (some d) (upd (del H2 (hp.objs.size + 1)) d (.xd (fs [y])))) (fun _ _ _ => False) := by
    refine ⟨_, [y], rfl, rfl, upd_same, fun d H' hd ne ha hd2 st => ⟨rfl, d, ha, hd2, ?_, ?_⟩⟩
    · rwa [upd_ne ne] at hd
    · rw [upd_ne ne] at hd
      have e : upd (del H' (hp.objs.size + 1)) d (.xd (fs [y])) = upd H d (.xd (fs [y])) := funext fun b => by
        by_cases h1 : b = d
        · rw [h1, upd_same, upd_same]
        · rw [upd_ne h1, upd_ne h1]
          by_cases h2 : b = hp.objs.size + 1
          · rw [h2, del_same, new]
          · rw [del_ne h2, st b h2 h1, upd_ne h2]
      rw [e]
      exact h d hd
  have len := Fo.len _ _ _ _ sp0
  have args : Vals [V.ref (hp.objs.size + 1), y] ([Value.ref (hp.objs.size + 1), u] ++ []) := Paired.cons rfl (Paired.cons ru Paired.nil)
  have run := Fo.run _ X.stack _ _ ⟨[.ref (hp.objs.size + 1), u], []⟩ ([.ref (hp.objs.size + 1), u] ++ []) _ _ _ (hr.make C [u] []) (I2.env0.make C [u] []) (hb _ [.ref (hp.objs.size + 1), u] I2.kIn (show 2 = ps.length from len)) args sp0
  refine wpAny_call (PySem.HandSPX.call_own F.excBase_ValueError (fun Y => PySem.HandSPX.refsVE_contains Y bm hbm) (I.kIn _ _ hC) (PySem.W.looks_findIn I.kIn hi) (fun self => PySem.W.bind_fn I.kIn self ht) (show 1 ≤ 16777216 by decide) (codeAny_mono run ?_))
  rintro (er | fl) s' z
  · exact hx pins σ _ _ er s' I2 z
  cases fl with
  | ret u =>
    obtain ⟨v, H2, os2, bare2, un2, hok2, rv, rfl, d, ea, ed, hd, q⟩ := z
    obtain ⟨h2, g2, d2, t2, os'⟩ := s'
    obtain ⟨t0, G, J, kG, ge, hoe, na⟩ := mk_end0 (d2 := d2) (t2 := t2) I above up un2 hok2 os2 bare2 ea ed hd
    exact ⟨rv, _, _, _, ⟨G, g2, d2, t2, os'⟩, _, .ref C, some d, rfl, J, kG, ge, hoe, ⟨rfl, rfl, fun vs z => by cases z; rfl⟩, rfl, rfl, na, rfl, bare2, raises_own ox.exC ox.tyC, q⟩
  | next => exact z.elim
  | brk => exact z.elim
  | cont => exact z.elim
end
end DM

/-! raise C(), raise C(e), over data. -/
namespace DM
open PySem PySem.Spec PyProof.Rows L2
abbrev fs0 (tag : Str) : List V → List (Str × V) := fun _ => [(Str.ofString "tag", .str tag)]
abbrev fs1 (tag fl : Str) : List V → List (Str × V) := fun ys => [(fl, ys.headD .non), (Str.ofString "tag", .str tag)]
def sRaise0 (c tag : Str) : Fs := fun δ m => if tag.length ≤ sizeLine then .exc ⟨c, [Str.ofString "tag"], [.str tag]⟩ δ m else .bad
def sRaise1 (c tag fl : Str) (g : Fa) : Fs := fun δ m => match g δ m with
  | .ok ds m1 => if ds.length = 1 ∧ tag.length ≤ sizeLine then .exc ⟨c, [fl, Str.ofString "tag"], ds ++ [.str tag]⟩ δ m1 else .bad
  | .exc x m1 => .exc x δ m1
  | .bad => .bad
section
variable {X : Cx} {cn : Cn} {E : XKS} {k : Nat} {c tag : Str} {p cpos pos : Pos}
theorem ds_raise0 (T : ErC X.prog X.w X.K X.mg X.base c (cn c) 0 k tag (fs0 tag)) (hr : Room (k + 1) X.A) (tk : L2N.Takes X (fun cls d σ H => E σ cls d H)) (hx : Passes (L2N.CX X.prog X.w) X (fun _ _ _ => False))
    (hg : Gl X c := by rfl) (hc : X.calm = true := by rfl) (hdb : (c == ("__debug__" : Str)) = false := by decide) : DS X cn E (.Raise (some (.Call (.Name c p) [] [] cpos)) none pos) (sRaise0 c tag) := by
  refine PS.imp (L2N.ps_raise hc tk (pmk_none T hr hx hg hdb)) fun Dn σ H q => ?_
  obtain ⟨π, δ, m, a, z⟩ := q
  intro d hd
  unfold sRaise0 at z
  by_cases hl : tag.length ≤ sizeLine
  · rw [if_pos hl] at z
    have st : Same H (upd H d (.xd (fs0 tag []))) := same_new hd
    exact z π σ _ _ _ (Ex.of st) (a.step (Go.of a.mok st)) ⟨rfl, .inr ⟨d, [.str tag], rfl, hid_some.mpr ⟨a.new d hd, upd_same⟩, RepAll.one ⟨rfl, hl⟩⟩⟩
  · rw [if_neg hl] at z; exact z.elim
theorem ds_raise1 {fl : Str} {e : Expr} {g : Fa} (T : ErC X.prog X.w X.K X.mg X.base c (cn c) 1 k tag (fs1 tag fl)) (hr : Room (k + 1) X.A) (tk : L2N.Takes X (fun cls d σ H => E σ cls d H)) (hx : Passes (L2N.CX X.prog X.w) X (fun _ _ _ => False)) (ha : DA X cn E [e] g)
    (hg : Gl X c := by rfl) (hc : X.calm = true := by rfl) (hdb : (c == ("__debug__" : Str)) = false := by decide) (he : starEach [e] X.env = (false, eval e X.env) :: starEach [] X.env := by rfl) (hpl : (backTo cpos (starEach [] X.env)).any (·.1) = false := by rfl) :
    DS X cn E (.Raise (some (.Call (.Name c p) [e] [] cpos)) none pos) (sRaise1 c tag fl g) := by
  refine PS.imp (L2N.ps_raise hc tk (pmk_one T hr hx hg ha he hpl hdb)) fun Dn σ H q => ?_
  obtain ⟨π, δ, m, a, z⟩ := q
  refine (show tDA _ E g σ H _ from ⟨π, δ, m, a, ?_⟩)
  unfold sRaise1 at z
  cases hf : g δ m with
  | bad => rw [hf] at z; exact z
  | exc x m1 =>
    rw [hf] at z
    exact fun π2 cls dd H2 go y => z π2 σ cls dd H2 go.ex (a.step go) y
  | ok ds m1 =>
    rw [hf] at z
    intro π1 vs H1 go rv
    simp only at z
    by_cases hl : ds.length = 1 ∧ tag.length ≤ sizeLine
    · rw [if_pos hl] at z
      have a1 := a.step go
      have hvl : vs.length = 1 := by rw [RepAll.length rv]; exact hl.1
      match vs, hvl with
      | [y], _ =>
      refine ⟨y, rfl, fun d nd1 => ?_⟩
      have sm : Same H1 (upd H1 d (.xd (fs1 tag fl [y]))) := same_new nd1
      have g2 := Go.of a1.mok sm
      refine z π1 σ _ _ _ (go.ex.trans g2.ex) (a1.step g2) ⟨rfl, .inr ⟨d, [y, .str tag], rfl, hid_some.mpr ⟨a1.new d nd1, upd_same⟩, ?_⟩⟩
      exact RepAll.append (us := [V.str tag]) (g2.ex.repAll ds rv) (RepAll.one ⟨rfl, hl.2⟩)
    · rw [if_neg hl] at z; exact z.elim
end
end DM

/-! try: .. except (C1, C2, C3) as e: .., where the three classes take all that may come. -/
namespace DM
open PySem PySem.Spec PyProof.Rows L2

/-- an exception at a, class cls, dict d, lies beside what is tracked -/
def Lie (X : Cx) (pins : List (Addr × Obj)) (σ : L2.St) (H : Hp) (cls : Value) (d : Option Addr) (a : Addr) (s : Shared) : Prop :=
  ∃ (B : Heap) (sI : Shared), Inv X pins σ H sI ∧ (∀ b o, sI.heap.get? b = some o → b ∉ frs X.stack → B.get? b = some o) ∧ sI.heap.UpToSlots s.heap ∧
    HandSPX.FlyingZ B X.stack a (L2N.Zn cls d) s.heap ∧ H a = none ∧ s.os = sI.os ∧ AllBare s.gens
section
variable {X : Cx} {pins : List (Addr × Obj)} {σ : L2.St} {H : Hp} {cls : Value} {d : Option Addr} {a : Addr} {s : Shared}
theorem Lie.inv (l : Lie X pins σ H cls d a s) : Inv X pins σ H s := by
  obtain ⟨B, sI, I, nb, up, fl, na, os, ag⟩ := l
  exact I.landed nb fl.1 up os ag
theorem Lie.na (l : Lie X pins σ H cls d a s) : H a = none := by
  obtain ⟨B, sI, I, nb, up, fl, na, os, ag⟩ := l
  exact na
theorem Lie.obj (l : Lie X pins σ H cls d a s) : ∃ oe vs, s.heap.get? a = some oe ∧ L2N.Zn cls d oe ∧ oe.data = .fields vs ∧ a ∉ frs X.stack := by
  obtain ⟨B, sI, I, nb, up, fl, na, os, ag⟩ := l
  obtain ⟨f1, f2, f3, oe, vs, T, oT, ts, he, hz, hd, _⟩ := fl
  refine ⟨oe, vs, he, hz, hd, fun hm => ?_⟩
  obtain ⟨_, o, ho, hn⟩ := f3.mem hm
  rw [he] at ho
  cases ho
  exact hn vs hd
/-- the context of the suite holds -/
theorem Lie.suite (l : Lie X pins σ H cls d a s) (hs : X.stack = X.env :: X.outer) (hf : X.env.frame = some X.env.locals) :
    ∃ oe, L2N.Zn cls d oe ∧ (∃ vs, oe.data = .fields vs) ∧ Inv (X.suite a ((a, oe) :: (X.pn ++ pins))) [] σ H s := by
  obtain ⟨oe, vs, he, hz, hd, nfr⟩ := l.obj
  have mem : ∀ e ∈ X.env :: X.outer, e.frame ≠ some a := fun e hm z => nfr (by rw [hs]; exact List.mem_filterMap.mpr ⟨e, hm, z⟩)
  refine ⟨oe, hz, ⟨vs, hd⟩, l.inv.suite he hd l.na (fun z => ?_) fun hm => ?_⟩
  · exact mem X.env List.mem_cons_self (by rw [hf, z])
  · obtain ⟨e, h1, h2⟩ := List.mem_filterMap.mp hm
    exact mem e (List.mem_cons_of_mem _ h1) h2
/-- the flight ends once more -/
theorem Lie.again {Q : Unit → Shared → Prop} {A : Around} {E : Value → Shared → Prop} (l : Lie X pins σ H cls d a s) (h : ∀ h', Lie X pins σ H cls d a { s with heap := h' } → Q () { s with heap := h' }) :
    wpAny (model X.prog X.w) A (setFlight (.ref a) none) Q E s := by
  obtain ⟨B, sI, I, nb, up, fl, na, os, ag⟩ := l
  exact HandSPX.lands_againZ fl fun h' fl' up' => h h' ⟨B, sI, I, nb, up.trans up', fl', na, os, ag⟩
/-- from the air to the ground -/
theorem Lie.of_air {W : WX} {u : Value} {E : Value → Shared → Prop} {Q : Unit → Shared → Prop} {s' : Shared} {xe : Value → Shared → Prop} (x : L2N.XE (X.tr (X.pn ++ pins) xe) W u s') (ok : X.Ok) (hs : X.stack = X.env :: X.outer) (hf : X.env.frame = some X.env.locals)
    (h : ∀ a σ H cls d h', u = .ref a → W cls d σ H → Lie X pins σ H cls d a { s' with heap := h' } → Q () { s' with heap := h' }) :
    wpAny (model X.prog X.w) X.A (noteFrame u X.env) (fun _ s₂ => wpAny (model X.prog X.w) X.A (setFlight u none) Q E s₂) E s' := by
  obtain ⟨a, B, sI, pins', σ', H', cls, d, rfl, J, nb, up, sky, na, os, ag, w⟩ := x
  have J0 : Inv X pins σ' H' sI := J.ofTry ok
  have frames : X.A.frames = some (X.env :: X.outer) := by rw [ok.frames, hs]
  have sky0 : Sky B (X.env :: X.outer) a (L2N.Zn cls d) X.env.locals s'.heap := by rw [← hs]; exact sky
  refine L2N.Sky.land L2N.Zn.steady frames hf sky0 fun h' fl up' => h a σ' H' cls d h' rfl w ⟨B, sI, J0, nb, up.trans up', ?_, na, os, ag⟩
  rw [hs]
  exact fl
/-- a new object beside it -/
theorem Lie.grow {o : Obj} {ho : HO} (l : Lie X pins σ H cls d a s) (new : ∀ (H2 : Hp) (h2 : Heap), h2.get? s.heap.objs.size = some o → ObjOk X.prog X.w H2 h2 s.heap.objs.size ho) (ef : o.isFreed = false) :
    Lie X pins σ (upd H s.heap.objs.size ho) cls d a { s with heap := s.heap.push o } := by
  obtain ⟨B, sI, I, nb, up, fl, na, os, ag⟩ := l
  obtain ⟨f1, f2, f3, oe, vs, T, oT, ts, he, hz, hd, h1, hnT, hTe, hT, hdT, h3⟩ := fl
  have keep : ∀ b u, s.heap.get? b = some u → (s.heap.push o).get? b = some u := fun b u e => Heap.get?_push_of_some _ e
  have newAt : (s.heap.push o).get? s.heap.objs.size = some o := Heap.get?_push_size _ ef
  have ne : ∀ {b : Addr} {u : Obj}, s.heap.get? b = some u → b ≠ s.heap.objs.size := fun e => Nat.ne_of_lt (Heap.lt_size e)
  -- the state without the exception's two records, ahead of the new object
  have I0 : Inv X pins σ H { s with heap := PySem.W.hideAll s.heap [a, T] } := by
    refine I.landed (s' := { s with heap := PySem.W.hideAll s.heap [a, T] }) nb (fun b u e => PySem.W.hideAll_get _ (f1 b u e) fun hm => ?_) (fun b u e hn => ?_) os ag
    · rcases List.mem_cons.mp hm with z | hm
      · rw [z, f2] at e; cases e
      · rw [List.mem_singleton.mp hm, hnT] at e; cases e
    · obtain ⟨sl, q⟩ := up b u e hn
      refine ⟨sl, PySem.W.hideAll_get _ q fun hm => ?_⟩
      rcases List.mem_cons.mp hm with z | hm
      · rw [z, he] at q
        cases q
        exact hn vs hd
      · rw [List.mem_singleton.mp hm, hT] at q
        cases q
        exact hn ts hdT
  -- behind it
  have mem : s.heap.objs.size ∉ [a, T] := fun hm => by
    rcases List.mem_cons.mp hm with z | hm
    · exact ne he z.symm
    · exact ne hT (List.mem_singleton.mp hm).symm
  have I1 : Inv X pins σ (upd H s.heap.objs.size ho) { s with heap := PySem.W.hideAll (s.heap.push o) [a, T] } := by
    refine I0.laid (t' := s.toks) (fun b u e => ?_) (by rw [PySem.W.hideAll_size]; exact Nat.le_refl _) (new _ _ (PySem.W.hideAll_get _ newAt mem))
    refine PySem.W.hideAll_get _ (keep _ _ (PySem.W.of_hideAll _ e)) fun hm => ?_
    rw [PySem.W.hideAll_none _ hm] at e
    cases e
  refine ⟨PySem.W.hideAll (s.heap.push o) ([a, T] ++ frs X.stack), _, I1, fun b u e hb => ?_, Heap.UpToSlots.of_keeps fun b u e => PySem.W.of_hideAll _ e, ⟨fun b u e => PySem.W.of_hideAll _ e, PySem.W.hideAll_none _ (by simp), ?_, oe, vs, T, oT, ts, keep _ _ he, hz, hd, h1, PySem.W.hideAll_none _ (by simp), hTe, keep _ _ hT, hdT, h3⟩, ?_, rfl, ag⟩
  · refine PySem.W.hideAll_get _ (PySem.W.of_hideAll _ e) fun hm => ?_
    rcases List.mem_append.mp hm with hm | hm
    · rw [PySem.W.hideAll_none _ hm] at e
      cases e
    · exact hb hm
  · refine funFrames_none (f3.of_keeps fun b u e _ => ⟨u, keep b u e, rfl⟩) fun L hL => PySem.W.hideAll_none _ (List.mem_append_right _ hL)
  · rw [upd_ne (ne he)]
    exact na
end
/-! ### the statement -/
/-- an end behind whose way slot i is empty -/
def Ends.wo (D : Ends) (i : Nat) : Ends := { nx := fun σ H => D.nx (σ.set i none) H, rt := D.rt, bk := fun σ H => D.bk (σ.set i none) H, ct := fun σ H => D.ct (σ.set i none) H }
/-- what is wished of what the body lets out: one of the three classes takes it, then the suite runs -/
def w3 (K : PySem.W.Frag) (C1 C2 C3 : Addr) (i : Nat) (ts : Addr → Value → Option Addr → TS) (D : Ends) : WX := fun cls d σ H =>
  PySem.W.exmAny K cls [.ref C1, .ref C2, .ref C3] = some true ∧ ∀ a p, H a = none → H p = none → a ≠ p → ts a cls d (Ends.wo D i) (σ.set i (some (.ref a))) (upd H p (.tup [.ref C1, .ref C2, .ref C3]))
section
variable {X : Cx} {pins : List (Addr × Obj)} {n : Str} {i : Nat} {suite : List Stmt} {b₀ : Stmt} {pos' : Pos} {D : Ends}
/-- behind the suite the clause's name is taken away -/
theorem sp_gone {a : Addr} {oe : Obj} {f : Flow} {s : Shared} (ok : X.Ok) (hN : X.N.Nodup) (hi : X.N[i]? = some n) (hln : X.env.kindOf n = some .local) (h : SP (X.suite a ((a, oe) :: (X.pn ++ pins))) [] (Ends.wo D i) f s) :
    wpAny (model X.prog X.w) X.A (do bindName X.env n .none; unbindBehindTheSuite X.env n pos') (fun _ s' => SP X pins D f s') X.xe s := by
  cases f with
  | ret u =>
    obtain ⟨v, σ, H, J, r, q⟩ := h
    exact gone_ok (J.unsuite ok) hN hi hln fun s' J' => ⟨v, _, H, J', r, q⟩
  | next =>
    obtain ⟨σ, H, J, q⟩ := h
    exact gone_ok (J.unsuite ok) hN hi hln fun s' J' => ⟨_, H, J', q⟩
  | brk =>
    obtain ⟨σ, H, J, q⟩ := h
    exact gone_ok (J.unsuite ok) hN hi hln fun s' J' => ⟨_, H, J', q⟩
  | cont =>
    obtain ⟨σ, H, J, q⟩ := h
    exact gone_ok (J.unsuite ok) hN hi hln fun s' J' => ⟨_, H, J', q⟩
theorem sp_untry {pn : List (Addr × Obj)} {xe : Value → Shared → Prop} {f : Flow} {s : Shared} (ok : X.Ok) (h : SP (X.tr (X.pn ++ pins) xe) pn D f s) : SP X pins D f s := by
  cases f with
  | ret u =>
    obtain ⟨v, σ, H, J, r, q⟩ := h
    exact ⟨v, σ, H, J.ofTry ok, r, q⟩
  | next =>
    obtain ⟨σ, H, J, q⟩ := h
    exact ⟨σ, H, J.ofTry ok, q⟩
  | brk =>
    obtain ⟨σ, H, J, q⟩ := h
    exact ⟨σ, H, J.ofTry ok, q⟩
  | cont =>
    obtain ⟨σ, H, J, q⟩ := h
    exact ⟨σ, H, J.ofTry ok, q⟩
variable {C1 C2 C3 : Addr} {x1 x2 x3 : Str} {p1 p2 p3 tp pos : Pos} {x0 : Nat}
/-- the three names as the test of a clause -/
theorem test3 {a : Addr} {pn : List (Addr × Obj)} {σ : L2.St} {H : Hp} {s : Shared} {E : Value → Shared → Prop} {Q : Value → Shared → Prop} (I : Inv (X.suite a pn) [] σ H s)
    (g1 : Gl X x1) (m1 : X.mg x1 = some (.ref C1)) (d1 : (x1 == ("__debug__" : Str)) = false) (g2 : Gl X x2) (m2 : X.mg x2 = some (.ref C2)) (d2 : (x2 == ("__debug__" : Str)) = false) (g3 : Gl X x3) (m3 : X.mg x3 = some (.ref C3)) (d3 : (x3 == ("__debug__" : Str)) = false)
    (hst : starEach [.Name x1 p1, .Name x2 p2, .Name x3 p3] X.env = [(false, eval (.Name x1 p1) X.env), (false, eval (.Name x2 p2) X.env), (false, eval (.Name x3 p3) X.env)])
    (h : Q (.ref s.heap.objs.size) { s with heap := s.heap.push { cls := .type "tuple", data := .seq [Value.ref C1, .ref C2, .ref C3].toArray } }) :
    wpAny (model X.prog X.w) (X.A.mark (some (.ref a))) (eval (.Tuple [.Name x1 p1, .Name x2 p2, .Name x3 p3] x0 tp) X.env) Q E s := by
  refine wpAny_Tuple_spliced ?_
  rw [hst]
  refine Calls.spliced_cons (ld_glob (X := X.suite a pn) I g1 m1 ?_ d1)
  refine Calls.spliced_cons (ld_glob (X := X.suite a pn) I g2 m2 ?_ d2)
  refine Calls.spliced_cons (ld_glob (X := X.suite a pn) I g3 m3 ?_ d3)
  exact Calls.spliced_nil ⟨by rw [sizeLine_eq]; show 3 ≤ 16777216; decide, h⟩
theorem ps_try3 {body : List Stmt} {tb : WX → TS} {ts : Addr → Value → Option Addr → TS} (hs : X.stack = X.env :: X.outer) (hf : X.env.frame = some X.env.locals) (hN : X.N.Nodup) (hi : X.N[i]? = some n) (hln : X.env.kindOf n = some .local)
    (g1 : Gl X x1) (m1 : X.mg x1 = some (.ref C1)) (d1 : (x1 == ("__debug__" : Str)) = false) (g2 : Gl X x2) (m2 : X.mg x2 = some (.ref C2)) (d2 : (x2 == ("__debug__" : Str)) = false) (g3 : Gl X x3) (m3 : X.mg x3 = some (.ref C3)) (d3 : (x3 == ("__debug__" : Str)) = false)
    (hst : starEach [.Name x1 p1, .Name x2 p2, .Name x3 p3] X.env = [(false, eval (.Name x1 p1) X.env), (false, eval (.Name x2 p2) X.env), (false, eval (.Name x3 p3) X.env)])
    (hb : ∀ (W : WX) (pn : List (Addr × Obj)) (xe : Value → Shared → Prop), L2N.Takes (X.tr pn xe) W → PassesOwn (model X.prog X.w) X.A X.env xe → PSs (X.tr pn xe) body (tb W))
    (hsu : ∀ (a : Addr) (oe : Obj) (cls : Value) (d : Option Addr) (pn : List (Addr × Obj)), L2N.Zn cls d oe → (∃ vs, oe.data = .fields vs) → PSs (X.suite a ((a, oe) :: pn)) (b₀ :: suite) (ts a cls d)) :
    PS X (.Try body [.ExceptHandler (some (.Tuple [.Name x1 p1, .Name x2 p2, .Name x3 p3] x0 tp)) (some n) (b₀ :: suite) pos'] [] [] pos) (fun D σ H => tb (w3 X.K C1 C2 C3 i ts D) D σ H) := by
  refine ⟨fun pins s σ H D I h => wpAny_Try_except ?_⟩
  have ok := I.ok
  have key : L2N.Takes (X.tr (X.pn ++ pins) fun e s₁ => wpAny (model X.prog X.w) X.A (noteFrame e X.env) (fun _ s₂ => wpAny (model X.prog X.w) X.A (setFlight e none) (fun _ s₃ =>
      wpAny (model X.prog X.w) X.A (handleBy e X.env [.ExceptHandler (some (.Tuple [.Name x1 p1, .Name x2 p2, .Name x3 p3] x0 tp)) (some n) (b₀ :: suite) pos']) (SP X pins D) X.xe s₃) X.xe s₂) X.xe s₁) (w3 X.K C1 C2 C3 i ts D) := fun u s' air => by
    refine Lie.of_air air ok hs hf fun a σ' H' cls d h3 eu w l3 => ?_
    subst eu
    obtain ⟨wyes, wrun⟩ := w
    obtain ⟨oe3, _, _, S3⟩ := l3.suite hs hf
    obtain ⟨oe, vs, he, hz, hd, _⟩ := l3.obj
    refine wpAny_handleBy_cons (codeAny_handlers_test (test3 S3 g1 m1 d1 g2 m2 d2 g3 m3 d3 hst ?_)) (fun z => by cases z)
    have l4 := l3.grow (o := { cls := .type "tuple", data := .seq [Value.ref C1, .ref C2, .ref C3].toArray }) (ho := .tup [.ref C1, .ref C2, .ref C3]) (fun H2 h2 e2 => ⟨by rw [sizeLine_eq]; show 3 ≤ 16777216; decide, _, .cons rfl (.cons rfl (.cons rfl .nil)), ⟨_, e2, rfl, _, rfl⟩⟩) rfl
    have tup := Heap.get?_push_size h3 (o := ({ cls := .type "tuple", data := .seq [Value.ref C1, .ref C2, .ref C3].toArray } : Obj)) rfl
    have typ : PySem.W.Looks (model X.prog X.w) (h3.push { cls := .type "tuple", data := .seq [Value.ref C1, .ref C2, .ref C3].toArray }) (typeOf (.ref a)) cls := fun A Q E s k q => wpAny_typeOf_ref (k _ _ (Heap.get?_push_of_some _ he)) (by rw [hz.1]; exact q)
    refine (PySem.W.exm_tup3 (M := model X.prog X.w) l4.inv.kIn typ tup wyes).here ?_
    have nap : a ≠ h3.objs.size := Nat.ne_of_lt (Heap.lt_size he)
    have run := wrun a h3.objs.size l3.na (l3.inv.hok.fresh (Nat.le_refl _)) nap
    refine codeAny_handlers_suite_as (l4.again fun h5 l5 => ?_)
    obtain ⟨oe5, hz5, hd5, S5⟩ := l5.suite hs hf
    refine store_ok (X := X.suite a ((a, oe5) :: (X.pn ++ pins))) (v := .ref a) S5 hN hi (.inl hln) rfl (fun s6 S6 => ?_) (.inr hln)
    exact wpAny_mono ((hsu a oe5 cls d (X.pn ++ pins) hz5 hd5).run [] s6 _ _ _ S6 run) (fun f s7 hsp => sp_gone ok hN hi hln hsp) fun _ _ z => z.elim
  refine wpAny_mono ((hb _ (X.pn ++ pins) _ key PassesOwn.looking).run [] s σ H D (I.toTry _) h) (fun f s1 hsp => ?_) fun _ _ z => z
  have fin := sp_untry ok hsp
  cases f with
  | next => exact wpAny_execs_nil fin
  | ret u => exact fin
  | brk => exact fin
  | cont => exact fin
end
end DM

/-! What is read of a caught exception: its attributes, by defs that are called with it. -/
namespace DM
open PySem PySem.Spec PyProof.Rows L2

/-- the context in which the exception at a is handled -/
structure Hot (Z : Cx) (a : Addr) (oe : Obj) : Prop where
  hd : Z.A.handled = some (.ref a)
  pin : (a, oe) ∈ Z.pn
  dat : ∃ vs, oe.data = .fields vs
theorem Hot.mark {Z : Cx} {a : Addr} {oe : Obj} (h : Hot Z a oe) : Z.A.mark (some (.ref a)) = Z.A := by
  have e := h.hd
  unfold Around.mark
  generalize Z.A = A at e
  cases A
  simp only at e
  subst e
  rfl
theorem pe_hot {Z : Cx} {a : Addr} {oe : Obj} {e : Expr} {t : TE} (h : Hot Z a oe) (he : ∀ pn, PE (Z.suite a ((a, oe) :: pn)) e t) : PE Z e t := ⟨fun pins s σ H Q I q => by
  obtain ⟨g1, g2, g3, g4, _⟩ := I.pin (a, oe) (List.mem_append_left _ h.pin)
  obtain ⟨vs, hd⟩ := h.dat
  have r := (he (Z.pn ++ pins)).run [] s σ H Q (I.suite g1 hd g2 g3 g4) q
  have r2 : wpAny (model Z.prog Z.w) (Z.A.mark (some (.ref a))) (eval e Z.env) (EP (Z.suite a ((a, oe) :: (Z.pn ++ pins))) [] σ Q) (fun _ _ => False) s := r
  rw [h.mark] at r2
  exact wpAny_mono r2 (fun v s' ⟨x, H', J, rv, q'⟩ => ⟨x, H', J.unsuite I.ok, rv, q'⟩) fun _ _ z => z.elim⟩
theorem pe_given {Z : Cx} {e : Expr} {p : Prop} {t : TE} (h : p → PE Z e t) : PE Z e (fun σ H Q => p ∧ t σ H Q) := ⟨fun pins s σ H Q I q => (h q.1).run pins s σ H Q I q.2⟩

/-- the exception's dict -/
def Xd (d : Option Addr) (fs : List (Str × V)) (H : Hp) : Prop := ∃ dd, d = some dd ∧ H dd = some (.xd fs)
theorem Xd.same {d : Option Addr} {fs : List (Str × V)} {H H2 : Hp} (x : Xd d fs H) (e : Same H H2) : Xd d fs H2 := by
  obtain ⟨dd, h1, h2⟩ := x
  exact ⟨dd, h1, e _ _ h2⟩
/-- the class gives its objects' attribute f from their dict -/
def Xcl (K : PySem.W.Frag) (cls : Value) (f : Str) : Prop := ∃ C, cls = .ref C ∧ XfC K C ∧ PySem.W.findIn K (.ref C) f = some none
/-- the reading of x.f, x in slot i -/
def tHA (K : PySem.W.Frag) (a : Addr) (cls : Value) (d : Option Addr) (i : Nat) (f : Str) : TE := fun σ H Q => Xcl K cls f ∧ (σ[i]? = some (some (.ref a)) ∧ ∃ fs v, Xd d fs H ∧ fs.lookup f = some v ∧ Q v H)
section
variable {Z : Cx} {a : Addr} {oe : Obj} {cls : Value} {d : Option Addr} {i : Nat} {x f : Str} {p1 p2 : Pos}
theorem pe_ha (h : Hot Z a oe) (hz : Zc cls d oe) (hN : Z.N[i]? = some x) (hv : Vis Z.env.scope x) (hd : (x == ("__debug__" : Str)) = false) (hcd : (x == ("__classdict__" : Str)) = false)
    (hb : attributeBase (.Name x p1) f Z.env (eval (.Name x p1) Z.env) = eval (.Name x p1) Z.env) : PE Z (.Attribute (.Name x p1) f p2) (tHA Z.K a cls d i f) := by
  refine pe_given fun ⟨C, ec, T, hn⟩ => ?_
  refine pe_hot h fun pn => PE.imp (pe_xf (C := C) T hn hz h.dat (pe_var (X := Z.suite a ((a, oe) :: pn)) (i := i) hN hv hd hcd) hb) fun σ H Q ⟨h1, fs, v, ⟨dd, h2, h3⟩, h4, q⟩ => ?_
  exact ⟨.ref a, h1, rfl, ec, dd, fs, v, h2, h3, h4, q⟩
end

/-! ### data rules where nothing is told -/
def π0 : Wv := ⟨[], fun _ => false, Lm.nil⟩
theorem at0 {K : PySem.W.Frag} {f : Str → Addr} {σ : L2.St} {H : Hp} : At (gx K (c0 f)) π0 σ H (List.replicate σ.length .un) [] := by
  refine ⟨⟨by simp, fun i s hs => ?_⟩, ⟨rfl, List.nodup_nil, fun a ha => (List.not_mem_nil ha).elim, fun a ha => Bool.noConfusion (show false = true from ha), fun a ha => (List.not_mem_nil ha).elim, fun n d a h1 h2 => by simp at h1⟩, trivial⟩
  have hl := (List.getElem?_eq_some_iff.mp hs).1
  rw [List.length_replicate] at hl
  rw [List.getElem?_replicate_of_lt hl] at hs
  cases hs
  exact ⟨_, List.getElem?_eq_getElem hl, trivial⟩
/-- what an expression without slots gives -/
theorem out0 {K : PySem.W.Frag} {f : Str → Addr} {σ : L2.St} {H : Hp} {g : Fe} {d : DM.D} {Q : VK} (hg : ∀ δ m, g δ m = .ok d m) (h : ∀ v H2, Same H H2 → (∀ p, H2 p = none → lv π0 [] p = false) → Rep ((gx K (c0 f)).at π0) (hid (lv π0 []) H2) d v → Q v H2) : tD (gx K (c0 f)) ES0 g σ H Q := by
  refine ⟨π0, _, [], at0, ?_⟩
  rw [hg]
  intro π2 v H2 go rv
  have e1 : π2.pi = [] := by
    have := go.ok.len
    exact List.length_eq_zero_iff.mp this
  have e2 := go.ex.hb
  have e3 := go.ex.pre.lm
  have e : π2 = π0 := by
    cases π2
    cases e1
    cases e2
    cases e3
    rfl
  subst e
  refine h v H2 (fun b o hb => (go.ex.st b o ?_ hb).1) (fun p hp => go.ok.fresh hp) rv
  cases q : mlv π0 [] b with
  | false => rfl
  | true =>
    obtain ⟨n, x, _, h2⟩ := mlv_iff.mp q
    cases h2

/-! ### tests of the tag -/
/-- what is known of the exception at hand: its object, its dict, its tag -/
structure Tg (K : PySem.W.Frag) (a : Addr) (cls : Value) (d : Option Addr) (i : Nat) (fs : List (Str × V)) (t : Str) (σ : L2.St) (H : Hp) : Prop where
  sl : σ[i]? = some (some (.ref a))
  xd : Xd d fs H
  tg : fs.lookup ("tag" : Str) = some (V.str t)
  cl : Xcl K cls "tag"
  sz : t.length ≤ sizeLine
theorem Tg.same {K : PySem.W.Frag} {a : Addr} {cls : Value} {d : Option Addr} {i : Nat} {fs : List (Str × V)} {t : Str} {σ : L2.St} {H H2 : Hp} (x : Tg K a cls d i fs t σ H) (e : Same H H2) : Tg K a cls d i fs t σ H2 := ⟨x.sl, x.xd.same e, x.tg, x.cl, x.sz⟩
section
variable {Z : Cx} {a : Addr} {oe : Obj} {cls : Value} {d : Option Addr} {i : Nat} {x f : Str} {fs : List (Str × V)} {t : Str} {p1 p2 p3 : Pos}
def tTagT (K : PySem.W.Frag) (a : Addr) (cls : Value) (d : Option Addr) (i : Nat) (fs : List (Str × V)) (t : Str) (b : Bool) : TT := fun σ H Q => Tg K a cls d i fs t σ H ∧ ∀ H2, Same H H2 → Q b H2
theorem pt_tag {op : CmpOp} {o : DM.D → DM.D → Option DM.D} {g : Fe} {y : DM.D} {b : Bool} {e2 : Expr} {fc : Str → Addr} (hk : Cm Z (c0 fc) op o) (ha : PE Z (.Attribute (.Name x p1) "tag" p2) (tHA Z.K a cls d i "tag")) (hb : DE Z (c0 fc) ES0 e2 g) (hg : ∀ δ m, g δ m = .ok y m)
    (hy : ∀ m, view m y = some y) (ho : o (.str t) y = some (.bl b)) (hm : behindInMarks op e2 = false) : PT Z (.Compare (.Attribute (.Name x p1) "tag" p2) [op] [e2] p3) (tTagT Z.K a cls d i fs t b) := by
  obtain ⟨r, h1, h2⟩ := hk.ex
  refine PT.imp (pt_cmpR h1 ha hb hm) fun σ H Q ⟨T, q⟩ => ?_
  refine ⟨T.cl, T.sl, fs, .str t, T.xd, T.tg, out0 hg fun v H2 sm nf rv => ?_⟩
  have rt : RepT ((gx Z.K (c0 fc)).at π0) H2 (hid (lv π0 []) H2) (.str t) (.str t) := ⟨rfl, T.sz⟩
  refine h2 π0 _ H2 (.str t) y (.bl b) (.str t) v _ nf rt (Rep.top rv) ho fun w H3 sm2 rw_ => ?_
  obtain rfl : w = .bl b := rw_
  exact ⟨b, rfl, q H3 fun c u hc => sm2 c u (sm c u hc)⟩
/-- if the tag is one of these: the attribute f -/
def tTagIf (K : PySem.W.Frag) (a : Addr) (cls : Value) (d : Option Addr) (i : Nat) (fs : List (Str × V)) (t : Str) (b : Bool) (f : Str) : TS := fun D σ H => Tg K a cls d i fs t σ H ∧ ∀ H2, Same H H2 → if b = true then (∃ v, Xcl K cls f ∧ fs.lookup f = some v ∧ D.rt v H2) else D.nx σ H2
theorem ps_tagIf {b : Bool} {c : Expr} {p4 p5 p6 p7 : Pos} (hc : PT Z c (tTagT Z.K a cls d i fs t b)) (ha : PE Z (.Attribute (.Name x p4) f p5) (tHA Z.K a cls d i f)) :
    PS Z (.If c [.Return (some (.Attribute (.Name x p4) f p5)) p6] [] p7) (tTagIf Z.K a cls d i fs t b f) := by
  refine PS.imp (ps_if hc (pss_one (ps_ret ha)) pss_nil) fun D σ H ⟨T, q⟩ => ⟨T, fun H2 sm => ?_⟩
  have q2 := q H2 sm
  cases b with
  | true =>
    rw [if_pos rfl] at q2
    show tRet (tHA Z.K a cls d i f) D σ H2
    obtain ⟨v, h1, h2, h3⟩ := q2
    exact ⟨h1, T.sl, fs, v, T.xd.same sm, h2, h3⟩
  | false =>
    rw [if_neg Bool.false_ne_true] at q2
    exact q2
end
end DM

/-! Defs that are called with the exception at hand and give one of its attributes, by its tag. -/
namespace DM
open PySem PySem.Spec PyProof.Rows L2

/-- v is the attribute that is asked for, or None -/
def Okv (K : PySem.W.Frag) (cls : Value) (fs : List (Str × V)) : Option Str → V → Prop
  | some f, v => Xcl K cls f ∧ fs.lookup f = some v
  | none, v => v = .non
/-- the reading of a body that gives it -/
def tFd (K : PySem.W.Frag) (a : Addr) (cls : Value) (d : Option Addr) (i : Nat) (fs : List (Str × V)) (t : Str) (fo : Option Str) : TS := fun D σ H => Tg K a cls d i fs t σ H ∧ ∃ v, Okv K cls fs fo v ∧ ∀ H2, Same H H2 → D.rt v H2
def tFe (K : PySem.W.Frag) (a : Addr) (cls : Value) (d : Option Addr) (i : Nat) (fs : List (Str × V)) (t : Str) (fo : Option Str) : TE := fun σ H Q => Tg K a cls d i fs t σ H ∧ ∃ v, Okv K cls fs fo v ∧ ∀ H2, Same H H2 → Q v H2
/-- such a def, as it stands behind the top -/
structure Fx (P : Program) (w : World) (K : PySem.W.Frag) (mg : Str → Option Value) (base : Heap) (x : Str) (k : Nat) (fn : Str → Option Str) : Prop where
  ex : ∃ (f : Addr) (fd : FuncData), mg x = some (.ref f) ∧ PySem.W.keepIn K (.ref f) = true ∧
    ∀ (A : Around) (outer : List Env) (s : Shared) (H : Hp) (a : Addr) (oe : Obj) (cls : Value) (d : Option Addr) (fs : List (Str × V)) (t : Str) (v : V) (Q : VK), L2H.RoomH k A → L2H.Hot1 A (a, oe) → Zc cls d oe → L2H.PinOk outer H s (a, oe) → Env0 P w K mg base A outer s H →
      Xd d fs H → fs.lookup ("tag" : Str) = some (V.str t) → Xcl K cls "tag" → t.length ≤ sizeLine → Okv K cls fs (fn t) v → (∀ H2, Same H H2 → Q v H2) →
      codeAny (model P w) A (.call (.ref f) ⟨[.ref a], []⟩) (CR (L2N.CX P w) outer P w H s Q E0) s
section
variable {P : Program} {w : World} {K : PySem.W.Frag} {mg : Str → Option Value} {base : Heap} {x pn : Str} {st : Stmt} {N : List Str} {k : Nat} {fn : Str → Option Str}
theorem Df.fx (D : Df K mg x st [pn]) (S : FnScope N [pn] (defScope st)) (hs : ∀ a : Addr, (L2.start N [V.ref a])[0]? = some (some (V.ref a)))
    (hb : ∀ (Z : Cx) (a : Addr) (oe : Obj) (cls : Value) (d : Option Addr) (fs : List (Str × V)) (t : Str) (f : Addr) (cdv : Value) (A : Around) (outer : List Env) (s : Shared) (H : Hp), Z = L2H.cxH (L2N.CX P w) P w K mg base N x (defScope st) f cdv A outer s H E0 (a, oe) → Hot Z a oe → (∃ vs : Array Value, oe.data = .fields vs ∧ vs[2]? = some .none) → Zc cls d oe → L2H.RoomH k Z.A →
      PSs Z (defBody st) (tFd K a cls d 0 fs t (fn t))) : Fx P w K mg base x (k + 1) fn := by
  obtain ⟨f, fd, hm, F, bn⟩ := D.ex
  refine ⟨f, fd, hm, F.kp, fun A outer s H a oe cls d fs t v Q hr hot hz hpin e0 xd htg hcl hsz ok q => ?_⟩
  obtain ⟨oc, od, kV, doc, pm, an, cdv, ct, osl, efd, lk, hcd⟩ := F.ex
  have KX : K.In s.heap := e0.mod.kin.keeps fun b o e => (e0.bs b o e).1
  have lim : s.heap.NoLimit := e0.mod.nolimit.keeps fun b o e => (e0.bs b o e).1
  have b1 := bn s [.ref a] KX rfl
  subst efd
  refine codeAny_call_function hr.depth (KX _ _ lk) rfl S.co S.gen rfl (PySem.W.codeRec_of KX hcd) (b1 _ _ _ _ ?_)
  refine wpAny_newFunctionEnv_cells S.kind (fun y hy => (S.par y.1 (List.of_mem_zip hy).1).imp id fun z => ⟨z, PySem.W.cellsFrom_some _ _ _ (.inl z)⟩) fun env he s1 xin => ?_
  subst he
  have I := L2H.inv_startH (CX := L2N.CX P w) (E := E0) (N := N) (ps := [pn]) (vs := [V.ref a]) (us := [.ref a]) S hpin e0 rfl (.cons rfl .nil) xin
  have body := hb _ a oe cls d fs t f cdv A outer s H rfl ⟨hot.1, by simp [L2H.cxH], hot.2.imp fun _ z => z.1⟩ hot.2 hz (hr.deeper _)
  refine ⟨lim.keeps xin.toInCall.keep, codeAny_func (wpAny_mono (body.run [] s1 _ H { nx := fun _ H' => Q .non H', rt := Q } I ⟨⟨hs a, xd, htg, hcl, hsz⟩, v, ok, q⟩) (fun fl s2 hh => ?_) fun _ _ z => z)⟩
  cases fl with
  | ret u =>
    obtain ⟨v2, σ2, H2, J, rv, q2⟩ := hh
    exact ⟨v2, H2, J.os, J.bare, J.base, J.hok, rv, q2⟩
  | next =>
    obtain ⟨σ2, H2, J, q2⟩ := hh
    exact ⟨.non, H2, J.os, J.bare, J.base, J.hok, rfl, q2⟩
  | brk => exact (hh.choose_spec.choose_spec.2 : False).elim
  | cont => exact (hh.choose_spec.choose_spec.2 : False).elim
end
section
variable {Z : Cx} {a : Addr} {oe : Obj} {cls : Value} {d : Option Addr} {i : Nat} {x y f : Str} {fs : List (Str × V)} {t : Str} {p1 p2 p3 p4 p5 p6 : Pos} {k : Nat} {fn : Str → Option Str} {b : Bool} {fo : Option Str}
/-- a call of such a def -/
theorem pe_fx (F : Fx Z.prog Z.w Z.K Z.mg Z.base x k fn) (h : Hot Z a oe) (hc : ∃ vs : Array Value, oe.data = .fields vs ∧ vs[2]? = some .none) (hz : Zc cls d oe) (hr : L2H.RoomH k Z.A) (hg : Gl Z x) (hN : Z.N[i]? = some y) (hv : Vis Z.env.scope y) (hd : (y == ("__debug__" : Str)) = false) (hcd : (y == ("__classdict__" : Str)) = false) (hdx : (x == ("__debug__" : Str)) = false)
    (he : starEach [.Name y p2] Z.env = (false, eval (.Name y p2) Z.env) :: starEach [] Z.env) (hpl : (backTo p3 (starEach [] Z.env)).any (·.1) = false) :
    PE Z (.Call (.Name x p1) [.Name y p2] [] p3) (tFe Z.K a cls d i fs t (fn t)) := by
  obtain ⟨g, fd, hm, hk, run⟩ := F.ex
  refine ⟨fun pins s σ H Q I ⟨T, v, ok, q⟩ => wpAny_Call_Name_kw (ld_glob I hg hm ?_ hdx)⟩
  have arg : PA Z [.Name y p2] (tCons (tVar i) tNil) := pa_cons (pe_var hN hv hd hcd) pa_nil he
  refine PySem.W.callWith_K (h₀ := Z.base) I.ok.mod.kin hk (L2.thn (arg.run p3 pins s σ H (fun vs H1 => vs = [.ref a] ∧ H1 = H) I ⟨.ref a, T.sl, rfl, rfl⟩) fun us s1 ⟨vs, H1, I1, rv, ev, eh⟩ => ⟨I1.kIn, ?_⟩) he hpl
  subst ev eh
  cases rv with
  | cons r1 r2 =>
  cases r2
  obtain rfl : _ = Value.ref a := r1
  obtain ⟨g1, g2, g3, g4, g5⟩ := I1.pin (a, oe) (List.mem_append_left _ h.pin)
  have pin : L2H.PinOk Z.stack H1 s1 (a, oe) := ⟨g1, g2, fun hm => (List.mem_cons.mp (I1.stkSub a hm)).elim g3 g4, g5⟩
  refine wpAny_call (codeAny_mono (run Z.A Z.stack s1 H1 a oe cls d fs t v Q hr ⟨h.hd, hc⟩ hz pin I1.env0 T.xd T.tg T.cl T.sz ok q) fun r s2 hq => ?_)
  cases r with
  | error e => exact (hq.choose_spec.choose_spec.choose_spec.choose_spec.choose_spec.2.2.2.2.2.2.2 : False).elim
  | ok fl =>
    cases fl with
    | ret u => exact I1.after hq
    | next => exact False.elim hq
    | brk => exact False.elim hq
    | cont => exact False.elim hq
theorem fd_if {st : Stmt} {rest : List Stmt} (h : PS Z st (tTagIf Z.K a cls d i fs t b f)) (r : PSs Z rest (tFd Z.K a cls d i fs t fo)) : PSs Z (st :: rest) (tFd Z.K a cls d i fs t (if b = true then some f else fo)) := by
  refine PSs.imp (pss_cons h r) fun D σ H ⟨T, v, ok, q⟩ => ⟨T, fun H2 sm => ?_⟩
  cases b with
  | true =>
    rw [if_pos rfl] at ok ⊢
    exact ⟨v, ok.1, ok.2, q H2 sm⟩
  | false =>
    rw [if_neg Bool.false_ne_true] at ok ⊢
    exact ⟨T.same sm, v, ok, fun H3 s3 => q H3 fun c u hc => s3 c u (sm c u hc)⟩
theorem fd_ret {e : Expr} (h : PE Z e (tFe Z.K a cls d i fs t fo)) : PSs Z [.Return (some e) p1] (tFd Z.K a cls d i fs t fo) := pss_one (PS.imp (ps_ret h) fun D σ H q => q)
theorem fe_ifx {c : Expr} {j : Nat} {p7 : Pos} (hc : PT Z c (tTagT Z.K a cls d i fs t b)) (ha : PE Z (.Attribute (.Name x p4) f p5) (tHA Z.K a cls d i f)) :
    PE Z (.IfExp c (.Attribute (.Name x p4) f p5) (.Constant .none j p6) p7) (tFe Z.K a cls d i fs t (if b = true then some f else none)) := by
  refine PE.imp (pe_ifExp hc ha pe_non) fun σ H Q ⟨T, v, ok, q⟩ => ⟨T, fun H2 sm => ?_⟩
  cases b with
  | true =>
    rw [if_pos rfl] at ok
    exact ⟨ok.1, T.sl, fs, v, T.xd.same sm, ok.2, q H2 sm⟩
  | false =>
    rw [if_neg Bool.false_ne_true] at ok
    obtain rfl : v = .non := ok
    exact q H2 sm
end
end DM

/-! Lambdas without arguments: their making. -/
namespace DM
open PySem PySem.Spec PyProof.Rows L2 LamX

/-- a lambda of the text: its parameters (all with defaults, constants dvs), the names that it captures -/
structure LamT where
  params : Arguments
  body : Expr
  scope : Scope
  ps : List Str
  fr : List Str
  dvs : List V
abbrev lamFd (q : Str) (L : LamT) (cl : List (Str × Addr)) (dV pm cdv ctv : Value) : FuncData := { PySem.W.kla_fn "<lambda>" q L.params L.body L.scope cl pm cdv ctv with defaults := dV }
abbrev lamOb (q : Str) (L : LamT) (cl : List (Str × Addr)) (dV pm cdv ctv : Value) : Obj := { cls := .type "function", data := .func (lamFd q L cl dV pm cdv ctv) }
/-- the object at a is the lambda's function, its code object at c', its defaults dV -/
def FnL (a : Addr) (q : Str) (L : LamT) (cl : List (Str × Addr)) (dV : Value) (c' : Addr) : HO := .ext fun h => ∃ pm ctv : Value, h.get? a = some (lamOb q L cl dV pm (.ref c') ctv)
def DvAt (dV : Value) (dvs : List V) (H : Hp) : Prop := (dvs = [] ∧ dV = .none) ∨ (dvs ≠ [] ∧ ∃ T, dV = .ref T ∧ H T = some (.tup dvs))
theorem DvAt.up {dV : Value} {dvs : List V} {H H' : Hp} (e : Same H H') (h : DvAt dV dvs H) : DvAt dV dvs H' := h.imp id fun ⟨h1, T, h2, h3⟩ => ⟨h1, T, h2, e _ _ h3⟩
/-- the lambda L, its full name q, its captured cells cl: its function at a -/
def LamAt (q : Str) (cl : List (Str × Addr)) (L : LamT) (a : Addr) (H : Hp) : Prop := ∃ (c' : Addr) (dV : Value), H a = some (FnL a q L cl dV c') ∧ H c' = some (CodeO c' q) ∧ DvAt dV L.dvs H
theorem LamAt.up {q : Str} {cl : List (Str × Addr)} {L : LamT} {a : Addr} {H H' : Hp} (e : Same H H') (h : LamAt q cl L a H) : LamAt q cl L a H' := by
  obtain ⟨c', dV, h1, h2, h3⟩ := h
  exact ⟨c', dV, e _ _ h1, e _ _ h2, h3.up e⟩
abbrev lamQ (env : Env) : Str := env.qual ++ "<lambda>"
abbrev lamC (env : Env) (L : LamT) : List (Str × Addr) := cloFrom env.cells L.scope.names []
/-- what a def whose environment is env tells of its lambdas tx -/
def lmX (env : Env) (tx : Nat → Option LamT) : Lm := ⟨fun i a H => ∃ L, tx i = some L ∧ LamAt (lamQ env) (lamC env L) L a H, fun e ⟨L, h1, h2⟩ => ⟨L, h1, h2.up e⟩⟩
/-- what such a def tells besides: its lambdas, where its table of code objects stands -/
def lamJ (env : Env) (tx : Nat → Option LamT) (n : Nat) (P : Addr) : Jx := ⟨fun π _ => π.lm = lmX env tx ∧ π.pi[n]? = some P, fun w _ h => ⟨w.lm.trans h.1, pre_get w h.2⟩⟩

section
variable {M : Model} {A : Around} {E : Value → Shared → Prop} {s : Shared}
/-- a function's object is made of its parts, whatever its defaults -/
theorem lam_tail {q : Str} {L : LamT} {env : Env} {dV : Value} {c P : Addr} {ps : Array Value} {pos : Pos} {firstLine : Nat} {mg : Str → Option Value} {clos : List (Str × Addr)} {Q : Value → Shared → Prop}
    (hcl : closureFor L.scope env = pure clos) (hge : env.globals = mainGlobals) (hg : s.heap.Ns mainGlobals mg) (hcode : env.code = .ref c) (C : PySem.W.CodeHd s.heap c P) (hP : s.heap.get? P = some { cls := .none, data := .fields ps }) (ht : TriplesOk ps.toList) (hgP : mainGlobals ≠ P) (hb : s.heap.BuiltinsAt mg P)
    (h1 : codeAmong pos ps.toList = none → ∀ (c' : Addr) (pm ctv : Value) (h' : Heap) (tk : Nat), Heap.ExtBut P s.heap h' → s.heap.objs.size ≤ c' → c' < h'.objs.size → h'.CodeRec (.ref c') q → h'.get? P = some { cls := .none, data := .fields (ps ++ #[rawInt pos.line, rawInt pos.col, .ref c']) } →
      Q (.ref h'.objs.size) { s with heap := h'.push (lamOb q L clos dV pm (.ref c') ctv), toks := tk })
    (h2 : ∀ cv, codeAmong pos ps.toList = some cv → ∀ (pm ctv : Value) (h' : Heap) (tk : Nat), (∀ b o, s.heap.get? b = some o → h'.get? b = some o) → s.heap.objs.size ≤ h'.objs.size → Q (.ref h'.objs.size) { s with heap := h'.push (lamOb q L clos dV pm cv ctv), toks := tk }) :
    wpAny M A (makeTail "<lambda>" q L.params (.expr L.body) L.scope env dV .none none pos firstLine) Q E s := by
  obtain ⟨bm, ob, b1, b2, _, b3, b4, b5, b6, b7⟩ := hb
  -- behind the tuple of cells
  have go : ∀ (ctv : Value) (h₁ : Heap), (∀ a o, s.heap.get? a = some o → h₁.get? a = some o) → s.heap.objs.size ≤ h₁.objs.size → wpAny M A (do
      let cd ← functionCode env pos firstLine "<lambda>" q L.params L.scope (.expr L.body)
      let bt ← builtinsFor mainGlobals env.builtins
      let nm ← nsGet mainGlobals "__name__"
      let dc ← (pure Value.none : Sem Value)
      newObj (.type "function") (.func { name := "<lambda>", qualname := q, params := L.params, body := .expr L.body, scope := L.scope, globals := mainGlobals, closure := clos, closureTuple := ctv, code := cd, builtins := bt, defaults := dV, kwdefaults := .none, annotations := none, pyModule := nm.getD .none, doc := dc })) Q E { s with heap := h₁ } := fun ctv h₁ k₁ z₁ => by
    have P₁ := k₁ _ _ hP
    have C₁ := C.keeps k₁
    cases hc : codeAmong pos ps.toList with
    | none =>
      refine wpAny_bind (wpAny_functionCodeX hcode (C₁.code P₁ ht) (C₁.tab P₁) hc fun c' h₂ tk hx hge hlt _ hrec htb _ => ?_)
      have hx0 : Heap.ExtBut P s.heap h₂ := fun b o hb e => hx b o hb (k₁ _ _ e)
      have ns2 := hg.extBut hx0 hgP
      exact wpAny_bind (wpAny_builtinsFor ns2 b1 b2 (hx0 _ _ b3 b4) b5 b6 b7 (wpAny_bind (wpAny_nsGet ns2 (wpAny_bind (wpAny_pure (wpAny_newObj_type (h1 hc c' _ ctv h₂ tk hx0 (Nat.le_trans z₁ hge) hlt hrec htb.2) (by size_fits)))))))
    | some cv =>
      refine wpAny_bind (wpAny_functionCode_hit hcode (C₁.code P₁ ht) hc ?_)
      have ns2 := hg.keeps k₁
      exact wpAny_bind (wpAny_builtinsFor ns2 b1 b2 (k₁ _ _ b4) b5 b6 b7 (wpAny_bind (wpAny_nsGet ns2 (wpAny_bind (wpAny_pure (wpAny_newObj_type (h2 cv hc _ ctv h₁ s.toks k₁ z₁) (by size_fits)))))))
  unfold makeTail
  rw [hcl, hge]
  refine wpAny_bind (wpAny_pure ?_)
  cases clos with
  | nil => exact wpAny_bind (wpAny_pure (go .none s.heap (fun _ _ e => e) (Nat.le_refl _)))
  | cons x r => exact wpAny_bind (wpAny_newTextTuple (go _ _ (fun a o e => Heap.get?_push_of_some _ e) (by rw [Heap.size_push]; omega)))
end
end DM

/-! A lambda is made: data of its own. -/
namespace DM
open PySem PySem.Spec PyProof.Rows L2 LamX

/-- the table of code objects stands at place n -/
def fLam (n : Nat) (q : Str) (i : Nat) : Fe := fun _ m => match cell m n with
  | some (.tbl q') => if q' = q then .ok (.lam i) m else .bad
  | _ => .bad
section
variable {X : Cx} {cn : Str → Addr} {E : XKS}
theorem fnl_ok {P : Program} {w : World} {H : Hp} {h : Heap} {q : Str} {L : LamT} {cl : List (Str × Addr)} {dV pm ctv : Value} {a c' : Addr} (e : h.get? a = some (lamOb q L cl dV pm (.ref c') ctv)) : ObjOk P w H h a (FnL a q L cl dV c') :=
  ⟨⟨pm, ctv, e⟩, ⟨_, e⟩, fun h1 h2 ⟨p, t, z⟩ st => ⟨p, t, st _ z⟩⟩
/-- a function made of a lambda's parts, over data -/
theorem lam_made {L : LamT} {pins : List (Addr × Obj)} {σ : L2.St} {H : Hp} {s : Shared} {π : Wv} {m : Mir} {Gg : Gx} {c P : Addr} {n : Nat} {q : Str} {dV : Value} {pos : Pos} {Ex : Value → Shared → Prop} {Q : Value → Shared → Prop} (I : Inv X pins σ H s) (TB : TabB X.base X.mg c P) (hcode : X.env.code = .ref c)
    (hfree : ∀ y ∈ L.scope.names, y.2 = .free → ∃ c, X.env.cells.lookup y.1 = some c) (k : MOk Gg π H m) (hc : cell m n = some (.tbl q)) (hP : π.pi[n]? = some P) (hq : X.env.qual ++ "<lambda>" = q) (hd : DvAt dV L.dvs (hid (lv π m) H))
    (h : ∀ (a : Addr) (H1 : Hp) (s1 : Shared), Inv X pins σ H1 s1 → Go Gg π m H π m H1 → LamAt (lamQ X.env) (lamC X.env L) L a (hid (lv π m) H1) → Q (.ref a) s1) :
    wpAny (model X.prog X.w) X.A (makeTail "<lambda>" (X.env.qual ++ "<lambda>") L.params (.expr L.body) L.scope X.env dV .none none pos pos.line) Q Ex s := by
  subst hq
  obtain ⟨ps, hT, ht, hcodes⟩ := k.cel n _ P (cell_iff.mp hc) hP
  have obP : s.heap.get? P = some { cls := .none, data := .fields ps } := I.hok P _ hT
  -- behind the code object: the function's own object
  have last : ∀ {H2 : Hp} {s2 : Shared} {pm ctv : Value} {c' : Addr} {tk : Nat}, Inv X pins σ H2 s2 → Go Gg π m H π m H2 → hid (lv π m) H2 c' = some (CodeO c' (X.env.qual ++ "<lambda>")) →
      Q (.ref s2.heap.objs.size) { s2 with heap := s2.heap.push (lamOb (X.env.qual ++ "<lambda>") L (cloFrom X.env.cells L.scope.names []) dV pm (.ref c') ctv), toks := tk } := fun {H2 s2 pm ctv c' tk} I2 g2 hc' => by
    have new := I2.hok.fresh (Nat.le_refl _)
    have I3 := I2.laid (t' := tk) (h' := s2.heap.push (lamOb (X.env.qual ++ "<lambda>") L (cloFrom X.env.cells L.scope.names []) dV pm (.ref c') ctv)) (fun b o e => Heap.get?_push_of_some _ e) (Nat.le_refl _) (fnl_ok (Heap.get?_push_size _ rfl))
    have g3 := g2.new (same_new (o := FnL s2.heap.objs.size (X.env.qual ++ "<lambda>") L (cloFrom X.env.cells L.scope.names []) dV c') new)
    have up : Same (hid (lv π m) H2) (hid (lv π m) (upd H2 s2.heap.objs.size (FnL s2.heap.objs.size (X.env.qual ++ "<lambda>") L (cloFrom X.env.cells L.scope.names []) dV c'))) := hid_same fun b o _ e => same_new new b o e
    refine h _ _ _ I3 g3 ⟨c', dV, hid_some.mpr ⟨g2.ok.fresh new, upd_same⟩, up _ _ hc', (hd.up g2.ex.same).up up⟩
  refine lam_tail (closure_ok hfree) I.ok.glob (I.mod.glob.keeps I.bk) hcode (TB.code.keeps I.bk) obP ht TB.gP (TB.bm.keeps I.bk) (fun hnf c' pm ctv h' tk hx hge hlt hrec htb => ?_) fun cv hf pm ctv h' tk hk hsz => ?_
  · obtain ⟨c2, oc, vs, t, e2, hoc, hdat, hv⟩ := hrec
    cases e2
    have nC : H c' = none := I.hok.fresh hge
    have nPc : P ≠ c' := ne_of_none hT nC
    have I2 := inv_table (t' := tk) (q := X.env.qual ++ "<lambda>") (more := #[rawInt pos.line, rawInt pos.col, .ref c']) (h' := h') I hT (fun b o hb e => hx b o hb e) htb hge ⟨oc, vs, t, hoc, hdat, hv⟩
    have g1 : Go Gg π m H π m (upd H c' (CodeO c' (X.env.qual ++ "<lambda>"))) := Go.of k (same_new nC)
    have free : lv π m c' = false := k.fresh nC
    have known : hid (lv π m) (upd H c' (CodeO c' (X.env.qual ++ "<lambda>"))) c' = some (CodeO c' (X.env.qual ++ "<lambda>")) := hid_some.mpr ⟨free, upd_same⟩
    have g2 := g1.ok.put (o := .tbl (ps ++ #[rawInt pos.line, rawInt pos.col, .ref c'])) (cell_iff.mp hc) hP (show Top (Gg.at π) _ (hid (lv π m) (upd H c' (CodeO c' (X.env.qual ++ "<lambda>")))) (.tbl (X.env.qual ++ "<lambda>")) P from by
      refine ⟨_, upd_same, ?_, fun p' cv' hcv => ?_⟩
      · rw [show (ps ++ #[rawInt pos.line, rawInt pos.col, .ref c']).toList = ps.toList ++ [rawInt pos.line, rawInt pos.col, .ref c'] from by simp]
        exact PySem.TriplesOk_snoc _ _ _ _ ht
      · rw [show (ps ++ #[rawInt pos.line, rawInt pos.col, .ref c']).toList = ps.toList ++ [rawInt pos.line, rawInt pos.col, .ref c'] from by simp] at hcv
        rcases among_app _ ht hcv with z | z
        · obtain ⟨c0, e1, e2⟩ := hcodes p' cv' z
          exact ⟨c0, e1, g1.ex.same _ _ e2⟩
        · exact ⟨c', z, known⟩)
    rw [set_back (cell_iff.mp hc)] at g2
    have eH : upd (upd H c' (CodeO c' (X.env.qual ++ "<lambda>"))) P (.tbl (ps ++ #[rawInt pos.line, rawInt pos.col, .ref c'])) = upd (upd H P (.tbl (ps ++ #[rawInt pos.line, rawInt pos.col, .ref c']))) c' (CodeO c' (X.env.qual ++ "<lambda>")) := funext fun b => by
      by_cases h1 : b = P
      · rw [h1, upd_same, upd_ne nPc, upd_same]
      · by_cases h2 : b = c'
        · rw [h2, upd_ne (Ne.symm nPc), upd_same, upd_same]
        · rw [upd_ne h1, upd_ne h2, upd_ne h2, upd_ne h1]
    rw [eH] at g2
    exact last I2 (g1.trans g2) (g2.ex.same _ _ known)
  · obtain ⟨c', rfl, hcc⟩ := hcodes pos cv hf
    exact last (s2 := { s with heap := h', toks := s.toks }) (I.kept hk) (Go.refl k) hcc
/-- what a lambda asks of the def that makes it -/
structure LamHere (X : Cx) (tx : Nat → Option LamT) (i : Nat) (L : LamT) (q : Str) (c P : Addr) : Prop where
  tb : TabB X.base X.mg c P
  code : X.env.code = .ref c
  tx : tx i = some L
  fr : ∀ y ∈ L.scope.names, y.2 = .free → ∃ c, X.env.cells.lookup y.1 = some c
  q : X.env.qual ++ "<lambda>" = q
theorem post_lam {tx : Nat → Option LamT} {i n : Nat} {L : LamT} {q : Str} {c P : Addr} {pins : List (Addr × Obj)} {σ : L2.St} {H : Hp} {s : Shared} {π : Wv} {m : Mir} {dV : Value} {pos : Pos} {Ex : Value → Shared → Prop} {Q : VK} {E1 : XK} (T : LamHere X tx i L q c P) (I : Inv X pins σ H s)
    (k : MOk (gx X.K ⟨cn, lamJ X.env tx n P⟩) π H m) (inv : (lamJ X.env tx n P).p π (hid (lv π m) H)) (hc : cell m n = some (.tbl q)) (hd : DvAt dV L.dvs (hid (lv π m) H)) (p : Post (gx X.K ⟨cn, lamJ X.env tx n P⟩) E1 π m H Q (.ok (.lam i) m)) :
    wpAny (model X.prog X.w) X.A (makeTail "<lambda>" (X.env.qual ++ "<lambda>") L.params (.expr L.body) L.scope X.env dV .none none pos pos.line) (EP X pins σ Q) Ex s := by
  refine lam_made I T.tb T.code T.fr k hc inv.2 T.q hd fun a H1 s1 I1 g la => ⟨.ref a, H1, I1, rfl, p π (.ref a) H1 g ⟨a, rfl, ?_⟩⟩
  show π.lm.p i a _
  rw [inv.1]
  exact ⟨L, T.tx, la⟩
theorem lift_lam {tx : Nat → Option LamT} {n i : Nat} {q : Str} {P : Addr} {σ : L2.St} {H : Hp} {Q : VK} (h : tD (gx X.K ⟨cn, lamJ X.env tx n P⟩) E (fLam n q i) σ H Q) :
    ∃ π m, MOk (gx X.K ⟨cn, lamJ X.env tx n P⟩) π H m ∧ (lamJ X.env tx n P).p π (hid (lv π m) H) ∧ cell m n = some (.tbl q) ∧ Post (gx X.K ⟨cn, lamJ X.env tx n P⟩) (E σ) π m H Q (.ok (.lam i) m) := by
  obtain ⟨π, δ, m, a, p⟩ := h
  unfold fLam at p
  cases hc : cell m n with
  | none => rw [hc] at p; exact False.elim p
  | some d =>
    rw [hc] at p
    cases d with
    | tbl q' =>
      simp only at p
      by_cases e : q' = q
      · rw [if_pos e] at p
        exact ⟨π, m, a.mok, a.inv, by rw [hc, e], p⟩
      · rw [if_neg e] at p; exact False.elim p
    | _ => exact False.elim p
theorem de_lam0 {tx : Nat → Option LamT} {n i : Nat} {L : LamT} {q : Str} {c P : Addr} {pos : Pos} (T : LamHere X tx i L q c P) (hdef : defaultsOf L.params X.env = ([], [])) (hdv : L.dvs = []) :
    DE X ⟨cn, lamJ X.env tx n P⟩ E (.Lambda L.params L.body L.scope pos) (fLam n q i) := by
  refine ⟨fun pins s σ H Q I h => ?_⟩
  obtain ⟨π, m, k, inv, hc, p⟩ := lift_lam h
  refine PySem.W.kla_eval hdef ?_
  rw [makeFunction_eq]
  simp only [List.zip_nil_right, List.filterMap_nil, List.isEmpty_nil, if_true, pure_bind]
  exact post_lam T I k inv hc (.inl ⟨hdv, rfl⟩) p
theorem de_lam1 {tx : Nat → Option LamT} {n i : Nat} {L : LamT} {q : Str} {c P : Addr} {pos : Pos} {e : Expr} {v : V} (T : LamHere X tx i L q c P) (hdef : defaultsOf L.params X.env = ([eval e X.env], [])) (he : PE X e (tC v)) (hdv : L.dvs = [v]) :
    DE X ⟨cn, lamJ X.env tx n P⟩ E (.Lambda L.params L.body L.scope pos) (fLam n q i) := by
  refine ⟨fun pins s σ H Q I h => ?_⟩
  obtain ⟨π, m, k, inv, hc, p⟩ := lift_lam h
  rw [arm_eval_Lambda, hdef]
  refine wpAny_bind (wpAny_bind (L2.thn (he.run pins s σ H (fun w H1 => w = v ∧ H1 = H) I ⟨rfl, rfl⟩) fun u s1 ⟨w, H1, I1, rw_, ew, eh⟩ => ?_))
  subst ew eh
  refine wpAny_bind (wpAny_holding (wpAny_pure (wpAny_pure (wpAny_bind (wpAny_holding (wpAny_pure ?_))))))
  rw [makeFunction_eq]
  simp only [List.zip_nil_right, List.filterMap_nil, List.isEmpty_nil, List.isEmpty_cons, Bool.false_eq_true, if_false, if_true, pure_bind]
  refine wpAny_bind (wpAny_newTextTuple ?_)
  have new := I1.hok.fresh (Nat.le_refl _)
  have I2 := I1.laid (t' := s1.toks) (h' := s1.heap.push { cls := .type "tuple", data := .seq [u].toArray }) (o := .tup [w]) (fun b o z => Heap.get?_push_of_some _ z) (Nat.le_refl _) ⟨by rw [sizeLine_eq]; show 1 ≤ 16777216; decide, [u], .cons rw_ .nil, ⟨_, Heap.get?_push_size _ rfl, rfl, _, rfl⟩⟩
  have g := Go.of k (same_new (o := .tup [w]) new)
  refine post_lam T I2 g.ok ((lamJ X.env tx n P).up g.ex.pre g.ex.same inv) hc (.inr ⟨by rw [hdv]; simp, _, rfl, ?_⟩) (Post.from_ g p)
  rw [hdv]
  exact hid_some.mpr ⟨k.fresh new, upd_same⟩
end
end DM

/-! A lambda is called, in a def that got it. -/
namespace DM
open PySem PySem.Spec PyProof.Rows L2 LamX

/-! ### the captured cells -/
section
variable {X : Cx} {pins : List (Addr × Obj)} {σ : L2.St} {H HZ : Hp} {s : Shared} {h : Heap} {L : LamT} {fs : List Addr}
/-- the names that it captures, by their slots -/
structure Caps (X : Cx) (L : LamT) (cs : List Nat) : Prop where
  len : cs.length = L.fr.length
  ix : ∀ (j i : Nat) (y : Str), cs[j]? = some i → L.fr[j]? = some y → X.N[i]? = some y
  kd : ∀ y ∈ L.fr, X.env.scope.names.lookup y = some .cell ∨ X.env.scope.names.lookup y = some .free
  fr : ∀ y ∈ L.scope.names, y.2 = .free → X.env.scope.names.lookup y.1 = some .cell ∨ X.env.scope.names.lookup y.1 = some .free
  of : ∀ y ∈ L.fr, (y, NameKind.free) ∈ L.scope.names
def capV (cs : List Nat) (σ : L2.St) : List (Option V) := cs.map fun i => (σ[i]?).join
theorem lamC_look {env : Env} {y : Str} {c : Addr} (hf : ∀ y ∈ L.scope.names, y.2 = .free → ∃ c, env.cells.lookup y.1 = some c) (e : (lamC env L).lookup y = some c) : env.cells.lookup y = some c := by
  rcases cloFrom_mem (PySem.mem_of_lookup e) with hm | ⟨h1, h2⟩
  · cases hm
  · obtain ⟨c1, hc⟩ := hf _ h1 rfl
    have hc : env.cells.lookup y = some c1 := hc
    have e2 : c = c1 := by rw [h2, hc]; rfl
    rw [e2]
    exact hc
theorem Caps.has (C : Caps X L cs) (ok : X.Ok) : ∀ y ∈ L.scope.names, y.2 = .free → ∃ c, X.env.cells.lookup y.1 = some c := fun y hy e => (C.fr y hy e).elim (fun z => ok.has _ (.inl z)) fun z => ok.has _ (.inr z)
theorem Caps.at (C : Caps X L cs) (I : Inv X pins σ H s) : NdefX.CellsAt (lamC X.env L) L.fr (capV cs σ) s.heap H := by
  have hf := C.has I.ok
  refine ⟨by unfold capV; rw [List.length_map, C.len], fun y c e => ?_, fun x y c e1 e2 => I.ok.inj x y c (lamC_look hf e1) (lamC_look hf e2), fun j y hy => ?_⟩
  · have e1 := lamC_look hf e
    exact ⟨I.freeC y c e1, I.cell y c e1⟩
  · have hm := List.mem_of_getElem? hy
    obtain ⟨c, hc⟩ := mem_lookup (cloFrom_has (cells := X.env.cells) (acc := []) (C.of y hm))
    have e1 := lamC_look hf hc
    refine ⟨c, hc, fun v hv => ?_⟩
    unfold capV at hv
    rw [List.getElem?_map] at hv
    cases hj : cs[j]? with
    | none => rw [hj] at hv; cases hv
    | some i =>
      rw [hj] at hv
      have hv : (σ[i]?).join = some v := Option.some.inj hv
      have hσ : σ[i]? = some (some v) := by
        cases q : σ[i]? with
        | none => rw [q] at hv; cases hv
        | some w =>
          rw [q] at hv
          have hv : w = some v := hv
          rw [hv]
      obtain ⟨m, _, hl⟩ := I.loc
      obtain ⟨u, ru, lu⟩ := hl i y v (C.ix j i y hj hy) hσ ((C.kd y hm).elim (fun z => .inr (.inl z)) fun z => .inr (.inr z))
      rcases lu with ⟨z, _⟩ | ⟨_, c2, hc2, hcell⟩
      · have z : X.env.scope.names.lookup y = some .local := z
        rcases C.kd y hm with k | k <;> rw [k] at z <;> cases z
      · rw [e1] at hc2
        cases hc2
        exact ⟨u, ru, hcell⟩
theorem cells_un {cl : List (Str × Addr)} {fr : List Str} {ws : List (Option V)} (C : NdefX.CellsAt cl fr ws s.heap H) (un : Un fs [] H HZ s.heap h) : NdefX.CellsAt cl fr ws h HZ := by
  have keep : ∀ {c : Addr} {v : Option Value}, H c = none → s.heap.IsCell c v → h.IsCell c v := fun {c v} n ⟨o, ho, hd⟩ => by
    obtain ⟨sl, q⟩ := un.any ho n (by simp)
    exact ⟨_, q, hd⟩
  refine ⟨C.len, fun y c e => ?_, C.inj, fun i y hy => ?_⟩
  · obtain ⟨h1, v, o, ho, hd⟩ := C.all y c e
    exact ⟨un.free c o ho h1 (by simp), v, keep h1 ⟨o, ho, hd⟩⟩
  · obtain ⟨c, hc, hv⟩ := C.has i y hy
    refine ⟨c, hc, fun v e => ?_⟩
    obtain ⟨u, ru, z⟩ := hv v e
    exact ⟨u, ru, keep (C.all y c hc).1 z⟩
end

/-! ### the call -/
/-- how its own names and its defaults stand -/
structure LamB (L : LamT) : Prop where
  sc : NdefX.NScope (L.ps ++ L.fr) L.ps L.fr L.scope
  dl : L.ps.length = L.dvs.length
  b0 : L.dvs = [] → ∀ (q : Str) (cl : List (Str × Addr)) (pm cdv ctv : Value), bindArgs (lamFd q L cl .none pm cdv ctv) ⟨[], []⟩ = pure []
  b1 : L.dvs ≠ [] → ∀ (q : Str) (cl : List (Str × Addr)) (T : Addr) (pm cdv ctv : Value) (its : List Value), its.length = L.dvs.length → ∃ k, bindArgs (lamFd q L cl (.ref T) pm cdv ctv) ⟨[], []⟩ = seqItems? (.ref T) >>= k ∧ k (some its.toArray) = pure (L.ps.zip its)
abbrev lamNF (q : Str) (cl : List (Str × Addr)) (L : LamT) (c' : Addr) : NdefX.NF := ⟨"<lambda>", q, L.params, [], L.scope, cl, c'⟩
section
variable {P : Program} {w : World} {K : PySem.W.Frag} {mg : Str → Option Value} {base : Heap} {L : LamT} {q : Str} {cl : List (Str × Addr)} {ws : List (Option V)} {f : Addr} {A : Around} {outer : List Env} {s : Shared} {H : Hp} {k : Nat} {tb : TE} {Q : VK} {E : XK}
theorem lam_run (B : LamB L) (hl : LamAt q cl L f H) (C : NdefX.CellsAt cl L.fr ws s.heap H) (hr : Room (k + 1) A) (e0 : Env0 P w K mg base A outer s H)
    (hb : ∀ (c' : Addr) (A' : Around), Room k A' → A' = A.deeper (NdefX.envF (lamNF q cl L c') f s.heap.objs.size) → PE (NdefX.ncx (L2N.CX P w) P w K mg base (L.ps ++ L.fr) (lamNF q cl L c') f A outer s H E) L.body tb)
    (h : tb (NdefX.startF (L.ps ++ L.fr) L.dvs ws) H Q) : codeAny (model P w) A (.call (.ref f) ⟨[], []⟩) (CR (L2N.CX P w) outer P w H s Q E) s := by
  obtain ⟨c', dV, hf, hc, hd⟩ := hl
  obtain ⟨⟨pm, ctv, of⟩, _, _⟩ := e0.hok f _ hf
  have lim : s.heap.NoLimit := e0.mod.nolimit.keeps fun b o e => (e0.bs b o e).1
  refine PySem.W.kla_callFunE hr.depth of rfl B.sc.co B.sc.gen rfl (NdefX.codeO_at e0.hok hc) ?_
  -- behind the binding
  have go : ∀ us : List Value, Vals L.dvs us → wpAny (model P w) A.in1 (newFunctionEnv L.scope mainGlobals cl (L.ps.zip us) (q ++ ".<locals>.") (some f) (.ref c') none builtinsNs)
      (fun env s₂ => s₂.heap.NoLimit ∧ codeAny (model P w) A (.expr L.body env) (CR (L2N.CX P w) outer P w H s Q E) s₂) (fun e s' => CR (L2N.CX P w) outer P w H s Q E (.error e) s') s := fun us r => by
    refine wpAny_newFunctionEnv B.sc.nocell (fun y hy => B.sc.par y.1 (List.of_mem_zip hy).1) (fun h₁ hns hsb => ⟨lim.fresh _ hsb, ?_⟩) B.sc.kind
    have kp : ∀ b o, s.heap.get? b = some o → h₁.get? b = some o := fun b o e => hsb.extBut b o (Nat.ne_of_lt (Heap.lt_size e)) (Heap.get?_push_of_some _ e)
    have J := NdefX.inv_startN (CX := L2N.CX P w) (E := E) (f := f) (F := lamNF q cl L c') (tk := s.toks + (L.ps.zip us).length) B.sc hr.hd e0 B.dl.symm r C hns kp
    refine PySem.W.kla_codeExpr (wpAny_mono ((hb c' _ (hr.deeper _) rfl).run [] _ _ H Q J h) (fun v s' hq => ?_) fun e s' hq => hq)
    obtain ⟨w', H', J', rv, q'⟩ := hq
    exact ⟨w', H', J'.os, J'.bare, J'.base, J'.hok, rv, q'⟩
  rcases hd with ⟨hd, rfl⟩ | ⟨hd, T, rfl, hT⟩
  · rw [B.b0 hd]
    refine wpAny_pure ?_
    have z := go [] (by rw [hd]; exact .nil)
    rw [show L.ps.zip ([] : List Value) = [] from List.zip_nil_right] at z
    exact z
  · obtain ⟨_, its, rv, ob, g1, g2, n, g3⟩ := e0.hok T _ hT
    obtain ⟨kk, e1, e2⟩ := B.b1 hd q cl T pm (.ref c') ctv its rv.length.symm
    rw [e1]
    refine wpAny_bind (wpAny_seqItems g1 g3 ?_)
    rw [e2]
    exact wpAny_pure (go its rv)
end
section
variable {Z : Cx} {L : LamT} {q a : Str} {cl : List (Str × Addr)} {ws : List (Option V)} {f : Addr} {k i : Nat} {tb : TE} {E : XK} {W : WX} {p1 p2 : Pos}
/-- a(), a the lambda that the def got -/
theorem pe_ask (B : LamB L) (hs : Z.ex = []) (C : NdefX.CellsAt cl L.fr ws Z.s_0.heap Z.H_0) (hr : Room (k + 1) Z.A) (tk : L2N.Takes Z W)
    (hb : ∀ (outer : List Env) (s : Shared) (H : Hp) (c' : Addr) (A' : Around), Room k A' → A' = Z.A.deeper (NdefX.envF (lamNF q cl L c') f s.heap.objs.size) → PE (NdefX.ncx (L2N.CX Z.prog Z.w) Z.prog Z.w Z.K Z.mg Z.base (L.ps ++ L.fr) (lamNF q cl L c') f Z.A outer s H E) L.body tb)
    (hN : Z.N[i]? = some a) (hv : Vis Z.env.scope a) (hd : (a == ("__debug__" : Str)) = false) (hcd : (a == ("__classdict__" : Str)) = false) :
    PE Z (.Call (.Name a p1) [] [] p2) (fun σ H Q => σ[i]? = some (some (.ref f)) ∧ LamAt q cl L f H ∧ (∀ cls d H', E cls d H' → W cls d σ H') ∧ tb (NdefX.startF (L.ps ++ L.fr) L.dvs ws) H Q) := by
  refine ⟨fun pins s σ H Q I ⟨h1, h2, hW, h3⟩ => ?_⟩
  refine wpAny_Call_Name_kw (L2.thn ((pe_var (pos := p1) hN hv hd hcd).run pins s σ H (fun v H1 => v = .ref f ∧ H1 = H) I ⟨.ref f, h1, rfl, rfl⟩) fun u s1 ⟨v, H1, I1, rv, ev, eh⟩ => ?_)
  subst ev eh
  obtain rfl : u = Value.ref f := rv
  have at1 := h2
  obtain ⟨c', dV, hf, _, _⟩ := at1
  obtain ⟨⟨pm, ctv, of⟩, _, _⟩ := I1.hok f _ hf
  have un := I1.base
  rw [hs] at un
  have run := lam_run (Q := Q) B h2 (cells_un C un) hr I1.env0 (hb Z.stack s1 H1) h3
  refine PySem.W.callWith_F0 ⟨_, _, _, _, of⟩ (wpAny_call (codeAny_mono run fun r s' hq => ?_))
  cases r with
  | error e => exact tk _ _ (L2N.XE.of_call I1 hW hq)
  | ok fl =>
    cases fl with
    | ret u => exact I1.after hq
    | next => exact False.elim hq
    | brk => exact False.elim hq
    | cont => exact False.elim hq
end
end DM

/-! A def that calls the lambda that it got and tells the error that comes: («value», v) or (tag, field). -/
namespace DM
open PySem PySem.Spec PyProof.Rows L2 LamX

/-! ### what is told of an error -/
def excT (x : Exn) : Option Str := match lkD "tag" x.ns x.ds with
  | some (.str t) => some t
  | _ => none
def hdl (cs fs : List Str) (fn : Str → Option Str) (x : Exn) (m : Mir) : Rs D := if hasC x.c cs = true then (match excT x with
  | some t => (match fn t with
    | some f => if hasC f fs = true then (match lkD f x.ns x.ds with
      | some d => .ok (.tup [.str t, d]) m
      | none => .bad) else .bad
    | none => .ok (.tup [.str t, .non]) m)
  | none => .bad) else .bad
/-- what a class of cs gives: one of the three takes it, its objects' attributes fs lie in their dict -/
structure ErF (K : PySem.W.Frag) (cn : Str → Addr) (C1 C2 C3 : Addr) (cs fs : List Str) : Prop where
  ex : ∀ c, hasC c cs = true → PySem.W.exmAny K (.ref (cn c)) [.ref C1, .ref C2, .ref C3] = some true
  at_ : ∀ c f, hasC c cs = true → hasC f fs = true → Xcl K (.ref (cn c)) f
  tag : hasC "tag" fs = true
/-- the wish of an exception that is told -/
def Ech (K : PySem.W.Frag) (C1 C2 C3 : Addr) (fn : Str → Option Str) (R : VK) : XK := fun cls d H => PySem.W.exmAny K cls [.ref C1, .ref C2, .ref C3] = some true ∧ ∃ (fs : List (Str × V)) (t : Str) (v : V),
  Xd d fs H ∧ fs.lookup ("tag" : Str) = some (V.str t) ∧ Xcl K cls "tag" ∧ t.length ≤ sizeLine ∧ Okv K cls fs (fn t) v ∧ ∀ H2, Same H H2 → ∀ p, H2 p = none → R (.ref p) (upd H2 p (.tup [.str t, v]))
section
variable {G : Gx} {π : Wv} {m m1 : Mir} {H : Hp} {R : VK} {C1 C2 C3 : Addr} {cs fs : List Str} {fn : Str → Option Str} {x : Exn}
theorem told_exc (T : ErF G.K G.cn C1 C2 C3 cs fs) {F : XK} (p : Post G F π m H R (hdl cs fs fn x m1)) : Post G (Ech G.K C1 C2 C3 fn R) π m H (fun _ _ => False) (.exc x m1) := by
  intro π2 cls dd H2 go ⟨ecls, hx⟩
  have ecls : cls = .ref (G.cn x.c) := ecls
  subst ecls
  unfold hdl at p
  by_cases hc : hasC x.c cs = true
  · rw [if_pos hc] at p
    refine ⟨T.ex _ hc, ?_⟩
    cases ht : excT x with
    | none => rw [ht] at p; exact p.elim
    | some t =>
      rw [ht] at p
      unfold excT at ht
      have lt : lkD "tag" x.ns x.ds = some (.str t) := by
        cases q : lkD "tag" x.ns x.ds with
        | none => rw [q] at ht; cases ht
        | some y =>
          rw [q] at ht
          cases y <;> first | (cases ht; done) | skip
          cases ht
          rfl
      rcases hx with ⟨_, e1, e2⟩ | ⟨d, xs, e1, e2, e3⟩
      · rw [e1, e2] at lt
        cases lt
      obtain ⟨u, l1, l2⟩ := lk_some e3 lt
      obtain ⟨rfl, hsz⟩ := (show u = .str t ∧ t.length ≤ sizeLine from l2)
      have fin : ∀ {v : V} {d2 : DM.D}, Rep (G.at π2) (hid (lv π2 m1) H2) d2 v → Post G F π m H R (.ok (.tup [.str t, d2]) m1) → ∀ H3, Same H2 H3 → ∀ p, H3 p = none → R (.ref p) (upd H3 p (.tup [.str t, v])) := fun {v d2} rv p H3 sm q hq => by
        have g3 := go.new sm
        have g4 := g3.new (same_new (o := .tup [.str t, v]) hq)
        exact p π2 _ _ g4 (rep_tup hq (g3.ok.fresh hq) ⟨_, _, rfl, ⟨rfl, hsz⟩, RepAll.one (Rep.mono (hid_same fun b o _ e => sm b o e) d2 rv)⟩)
      simp only at p
      cases hf : fn t with
      | none =>
        rw [hf] at p
        exact ⟨_, t, .non, ⟨d, e1, hid_self _ _ e2⟩, l1, T.at_ _ _ hc T.tag, hsz, by rw [hf]; rfl, fin (d2 := .non) rfl p⟩
      | some f =>
        rw [hf] at p
        simp only at p
        by_cases hff : hasC f fs = true
        · rw [if_pos hff] at p
          cases hl : lkD f x.ns x.ds with
          | none => rw [hl] at p; exact p.elim
          | some d2 =>
            rw [hl] at p
            obtain ⟨v, k1, k2⟩ := lk_some e3 hl
            exact ⟨_, t, v, ⟨d, e1, hid_self _ _ e2⟩, l1, T.at_ _ _ hc T.tag, hsz, by rw [hf]; exact ⟨T.at_ _ _ hc hff, k1⟩, fin k2 p⟩
        · rw [if_neg hff] at p; exact p.elim
  · rw [if_neg hc] at p; exact p.elim
end

/-! ### the except suite: return (e.tag, field(e)) -/
def tSu (K : PySem.W.Frag) (i : Nat) (fn : Str → Option Str) (a : Addr) (cls : Value) (d : Option Addr) : TS := fun D σ H => ∃ (fs : List (Str × V)) (t : Str) (v : V), Tg K a cls d i fs t σ H ∧ Okv K cls fs (fn t) v ∧ ∀ H2, Same H H2 → ∀ p, H2 p = none → D.rt (.ref p) (upd H2 p (.tup [.str t, v]))
section
variable {Z : Cx} {i k : Nat} {e x : Str} {fn : Str → Option Str} {p1 p2 p3 p4 p5 p6 p7 : Pos} {x0 : Nat}
/-- the parts of a clause that tells the error -/
structure TellS (Z : Cx) (i k : Nat) (e x : Str) (fn : Str → Option Str) (tg : Expr) (cl : Expr) : Prop where
  st : ∀ (a : Addr) (oe : Obj) (pn : List (Addr × Obj)) (cls : Value) (d : Option Addr) (fs : List (Str × V)) (t : Str), Hot (Z.suite a ((a, oe) :: pn)) a oe → Zc cls d oe → (∃ vs : Array Value, oe.data = .fields vs ∧ vs[2]? = some .none) →
    PE (Z.suite a ((a, oe) :: pn)) tg (tHA Z.K a cls d i "tag") ∧ PE (Z.suite a ((a, oe) :: pn)) cl (tFe Z.K a cls d i fs t (fn t))
theorem suite_ok {tg cl : Expr} (T : TellS Z i k e x fn tg cl) (hs : ∀ (a : Addr) (oe : Obj) (pn : List (Addr × Obj)), starEach [tg, cl] Z.env = (false, eval tg Z.env) :: starEach [cl] Z.env ∧ starEach [cl] Z.env = (false, eval cl Z.env) :: starEach [] Z.env) :
    ∀ (a : Addr) (oe : Obj) (cls : Value) (d : Option Addr) (pn : List (Addr × Obj)), L2N.Zn cls d oe → (∃ vs, oe.data = .fields vs) → PSs (Z.suite a ((a, oe) :: pn)) [.Return (some (.Tuple [tg, cl] x0 p6)) p7] (tSu Z.K i fn a cls d) := by
  intro a oe cls d pn hz hd
  have hot : Hot (Z.suite a ((a, oe) :: pn)) a oe := ⟨rfl, List.mem_cons_self .., hd⟩
  obtain ⟨vs, hv⟩ := hd
  refine ⟨fun pins s σ H D I ⟨fs, t, v, T0, ok, q⟩ => ?_⟩
  obtain ⟨s1, s2⟩ := T.st a oe pn cls d fs t hot hz.zc ⟨vs, hv, hz.2.2 vs hv⟩
  have body : PSs (Z.suite a ((a, oe) :: pn)) [.Return (some (.Tuple [tg, cl] x0 p6)) p7] _ := pss_one (ps_ret (pe_tup (pa_cons s1 (pa_cons s2 pa_nil (hs a oe pn).2) (hs a oe pn).1)))
  refine body.run pins s σ H D I ⟨T0.cl, T0.sl, fs, .str t, T0.xd, T0.tg, T0, v, ok, fun H2 sm => ⟨by rw [sizeLine_eq]; show 2 ≤ 16777216; decide, fun p hp => q H2 sm p hp⟩⟩
end
end DM

/-! why(ask), got(ask): their bodies, what they promise. -/
namespace DM
open PySem PySem.Spec PyProof.Rows L2 LamX

/-- the lambda's body over data -/
def LamDE (P : Program) (w : World) (K : PySem.W.Frag) (mg : Str → Option Value) (base : Heap) (cn : Str → Addr) (kk : Nat) (L : LamT) (b : Fe) : Prop :=
  ∀ (q : Str) (cl : List (Str × Addr)) (f : Addr) (A : Around) (outer : List Env) (s : Shared) (H : Hp) (c' : Addr) (E : XK) (A' : Around), Room kk A' → A' = A.deeper (NdefX.envF (lamNF q cl L c') f s.heap.objs.size) →
    DE (NdefX.ncx (L2N.CX P w) P w K mg base (L.ps ++ L.fr) (lamNF q cl L c') f A outer s H E) (c0 cn) (fun _ => E) L.body b
/-- a def that takes a lambda: RR, what it makes of the lambda's result -/
def LamGives (P : Program) (w : World) (K : PySem.W.Frag) (mg : Str → Option Value) (base : Heap) (cn : Str → Addr) (g : Addr) (k : Nat) (RR : Rs D → Rs D) : Prop :=
  ∀ (A : Around) (outer : List Env) (s : Shared) (H : Hp) (f : Addr) (q : Str) (cl : List (Str × Addr)) (ws : List (Option V)) (L : LamT) (b : Fe) (Q : VK) (π : Wv) (δ : Sls) (m : Mir) (kk : Nat), Room (kk + k) A → Env0 P w K mg base A outer s H → LamB L → LamAt q cl L f H → NdefX.CellsAt cl L.fr ws s.heap H →
    LamDE P w K mg base cn kk L b → At (gx K (c0 cn)) π (NdefX.startF (L.ps ++ L.fr) L.dvs ws) H δ m → Post (gx K (c0 cn)) E0 π m H Q (RR (b δ m)) → codeAny (model P w) A (.call (.ref g) ⟨[.ref f], []⟩) (CR (L2N.CX P w) outer P w H s Q E0) s
structure LamFn (P : Program) (w : World) (K : PySem.W.Frag) (mg : Str → Option Value) (base : Heap) (cn : Str → Addr) (x : Str) (k : Nat) (RR : Rs D → Rs D) : Prop where
  ex : ∃ g : Addr, mg x = some (.ref g) ∧ PySem.W.keepIn K (.ref g) = true ∧ LamGives P w K mg base cn g k RR
def whyR (cs fs : List Str) (fn : Str → Option Str) : Rs D → Rs D
  | .ok _ m => .ok (.tup [.str "", .non]) m
  | .exc x m => hdl cs fs fn x m
  | .bad => .bad
def gotR (cs fs : List Str) (fn : Str → Option Str) : Rs D → Rs D
  | .ok d m => .ok (.tup [.str "value", d]) m
  | .exc x m => hdl cs fs fn x m
  | .bad => .bad
section
variable {P : Program} {w : World} {K : PySem.W.Frag} {mg : Str → Option Value} {base : Heap} {cn : Str → Addr} {x a e : Str} {st : Stmt} {k : Nat} {cs fs : List Str} {fn : Str → Option Str} {C1 C2 C3 : Addr} {x1 x2 x3 : Str} {p1 p2 p3 tp pos pos' pc pe pt pr pr2 : Pos} {x0 x4 x5 j1 j2 : Nat} {tg cl : Expr}
/-- the clause's parts, in the context of the def's body -/
structure TellC (P : Program) (w : World) (K : PySem.W.Frag) (mg : Str → Option Value) (base : Heap) (x a e : Str) (st : Stmt) (k : Nat) (fn : Str → Option Str) (tg cl : Expr) (x1 x2 x3 : Str) (p1 p2 p3 : Pos) (C1 C2 C3 : Addr) : Prop where
  sc : FnScope [a, e] [a] (defScope st)
  va : Vis (defScope st) a
  na : (a == ("__debug__" : Str)) = false
  nac : (a == ("__classdict__" : Str)) = false
  le : (defScope st).names.lookup e = some .local
  g1 : (defScope st).names.lookup x1 = some .globalImplicit
  g2 : (defScope st).names.lookup x2 = some .globalImplicit
  g3 : (defScope st).names.lookup x3 = some .globalImplicit
  m1 : mg x1 = some (.ref C1)
  m2 : mg x2 = some (.ref C2)
  m3 : mg x3 = some (.ref C3)
  d1 : (x1 == ("__debug__" : Str)) = false
  d2 : (x2 == ("__debug__" : Str)) = false
  d3 : (x3 == ("__debug__" : Str)) = false
  ts : ∀ (f : Addr) (cdv : Value) (A : Around) (outer : List Env) (s : Shared) (H : Hp) (Z : Cx), Z = cxOf (L2N.CX P w) P w K mg base [a, e] x (defScope st) f cdv A outer s H E0 → Room k Z.A → TellS Z 1 k e x fn tg cl
  s1 : ∀ env : Env, starEach [tg, cl] env = (false, eval tg env) :: starEach [cl] env ∧ starEach [cl] env = (false, eval cl env) :: starEach [] env
  s3 : ∀ env : Env, starEach [.Name x1 p1, .Name x2 p2, .Name x3 p3] env = [(false, eval (.Name x1 p1) env), (false, eval (.Name x2 p2) env), (false, eval (.Name x3 p3) env)]
abbrev clauseE (tg cl : Expr) (x1 x2 x3 e : Str) (p1 p2 p3 tp pos' pr pr2 : Pos) (x0 x4 : Nat) : ExceptHandler := .ExceptHandler (some (.Tuple [.Name x1 p1, .Name x2 p2, .Name x3 p3] x0 tp)) (some e) [.Return (some (.Tuple [tg, cl] x4 pr)) pr2] pos'
/-- the wish at the clause holds -/
theorem w3_of {σ : L2.St} {D : Ends} (hl : σ.length = 2) : ∀ cls d H', Ech K C1 C2 C3 fn D.rt cls d H' → w3 K C1 C2 C3 1 (tSu K 1 fn) D cls d σ H' := by
  rintro cls d H' ⟨hm, fs0, t, v, hx, ht, hc, hsz, ok, q⟩
  refine ⟨hm, fun ea p na np nap => ⟨fs0, t, v, ⟨?_, hx.same (same_new np), ht, hc, hsz⟩, ok, fun H2 sm => q H2 fun b o z => sm b o (same_new np b o z)⟩⟩
  rw [List.getElem?_set_self (by omega)]
/-- the try statement, whatever its body makes of the lambda -/
theorem ps_tell {Z : Cx} {f : Addr} {cdv : Value} {A : Around} {outer : List Env} {s : Shared} {H : Hp} {body : List Stmt} {tb : WX → TS} (T : TellC P w K mg base x a e st k fn tg cl x1 x2 x3 p1 p2 p3 C1 C2 C3) (hZ : Z = cxOf (L2N.CX P w) P w K mg base [a, e] x (defScope st) f cdv A outer s H E0) (hr : Room k Z.A)
    (hb : ∀ (W : WX) (pn : List (Addr × Obj)) (xe : Value → Shared → Prop), L2N.Takes (Z.tr pn xe) W → PSs (Z.tr pn xe) body (tb W)) :
    PS Z (.Try body [clauseE tg cl x1 x2 x3 e p1 p2 p3 tp pos' pr pr2 x0 x4] [] [] pos) (fun D σ H => tb (w3 Z.K C1 C2 C3 1 (tSu Z.K 1 fn) D) D σ H) := by
  have ts := T.ts f cdv A outer s H Z hZ hr
  have sok := suite_ok (Z := Z) (p6 := pr) (p7 := pr2) (x0 := x4) ts fun _ _ _ => T.s1 Z.env
  subst hZ
  exact ps_try3 rfl rfl T.sc.nd rfl T.le T.g1 T.m1 T.d1 T.g2 T.m2 T.d2 T.g3 T.m3 T.d3 (T.s3 _) (fun W pn xe tk _ => hb W pn xe tk) sok
end
end DM

/-! why(ask), got(ask), as the top leaves them. -/
namespace DM
open PySem PySem.Spec PyProof.Rows L2 LamX

section
variable {P : Program} {w : World} {K : PySem.W.Frag} {mg : Str → Option Value} {base : Heap} {cn : Str → Addr} {x a e : Str} {st : Stmt} {k kk : Nat} {cs fs : List Str} {fn : Str → Option Str} {C1 C2 C3 : Addr} {x1 x2 x3 : Str} {p1 p2 p3 tp pos pos' pc pe pt pr pr2 pk pj ph : Pos} {x0 x4 x5 j1 j2 : Nat} {tg cl : Expr}
  {f g : Addr} {q : Str} {cl' : List (Str × Addr)} {ws : List (Option V)} {L : LamT} {b : Fe}
/-- the reading of ask() there, on its way to R -/
def tAsk (K : PySem.W.Frag) (cn : Str → Addr) (q : Str) (cl : List (Str × Addr)) (L : LamT) (f : Addr) (ws : List (Option V)) (b : Fe) (W : WX) : TE := fun σ H R => σ[0]? = some (some (.ref f)) ∧ LamAt q cl L f H ∧ ∃ E1 : XK, (∀ cls d H', E1 cls d H' → W cls d σ H') ∧ tD (gx K (c0 cn)) (fun _ => E1) b (NdefX.startF (L.ps ++ L.fr) L.dvs ws) H R
theorem pe_askZ {Z Z' : Cx} {cdv : Value} {A : Around} {outer : List Env} {s : Shared} {H : Hp} {W : WX} {pn : List (Addr × Obj)} {xe : Value → Shared → Prop} (B : LamB L) (T : FnScope [a, e] [a] (defScope st)) (va : Vis (defScope st) a) (na : (a == ("__debug__" : Str)) = false) (nac : (a == ("__classdict__" : Str)) = false)
    (hZ : Z = cxOf (L2N.CX P w) P w K mg base [a, e] x (defScope st) g cdv A outer s H E0) (hZ' : Z' = Z.tr pn xe) (hr : Room (kk + 1) Z.A) (C : NdefX.CellsAt cl' L.fr ws s.heap H) (tk : L2N.Takes Z' W) (hb : LamDE P w K mg base cn kk L b) :
    PE Z' (.Call (.Name a pc) [] [] pe) (tAsk K cn q cl' L f ws b W) := by
  subst hZ hZ'
  refine ⟨fun pins s1 σ1 H1 R I ⟨h1, h2, E1, hW, h3⟩ => ?_⟩
  exact (pe_ask (Z := (cxOf (L2N.CX P w) P w K mg base [a, e] x (defScope st) g cdv A outer s H E0).tr pn xe) (E := E1) (tb := tD (gx K (c0 cn)) (fun _ => E1) b) (p1 := pc) (p2 := pe) (f := f) B rfl C hr tk (fun outer s H c' A' hA eA => hb q cl' f _ outer s H c' E1 A' hA eA) rfl va na nac).run pins s1 σ1 H1 R I ⟨h1, h2, hW, h3⟩
/-- the lambda's result, and what is told of it -/
theorem why_post {π : Wv} {m : Mir} {H : Hp} {Q : VK} {RR : Rs DM.D → Rs DM.D} (T : ErF K cn C1 C2 C3 cs fs) {Qv : VK} {r : Rs DM.D} (p : Post (gx K (c0 cn)) E0 π m H Q (RR r)) (hx : ∀ x m1, RR (.exc x m1) = hdl cs fs fn x m1) (hbad : RR .bad = .bad)
    (hok : ∀ d m1, Post (gx K (c0 cn)) E0 π m H Q (RR (.ok d m1)) → ∀ π2 v H2, Go (gx K (c0 cn)) π m H π2 m1 H2 → Rep ((gx K (c0 cn)).at π2) (hid (lv π2 m1) H2) d v → Qv v H2) : Post (gx K (c0 cn)) (Ech K C1 C2 C3 fn Q) π m H Qv r := by
  cases r with
  | ok d m1 => exact hok d m1 p
  | exc x m1 =>
    rw [hx] at p
    exact told_exc T p
  | bad => rw [hbad] at p; exact p
theorem Df.why {pq : Pos} (D : Df K mg x st [a]) (T : TellC P w K mg base x a e st k fn tg cl x1 x2 x3 p1 p2 p3 C1 C2 C3) (TE : ErF K cn C1 C2 C3 cs fs)
    (hbody : defBody st = [.Try [.Expr (.Call (.Name a pc) [] [] pe) ph] [clauseE tg cl x1 x2 x3 e p1 p2 p3 tp pos' pr pr2 x0 x4] [] [] pos, .Return (some (.Tuple [.Constant (.str "") j1 pk, .Constant .none j2 pj] x5 pt)) pq])
    (hsw : ∀ env : Env, swapsWith (.Call (.Name a pc) [] [] pe) none ph.line env = pure false) (hst : ∀ env : Env, starEach [.Constant (.str "") j1 pk, .Constant .none j2 pj] env = (false, eval (.Constant (.str "") j1 pk) env) :: starEach [.Constant .none j2 pj] env) (hst2 : ∀ env : Env, starEach [.Constant .none j2 pj] env = (false, eval (.Constant .none j2 pj) env) :: starEach [] env) :
    LamFn P w K mg base cn x (k + 2) (whyR cs fs fn) := by
  obtain ⟨g, fd, hm, F, bn⟩ := D.ex
  refine ⟨g, hm, F.kp, fun A outer s H f q cl' ws L b Q π δ m kk hr e0 B hl C hb at0 p => ?_⟩
  obtain ⟨oc, od, kV, doc, pm, an, cdv, ct, osl, efd, lk, hcd⟩ := F.ex
  have KX : K.In s.heap := e0.mod.kin.keeps fun b o e => (e0.bs b o e).1
  have b1 := bn s [.ref f] KX rfl
  subst efd
  refine run_ofS (CX := L2N.CX P w) (k := kk + k + 1) (N := [a, e]) (ps := [a]) (us := [.ref f]) (vs := [.ref f]) lk hcd T.sc hr e0 b1 (.cons rfl .nil) rfl fun hr' => ?_
  rw [hbody]
  have st1 := ps_tell (f := g) (cdv := cdv) (A := A) (outer := outer) (s := s) (H := H) (tp := tp) (pos := pos) (pos' := pos') (pr := pr) (pr2 := pr2) (x0 := x0) (x4 := x4) (body := [.Expr (.Call (.Name a pc) [] [] pe) ph]) T rfl (hr'.mono (by omega)) fun W pn xe tk =>
    pss_one (ps_expr (pe_askZ (pc := pc) (pe := pe) (q := q) (f := f) (b := b) B T.sc T.va T.na T.nac rfl rfl (hr'.mono (by omega)) C tk hb) (hsw _))
  refine ⟨_, pss_cons st1 (pss_one (ps_ret (pe_tup (pa_cons pe_str (pa_cons pe_non pa_nil (hst2 _)) (hst _))))), ?_⟩
  refine ⟨rfl, hl, Ech K C1 C2 C3 fn Q, w3_of (D := { nx := _, rt := Q, bk := _, ct := _ }) rfl, π, δ, m, at0, ?_⟩
  refine why_post TE p (fun _ _ => rfl) rfl fun d m1 p2 π2 v H2 go rv => ⟨by rw [sizeLine_eq]; show 2 ≤ 16777216; decide, fun z hz => ?_⟩
  exact p2 π2 _ _ (go.new (same_new hz)) (rep_tup hz (go.ok.fresh hz) ⟨_, _, rfl, ⟨rfl, by rw [sizeLine_eq]; show 0 ≤ 16777216; decide⟩, RepAll.one rfl⟩)
theorem Df.got (D : Df K mg x st [a]) (T : TellC P w K mg base x a e st k fn tg cl x1 x2 x3 p1 p2 p3 C1 C2 C3) (TE : ErF K cn C1 C2 C3 cs fs)
    (hbody : defBody st = [.Try [.Return (some (.Tuple [.Constant (.str "value") j1 pk, .Call (.Name a pc) [] [] pe] x5 pt)) ph] [clauseE tg cl x1 x2 x3 e p1 p2 p3 tp pos' pr pr2 x0 x4] [] [] pos])
    (hst : ∀ env : Env, starEach [.Constant (.str "value") j1 pk, .Call (.Name a pc) [] [] pe] env = (false, eval (.Constant (.str "value") j1 pk) env) :: starEach [.Call (.Name a pc) [] [] pe] env) (hst2 : ∀ env : Env, starEach [.Call (.Name a pc) [] [] pe] env = (false, eval (.Call (.Name a pc) [] [] pe) env) :: starEach [] env) :
    LamFn P w K mg base cn x (k + 2) (gotR cs fs fn) := by
  obtain ⟨g, fd, hm, F, bn⟩ := D.ex
  refine ⟨g, hm, F.kp, fun A outer s H f q cl' ws L b Q π δ m kk hr e0 B hl C hb at0 p => ?_⟩
  obtain ⟨oc, od, kV, doc, pm, an, cdv, ct, osl, efd, lk, hcd⟩ := F.ex
  have KX : K.In s.heap := e0.mod.kin.keeps fun b o e => (e0.bs b o e).1
  have b1 := bn s [.ref f] KX rfl
  subst efd
  refine run_ofS (CX := L2N.CX P w) (k := kk + k + 1) (N := [a, e]) (ps := [a]) (us := [.ref f]) (vs := [.ref f]) lk hcd T.sc hr e0 b1 (.cons rfl .nil) rfl fun hr' => ?_
  rw [hbody]
  have st1 := ps_tell (f := g) (cdv := cdv) (A := A) (outer := outer) (s := s) (H := H) (tp := tp) (pos := pos) (pos' := pos') (pr := pr) (pr2 := pr2) (x0 := x0) (x4 := x4) (body := [.Return (some (.Tuple [.Constant (.str "value") j1 pk, .Call (.Name a pc) [] [] pe] x5 pt)) ph]) T rfl (hr'.mono (by omega)) fun W pn xe tk =>
    pss_one (ps_ret (pe_tup (pa_cons pe_str (pa_cons (pe_askZ (pc := pc) (pe := pe) (q := q) (f := f) (b := b) B T.sc T.va T.na T.nac rfl rfl (hr'.mono (by omega)) C tk hb) pa_nil (hst2 _)) (hst _))))
  refine ⟨_, pss_one st1, ?_⟩
  refine ⟨rfl, hl, Ech K C1 C2 C3 fn Q, w3_of (D := { nx := _, rt := Q, bk := _, ct := _ }) rfl, π, δ, m, at0, ?_⟩
  refine why_post TE p (fun _ _ => rfl) rfl fun d m1 p2 π2 v H2 go rv => ⟨by rw [sizeLine_eq]; show 2 ≤ 16777216; decide, fun z hz => ?_⟩
  exact p2 π2 _ _ (go.new (same_new hz)) (rep_tup hz (go.ok.fresh hz) ⟨_, _, rfl, ⟨rfl, by rw [sizeLine_eq]; show 5 ≤ 16777216; decide⟩, RepAll.one rv⟩)
end
end DM

/-! why(lambda: ..) in the def that makes the lambda. -/
namespace DM
open PySem PySem.Spec PyProof.Rows L2 LamX

/-- a lambda's body over data: the slots that it captures, its defaults -/
structure LamD where
  cs : List Nat
  dvs : List D
  b : Fe
def lamSl (B : LamD) (δ : Sls) : Sls := B.dvs.map .dat ++ B.cs.map fun i => δ.getD i .un
def fLamFn (RR : Rs D → Rs D) (bs : Nat → Option LamD) (f : Fe) : Fe := fun δ m => (f δ m).bind fun d m1 => match d with
  | .lam i => (match bs i with
    | some B => (match RR (B.b (lamSl B δ) m1) with
      | .ok r m2 => trimR m1.length r m2
      | _ => .bad)
    | none => .bad)
  | _ => .bad
section
variable {X : Cx} {cn : Str → Addr} {E : XKS} {tx : Nat → Option LamT} {n k kk : Nat} {P : Addr} {RR : Rs DM.D → Rs DM.D} {bs : Nat → Option LamD} {x : Str} {p pos : Pos} {e : Expr} {fe : Fe}
/-- the lambda and its body over data fit -/
structure LamFit (X : Cx) (cn : Str → Addr) (tx : Nat → Option LamT) (kk : Nat) (i : Nat) (B : LamD) : Prop where
  ex : ∃ L, tx i = some L ∧ LamB L ∧ Caps X L B.cs ∧ LamDE X.prog X.w X.K X.mg X.base cn kk L B.b ∧ ∀ π H, RepAll (Gx.at (gx X.K (c0 cn)) π) H B.dvs L.dvs
theorem lam_slots {L : LamT} {B : LamD} {G : Gx} {H : Hp} {σ : L2.St} {δ : Sls} (C : Caps X L B.cs) (hl : L.ps.length = L.dvs.length) (r : RepAll G H B.dvs L.dvs) (en : EnvOk G H σ δ) : EnvOk G H (NdefX.startF (L.ps ++ L.fr) L.dvs (capV B.cs σ)) (lamSl B δ) := by
  have l1 := RepAll.length r
  have l2 := C.len
  have e : NdefX.startF (L.ps ++ L.fr) L.dvs (capV B.cs σ) = L.dvs.map some ++ capV B.cs σ := by
    unfold NdefX.startF capV
    have : (L.ps ++ L.fr).length - L.dvs.length - (B.cs.map fun i => (σ[i]?).join).length = 0 := by
      rw [List.length_append, List.length_map]
      omega
    rw [this, List.replicate_zero, List.append_nil]
  rw [e]
  unfold lamSl capV
  refine ⟨by simp [l1], fun j s hs => ?_⟩
  by_cases hj : j < B.dvs.length
  · rw [List.getElem?_append_left (by simpa using hj), List.getElem?_map] at hs
    rw [List.getElem?_append_left (by rw [List.length_map]; omega), List.getElem?_map]
    cases q : B.dvs[j]? with
    | none => rw [q] at hs; cases hs
    | some d =>
      rw [q] at hs
      cases hs
      obtain ⟨v, hv, rv⟩ := RepAll.getD r q
      exact ⟨some v, by rw [hv]; rfl, v, rfl, rv⟩
  · rw [List.getElem?_append_right (by simp; omega), List.length_map, List.getElem?_map] at hs
    rw [List.getElem?_append_right (by rw [List.length_map]; omega), List.length_map, List.getElem?_map]
    rw [l1]
    cases q : B.cs[j - B.dvs.length]? with
    | none => rw [q] at hs; cases hs
    | some i =>
      rw [q] at hs
      cases hs
      refine ⟨(σ[i]?).join, rfl, ?_⟩
      cases q2 : δ[i]? with
      | none =>
        show SlOk G H (δ.getD i .un) _
        rw [List.getD_eq_getElem?_getD, q2]
        exact trivial
      | some sl =>
        show SlOk G H (δ.getD i .un) _
        rw [List.getD_eq_getElem?_getD, q2]
        obtain ⟨v, h1, h2⟩ := en.sl i sl q2
        show SlOk G H sl _
        rw [h1]
        exact h2
theorem de_lamfn (F : LamFn X.prog X.w X.K X.mg X.base cn x k RR) (hr : Room (kk + k) X.A) (hbs : ∀ i B, bs i = some B → LamFit X cn tx kk i B) (he : DE X ⟨cn, lamJ X.env tx n P⟩ E e fe) (hg : Gl X x := by rfl) (hdb : (x == ("__debug__" : Str)) = false := by decide)
    (hs : starEach [e] X.env = (false, eval e X.env) :: starEach [] X.env := by rfl) (hpl : (backTo pos (starEach [] X.env)).any (·.1) = false := by rfl) : DE X ⟨cn, lamJ X.env tx n P⟩ E (.Call (.Name x p) [e] [] pos) (fLamFn RR bs fe) := by
  obtain ⟨g, hm, hk, gives⟩ := F.ex
  refine ⟨fun pins s σ H Q I h => ?_⟩
  have arg : PA X [e] (tCons (tD (gx X.K ⟨cn, lamJ X.env tx n P⟩) E fe) tNil) := pa_cons he pa_nil hs
  refine wpAny_Call_Name_kw (ld_glob I hg hm ?_ hdb)
  refine PySem.W.callWith_K (h₀ := X.base) I.ok.mod.kin hk (L2.thn (arg.run pos pins s σ H (fun vs H1 => ∃ (π1 : Wv) (δ : Sls) (m1 : Mir) (i : Nat) (B : LamD) (L : LamT) (f : Addr), vs = [.ref f] ∧ At (gx X.K ⟨cn, lamJ X.env tx n P⟩) π1 σ H1 δ m1 ∧ bs i = some B ∧ tx i = some L ∧ LamAt (lamQ X.env) (lamC X.env L) L f H1 ∧
      Post (gx X.K ⟨cn, lamJ X.env tx n P⟩) (E σ) π1 m1 H1 Q (match RR (B.b (lamSl B δ) m1) with
        | .ok r m2 => trimR m1.length r m2
        | _ => .bad)) I ?_) fun us s1 ⟨vs, H1, I1, rv, π1, δ, m1, i, B, L, f, ev, a1, hB, hL, la, po⟩ => ⟨I1.kIn, ?_⟩) hs hpl
  · obtain ⟨π, δ, m, a, po⟩ := h
    refine ⟨π, δ, m, a, ?_⟩
    unfold fLamFn at po
    cases hf : fe δ m with
    | bad => rw [hf] at po; exact po
    | exc y m1 => rw [hf] at po; exact po
    | ok d m1 =>
      rw [hf] at po
      intro π1 v H1 go rv
      simp only [Rs.bind] at po
      cases d with
      | lam i =>
        simp only at po
        cases hB : bs i with
        | none => rw [hB] at po; exact po.elim
        | some B =>
          rw [hB] at po
          have a1 := a.step go
          obtain ⟨f, rfl, hlm⟩ := rv
          have hlm : π1.lm.p i f (hid (lv π1 m1) H1) := hlm
          rw [a1.inv.1] at hlm
          obtain ⟨L, hL, la⟩ := hlm
          exact ⟨π1, δ, m1, i, B, L, f, rfl, a1, hB, hL, la.up hid_self, Post.from_ go po⟩
      | _ => exact po.elim
  subst ev
  cases rv with
  | cons r1 r2 =>
  cases r2
  obtain rfl : _ = Value.ref f := r1
  obtain ⟨L', hL', LBk, C, bd, dr⟩ := (hbs i B hB).ex
  rw [hL] at hL'
  cases hL'
  have en := lam_slots C LBk.dl (dr π1 _) a1.env
  have at1 : At (gx X.K (c0 cn)) π1 (NdefX.startF (L.ps ++ L.fr) L.dvs (capV B.cs σ)) H1 (lamSl B δ) m1 := ⟨en, a1.mok.j0, trivial⟩
  have po1 : Post (gx X.K (c0 cn)) E0 π1 m1 H1 Q (RR (B.b (lamSl B δ) m1)) := by
    cases hR : RR (B.b (lamSl B δ) m1) with
    | ok r m2 =>
      rw [hR] at po
      exact fun π2 v H2 go rv => post_trimR a1.mok po π2 v H2 ⟨go.ex, ⟨go.ok.len, go.ok.nd, go.ok.al, go.ok.alb, go.ok.sep, go.ok.cel⟩⟩ rv
    | exc y m2 => rw [hR] at po; exact po.elim
    | bad => rw [hR] at po; exact po.elim
  have run := gives X.A X.stack s1 H1 f (lamQ X.env) (lamC X.env L) (capV B.cs σ) L B.b Q π1 (lamSl B δ) m1 kk hr I1.env0 LBk la (C.at I1) bd at1 po1
  refine wpAny_call (codeAny_mono run fun r s2 hq => ?_)
  cases r with
  | error y => exact (hq.choose_spec.choose_spec.choose_spec.choose_spec.choose_spec.2.2.2.2.2.2.2 : False).elim
  | ok fl =>
    cases fl with
    | ret u => exact I1.after hq
    | next => exact False.elim hq
    | brk => exact False.elim hq
    | cont => exact False.elim hq
end
end DM

/-! An own error's class, from what the top leaves. -/
namespace DM
open PySem PySem.Spec PyProof.Rows L2

/-- an own error's class as the top leaves it: its __init__ is the def st -/
structure ErT (P : Program) (K : PySem.W.Frag) (mg : Str → Option Value) (x : Str) (C : Addr) (qual : Str) (st : Stmt) (ps : List Str) : Prop where
  ex : ∃ (fI cc cda : Addr) (fd : FuncData), mg x = some (.ref C) ∧ OexC K C ∧ PySem.W.findIn K (.ref C) "__init__" = some (some (.ref fI)) ∧ PySem.W.typeIn K (.ref fI) = some (.type "function") ∧ SupC P K mg fI cda cc C fd ∧
    (∃ doc pm ctv, fd = (Nf "__init__" qual (defArgs st) (defBody st) (defScope st) cc cda).fd doc pm ctv) ∧ PySem.W.codeIn K (.ref cda) qual = true ∧ Binds K fd ps []
  tag : PySem.W.findIn K (.ref C) "tag" = some none
section
variable {P : Program} {w : World} {K : PySem.W.Frag} {mg : Str → Option Value} {base : Heap} {x qual : Str} {C : Addr} {st : Stmt} {k : Nat} {txt tag fl : Str} {j j2 : Nat} {p0 p1 p2 p3 p4 p5 q1 q2 q3 q4 q5 q6 q7 q8 : Pos} {pl : Sem Bool}
abbrev superE (txt : Str) (j : Nat) (p0 p1 p2 p3 p4 : Pos) : Expr := .Call (.Attribute (.Call (.Name "super" p0) [] [] p1) "__init__" p2) [.Constant (.str txt) j p3] [] p4
theorem ErT.er0 (T : ErT P K mg x C qual st ["self"]) (hbody : defBody st = [.Expr (superE txt j p0 p1 p2 p3 p4) p5, .Assign [.Attribute (.Name "self" q1) "tag" q2] (.Constant (.str tag) j2 q3) q4]) (S : NdefX.NScope ["self", "__class__"] ["self"] ["__class__"] (defScope st))
    (hself : (defScope st).names.lookup ("self" : Str) = some .local) (hg : (defScope st).names.lookup ("super" : Str) = some .globalImplicit)
    (hin : ∀ cc cda f L, interactive (NdefX.envF (Nf "__init__" qual (defArgs st) (defBody st) (defScope st) cc cda) f L) = false)
    (he : ∀ cc cda f L, let env := NdefX.envF (Nf "__init__" qual (defArgs st) (defBody st) (defScope st) cc cda) f L
      eval (superE txt j p0 p1 p2 p3 p4) env = (do
      let o ← attributeBase (.Call (.Name "super" p0) [] [] p1) "__init__" env (eval (.Call (.Name "super" p0) [] [] p1) env)
      standAt p2.atName
      let (m, first) ← holding [o] (getMethod o "__init__" pl)
      callWith p4 m first (backTo p4 (starEach [.Constant (.str txt) j p3] env)) []))
    (hs : ∀ env : Env, starEach [.Constant (.str txt) j p3] env = (false, eval (.Constant (.str txt) j p3) env) :: starEach [] env) (hpl : ∀ env : Env, (backTo p4 (starEach [] env)).any (·.1) = false) : ErC P w K mg base x C 0 (k + 1) tag (fs0 tag) := by
  obtain ⟨fI, cc, cda, fd, hm, ox, hi, ht, T2, ⟨doc, pm, ctv, efd⟩, hcd, hb⟩ := T.ex
  refine ⟨fI, fd, ["self"], hm, ox, hi, ht, ?_, hb⟩
  rw [hbody] at efd hin he
  refine ini_fn (N := ["self", "__class__"]) (name := "__init__") (qual := qual) (params := defArgs st) (scope := defScope st) rfl ⟨doc, pm, ctv, efd⟩ T2 hcd S rfl hself hg (fun y hy => ?_) (hin _ _ _) (he _ _ _) (fun L => hs _) (fun L => hpl _) (fun vs H Q E h => ?_) fun A outer s H vs Q E h => ?_
  · rw [List.mem_singleton.mp hy]
    exact hself
  · obtain ⟨a, ys, rfl, hl, _⟩ := h
    simp [hl]
  · have h0 := h
    obtain ⟨a, ys, rfl, hl, ha, _⟩ := h0
    obtain rfl : ys = [] := List.length_eq_zero_iff.mp hl
    exact ⟨a, [], rfl, ha, ini_tag (a := a) (ys := []) ox T.tag rfl (.inl hself) rfl h⟩
theorem ErT.er1 (T : ErT P K mg x C qual st ["self", fl]) (hbody : defBody st = [.Expr (superE txt j p0 p1 p2 p3 p4) p5, .Assign [.Attribute (.Name "self" q1) "tag" q2] (.Constant (.str tag) j2 q3) q4, .Assign [.Attribute (.Name "self" q5) fl q6] (.Name fl q7) q8])
    (S : NdefX.NScope ["self", fl, "__class__"] ["self", fl] ["__class__"] (defScope st)) (hnf : PySem.W.findIn K (.ref C) fl = some none)
    (hself : (defScope st).names.lookup ("self" : Str) = some .local) (hfl : (defScope st).names.lookup fl = some .local) (hg : (defScope st).names.lookup ("super" : Str) = some .globalImplicit) (hd1 : (fl == ("__debug__" : Str)) = false) (hc1 : (fl == ("__classdict__" : Str)) = false)
    (hin : ∀ cc cda f L, interactive (NdefX.envF (Nf "__init__" qual (defArgs st) (defBody st) (defScope st) cc cda) f L) = false)
    (he : ∀ cc cda f L, let env := NdefX.envF (Nf "__init__" qual (defArgs st) (defBody st) (defScope st) cc cda) f L
      eval (superE txt j p0 p1 p2 p3 p4) env = (do
      let o ← attributeBase (.Call (.Name "super" p0) [] [] p1) "__init__" env (eval (.Call (.Name "super" p0) [] [] p1) env)
      standAt p2.atName
      let (m, first) ← holding [o] (getMethod o "__init__" pl)
      callWith p4 m first (backTo p4 (starEach [.Constant (.str txt) j p3] env)) []))
    (hsw : ∀ cc cda f L, swapsWith (.Name fl q7) (some (.Attribute (.Name "self" q5) fl q6)) q8.line (NdefX.envF (Nf "__init__" qual (defArgs st) (defBody st) (defScope st) cc cda) f L) = pure false)
    (hs : ∀ env : Env, starEach [.Constant (.str txt) j p3] env = (false, eval (.Constant (.str txt) j p3) env) :: starEach [] env) (hpl : ∀ env : Env, (backTo p4 (starEach [] env)).any (·.1) = false) : ErC P w K mg base x C 1 (k + 1) tag (fs1 tag fl) := by
  obtain ⟨fI, cc, cda, fd, hm, ox, hi, ht, T2, ⟨doc, pm, ctv, efd⟩, hcd, hb⟩ := T.ex
  refine ⟨fI, fd, ["self", fl], hm, ox, hi, ht, ?_, hb⟩
  rw [hbody] at efd hin he hsw
  refine ini_fn (N := ["self", fl, "__class__"]) (name := "__init__") (qual := qual) (params := defArgs st) (scope := defScope st) rfl ⟨doc, pm, ctv, efd⟩ T2 hcd S rfl hself hg (fun y hy => ?_) (hin _ _ _) (he _ _ _) (fun L => hs _) (fun L => hpl _) (fun vs H Q E h => ?_) fun A outer s H vs Q E h => ?_
  · rcases List.mem_cons.mp hy with rfl | hy
    · exact hself
    · rw [List.mem_singleton.mp hy]
      exact hfl
  · obtain ⟨a, ys, rfl, hl, _⟩ := h
    simp [hl]
  · have h0 := h
    obtain ⟨a, ys, rfl, hl, ha, _⟩ := h0
    match ys, hl with
    | [y], _ => exact ⟨a, [y], rfl, ha, ini_fld (a := a) (y := y) ox T.tag hnf rfl (.inl hself) rfl rfl (.inl hfl) rfl hd1 hc1 (hsw _ _ _ _) h⟩
end

section
variable {P : Program} {K : PySem.W.Frag} {mg : Str → Option Value} {x qual : Str} {C : Addr} {st : Stmt} {ps : List Str}
/-- the same from what is looked up -/
theorem erT_of {nm q N bs bm sn sub ab col dd k0 k1 k2 k3 k5} {fI cc cda : Addr} {oc : Value} {od : Option Addr} {osl : Array (Option Value)} {doc pm ctv : Value} {c : Value} {d : Option Addr} {vs : Array Value} {sl : Array (Option Value)} {file : Str} {tf : Tok} {c' : Value} {d' : Option Addr} {sl' : Array (Option Value)}
    (hm : mg x = some (.ref C)) (lC : K.lookup C = some (excClassObj nm q C N bs bm true sn sub ab col dd k0 k1 k2 k3 k5 "ValueError.__new__")) (rv : PySem.HandSPX.refsVE bm = true) (sa : PySem.W.findIn K (.ref C) "__setattr__" = some (some (.builtin "object.__setattr__")))
    (ex : PySem.W.subIn K (.ref C) (.type "BaseException") = some true) (ty : PySem.W.typeIn K (.ref C) = some (.type "type")) (kC : PySem.W.keepIn K (.ref C) = true) (hi : PySem.W.findIn K (.ref C) "__init__" = some (some (.ref fI))) (ht : PySem.W.typeIn K (.ref fI) = some (.type "function"))
    (lf : K.lookup fI = some ⟨oc, od, .func ((Nf "__init__" qual (defArgs st) (defBody st) (defScope st) cc cda).fd doc pm ctv), osl⟩) (hp : ((defArgs st).posonlyargs ++ (defArgs st).args).head?.map (·.arg) = some "self")
    (lc : K.lookup cda = some ⟨c, d, .fields vs, sl⟩) (v2 : vs[2]? = some (.str file tf)) (hf : ((P.main.file : Str) == file) = true) (lcell : K.lookup cc = some ⟨c', d', .cell (some (.ref C)), sl'⟩)
    (own : PySem.W.mroIn K C (.ref C) = some true) (none_ : mg "super" = none) (top : (P.main.scope.names.lookup ("super" : Str)).isSome = false) (opq : PySem.W.nsIn K cStatics "thirdparty.any" = some none) (up : PySem.W.ks_superIn K C C "__init__" = some (some (.builtin "ValueError.__init__")))
    (ve : PySem.W.subIn K (.ref C) (.type "ValueError") = some true) (hcd : PySem.W.codeIn K (.ref cda) qual = true) (hb : ∀ us : List Value, us.length = ps.length → bindArgs ((Nf "__init__" qual (defArgs st) (defBody st) (defScope st) cc cda).fd doc pm ctv) ⟨us, []⟩ = pure (ps.zip us)) (tag : PySem.W.findIn K (.ref C) "tag" = some none) :
    ErT P K mg x C qual st ps := by
  have ox : OexC K C := ⟨⟨nm, q, N, bs, bm, sn, sub, ab, col, dd, k0, k1, k2, k3, k5, lC, rv⟩, sa, ex, ty, kC⟩
  have par : ∃ ar, ((defArgs st).posonlyargs ++ (defArgs st).args).head? = some ar ∧ ar.arg = ("self" : Str) := by
    cases q : ((defArgs st).posonlyargs ++ (defArgs st).args).head? with
    | none => rw [q] at hp; cases hp
    | some ar =>
      rw [q] at hp
      exact ⟨ar, rfl, Option.some.inj hp⟩
  exact ⟨⟨fI, cc, cda, _, hm, ox, hi, ht, ⟨⟨oc, od, osl, lf⟩, par, ⟨c, d, vs, sl, file, tf, lc, v2, hf⟩, ⟨c', d', sl', lcell⟩, own, none_, top, opq, up, ve, ox⟩, ⟨doc, pm, ctv, rfl⟩, hcd, Binds.all hb⟩, tag⟩
end

/-! ### the attribute that is told, by the tag -/
def inB (ss : List Str) (t : Str) : Bool := (ss.map D.str).any fun y => D.eqF y (.str t)
def eqB (s t : Str) : Bool := t == s
def placeN (t : Str) : Option Str := if eqB "Dry" t = true then some "tank" else if eqB "InvalidCommand" t = true then some "word" else if eqB "ParseError" t = true then some "line" else none
def fieldN (t : Str) : Option Str := if inB ["InvalidAlphabet", "InvalidNumber", "InvalidWord", "InvalidLimit", "InvalidSize"] t = true then some "given" else if inB ["InvalidArrow", "InvalidRoad", "NotHere"] t = true then some "index" else
  if inB ["NotIdempotent", "InvalidExpression", "InvalidPattern"] t = true then some "part" else if inB ["TooMany", "CapacityExceeded"] t = true then some "limit" else if inB ["InvalidName", "DuplicateName", "UnknownName"] t = true then some "name" else placeN t
def oEqT : D → D → Option D
  | .str a, .str b => some (.bl (a == b))
  | _, _ => none
theorem cm_eqT {X : Cx} {cn : Cn} : Cm X cn .Eq oEqT := ⟨⟨_, op_eq, by
  intro π hd H x y d v u Q hn rx ry ho k
  cases x <;> cases y <;> simp only [oEqT] at ho <;> (try contradiction)
  obtain ⟨rfl, h1⟩ := rx
  obtain ⟨rfl, h2⟩ := ry
  cases ho
  refine ⟨rfl, ?_⟩
  rw [dec_str]
  exact k _ H (Same.refl H) rfl⟩⟩

/-! ### the errors that may be told -/
def FsA (K : PySem.W.Frag) (C : Addr) : List Str → Prop
  | [] => True
  | f :: fs => PySem.W.findIn K (.ref C) f = some none ∧ FsA K C fs
def ErFA (K : PySem.W.Frag) (cn : Str → Addr) (C1 C2 C3 : Addr) (fs : List Str) : List Str → Prop
  | [] => True
  | c :: cs => PySem.W.exmAny K (.ref (cn c)) [.ref C1, .ref C2, .ref C3] = some true ∧ XfC K (cn c) ∧ FsA K (cn c) fs ∧ ErFA K cn C1 C2 C3 fs cs
theorem FsA.get {K : PySem.W.Frag} {C : Addr} {f : Str} : ∀ {fs : List Str}, FsA K C fs → hasC f fs = true → PySem.W.findIn K (.ref C) f = some none
  | [], _, h => by cases h
  | g :: fs, h, q => by
    rcases Bool.or_eq_true_iff.mp (show (f == g || hasC f fs) = true from q) with q | q
    · rw [eq_of_beq q]; exact h.1
    · exact FsA.get h.2 q
theorem ErFA.get {K : PySem.W.Frag} {cn : Str → Addr} {C1 C2 C3 : Addr} {fs : List Str} {c : Str} : ∀ {cs : List Str}, ErFA K cn C1 C2 C3 fs cs → hasC c cs = true → PySem.W.exmAny K (.ref (cn c)) [.ref C1, .ref C2, .ref C3] = some true ∧ XfC K (cn c) ∧ FsA K (cn c) fs
  | [], _, h => by cases h
  | g :: cs, h, q => by
    rcases Bool.or_eq_true_iff.mp (show (c == g || hasC c cs) = true from q) with q | q
    · rw [eq_of_beq q]; exact ⟨h.1, h.2.1, h.2.2.1⟩
    · exact ErFA.get h.2.2.2 q
theorem ErF.of {K : PySem.W.Frag} {cn : Str → Addr} {C1 C2 C3 : Addr} {cs fs : List Str} (h : ErFA K cn C1 C2 C3 fs cs) (ht : hasC "tag" fs = true) : ErF K cn C1 C2 C3 cs fs :=
  ⟨fun c q => (h.get q).1, fun c f q1 q2 => ⟨cn c, rfl, (h.get q1).2.1, (h.get q1).2.2.get q2⟩, ht⟩
end DM

/-! The end of a law that makes lambdas: tables of code objects beside the bag. -/
namespace DM
open PySem PySem.Spec PyProof.Rows L2 LamX

/-! ### a lambda of the text, by its place -/
inductive Nd where
  | s (x : Stmt) | e (x : Expr) | no
def nthE (l : List Expr) (n : Nat) : Nd := match l[n]? with
  | some x => .e x
  | none => .no
def kid : Nd → Nat → Nd
  | .s (.FunctionDef _ _ b _ _ _ _ _ _ _), n => (match b[n]? with | some x => .s x | none => .no)
  | .s (.Return (some x) _), _ => .e x
  | .s (.Assign _ x _), _ => .e x
  | .s (.Expr x _), _ => .e x
  | .s (.For _ it b o _), n => (match n with | 0 => .e it | k + 1 => (match (b ++ o)[k]? with | some x => .s x | none => .no))
  | .s (.While t b o _), n => (match n with | 0 => .e t | k + 1 => (match (b ++ o)[k]? with | some x => .s x | none => .no))
  | .s (.If t b o _), n => (match n with | 0 => .e t | k + 1 => (match (b ++ o)[k]? with | some x => .s x | none => .no))
  | .e (.BoolOp _ es _), n => nthE es n
  | .e (.BinOp a _ b _), n => nthE [a, b] n
  | .e (.UnaryOp _ a _), n => nthE [a] n
  | .e (.IfExp c a b _), n => nthE [c, a, b] n
  | .e (.Compare a _ bs _), n => nthE (a :: bs) n
  | .e (.Call f as _ _), n => nthE (f :: as) n
  | .e (.Attribute a _ _), n => nthE [a] n
  | .e (.Subscript a b _), n => nthE [a, b] n
  | .e (.List es _), n => nthE es n
  | .e (.Tuple es _ _), n => nthE es n
  | .e (.ListComp x _ _ _), _ => .e x
  | _, _ => .no
def walkN : Nd → List Nat → Nd
  | x, [] => x
  | x, n :: ns => walkN (kid x n) ns
def lamOf (ps fr : List Str) (dvs : List V) : Nd → LamT
  | .e (.Lambda params body scope _) => ⟨params, body, scope, ps, fr, dvs⟩
  | _ => ⟨⟨[], [], none, [], [], none, []⟩, .Constant .none 0 ⟨0, 0, 0, 0⟩, default, ps, fr, dvs⟩

/-! ### the end -/
/-- the law's own promise where tables ts stand empty -/
def spLawT (K : PySem.W.Frag) (ts : List (Addr × Str)) : Sp := fun vs H Q _ => ∃ (a : Addr) (ns : List Int), vs = [.ref a] ∧ SqL K H a (ns.map V.int) ∧ ns.length ≤ 63 ∧ (∀ p ∈ ts, H p.1 = some (.tbl #[])) ∧ ∀ H', Q (.bl true) H'
theorem lawT_len {K : PySem.W.Frag} {ts : List (Addr × Str)} : ∀ vs H Q E, spLawT K ts vs H Q E → vs.length = 1 := fun vs H Q E ⟨a, ns, h, _⟩ => by rw [h]; rfl
/-- the mirror behind the bag's making -/
def bag0T (ns : List Int) (qs : List Str) : Mir := some (.lst [.lst (ns.map .int), .int 0, .int 0, .int 3846]) :: qs.map fun q => some (.tbl q)
theorem law_readT {K : PySem.W.Frag} {cn : Str → Addr} {N : List Str} {vs : List V} {H : Hp} {Q : VK} {E : XK} {g : Fs} {nx : L2.St → Hp → Prop} {ts : List (Addr × Str)} {env : Env} {tx : Nat → Option LamT} {n : Nat} {P : Addr} (hN : 2 ≤ N.length) (h : spLawT K ts vs H Q E)
    (hnd : (ts.map (·.1)).Nodup) (hn : (ts.map (·.1))[n]? = some P)
    (run : ∀ ns : List Int, ns.length ≤ 63 → ∃ m, g (.un :: .dat (.ref 0) :: List.replicate (N.length - 2) .un) (bag0T ns (ts.map (·.2))) = .rt (.bl true) m) :
    tSeq (tAsg (tCall (spBag K) [] E (tCons (tVar 0) tNil)) (gName 1)) (tS (gx K ⟨cn, lamJ env tx (n + 1) P⟩) (fun _ => E) g) { nx := nx, rt := Q } (L2.start N vs) H := by
  obtain ⟨a, ns, rfl, hS, hl, hT, k⟩ := h
  refine ⟨.ref a, rfl, a, ns, rfl, hS, hl, fun b c H' hb hc hbc h1 h2 hs => ?_⟩
  obtain ⟨m, hm⟩ := run ns hl
  have e0 : (L2.start N [.ref a]).set 1 (some (.ref b)) = some (.ref a) :: some (.ref b) :: List.replicate (N.length - 2) none := by
    unfold L2.start
    have : N.length - [V.ref a].length = (N.length - 2) + 1 := by
      show N.length - 1 = _
      omega
    rw [this, List.replicate_succ]
    rfl
  show tS (gx K ⟨cn, lamJ env tx (n + 1) P⟩) (fun _ => E) g { nx := nx, rt := Q } ((L2.start N [.ref a]).set 1 (some (.ref b))) H'
  rw [e0]
  have tabs : ∀ q, q ∈ ts.map (·.1) → H q = some (.tbl #[]) := fun q hq => by
    obtain ⟨p, hp, e⟩ := List.mem_map.mp hq
    rw [← e]
    exact hT p hp
  have nb : b ∉ ts.map (·.1) := fun z => by rw [tabs b z] at hb; cases hb
  have nc : c ∉ ts.map (·.1) := fun z => by rw [tabs c z] at hc; cases hc
  have hcl : lv ⟨b :: ts.map (·.1), fun _ => false, lmX env tx⟩ (bag0T ns (ts.map (·.2))) c = false := by
    refine lv_false.mpr ⟨rfl, ?_⟩
    cases z : mlv ⟨b :: ts.map (·.1), fun _ => false, lmX env tx⟩ (bag0T ns (ts.map (·.2))) c with
    | false => rfl
    | true =>
      rcases List.mem_cons.mp (mlv_mem z) with q | q
      · exact absurd q.symm hbc
      · exact absurd q nc
  refine ⟨⟨b :: ts.map (·.1), fun _ => false, lmX env tx⟩, .un :: .dat (.ref 0) :: List.replicate (N.length - 2) .un, bag0T ns (ts.map (·.2)), ⟨⟨by simp, fun i s hs => ?_⟩, ⟨by simp [bag0T], List.nodup_cons.mpr ⟨nb, hnd⟩, fun q hq => ?_, fun q hq => Bool.noConfusion (show false = true from hq), fun q _ => rfl, fun j d q e1 e2 => ?_⟩, rfl, by simpa using hn⟩, ?_⟩
  · match i with
    | 0 => cases hs; exact ⟨_, rfl, trivial⟩
    | 1 => cases hs; exact ⟨_, rfl, .ref b, rfl, b, rfl, rfl⟩
    | i + 2 =>
      have hs' : (List.replicate (N.length - 2) Sl.un)[i]? = some s := hs
      have hlt := (List.getElem?_eq_some_iff.mp hs').1
      rw [List.length_replicate] at hlt
      rw [List.getElem?_replicate_of_lt hlt] at hs'
      cases hs'
      refine ⟨none, ?_, trivial⟩
      show (List.replicate (N.length - 2) none)[i]? = some none
      rw [List.getElem?_replicate_of_lt hlt]
  · rcases List.mem_cons.mp hq with q' | q'
    · rw [q', h1]; simp
    · rw [hs _ _ (tabs q q')]; simp
  · match j with
    | 0 =>
      cases e2
      cases e1
      exact ⟨_, h1, _, _, rfl, ⟨c, _, rfl, hid_some.mpr ⟨hcl, h2⟩, rep_intl ns⟩, _, _, rfl, rfl, _, _, rfl, rfl, _, _, rfl, rfl, rfl⟩
    | j + 1 =>
      have e1' : ((ts.map (·.2)).map fun q => some (D.tbl q))[j]? = some (some d) := e1
      have e2' : (ts.map (·.1))[j]? = some q := e2
      rw [List.getElem?_map] at e1'
      cases hq : (ts.map (·.2))[j]? with
      | none => rw [hq] at e1'; cases e1'
      | some t =>
        rw [hq] at e1'
        cases e1'
        exact ⟨#[], hs _ _ (tabs q (List.mem_of_getElem? e2')), trivial, fun pos cv hcv => by simp [codeAmong] at hcv⟩
  · rw [hm]
    intro π2 v H2 _ rv
    obtain rfl : v = .bl true := rv
    exact k H2

/-! ### what a lambda captures, by reckoning -/
def capsB (N : List Str) (sc : Scope) (L : LamT) (cs : List Nat) : Bool := decide (cs.length = L.fr.length) && (cs.zip L.fr).all (fun p => decide (N[p.1]? = some p.2)) && L.fr.all (fun y => decide (sc.names.lookup y = some .cell) || decide (sc.names.lookup y = some .free)) &&
  L.scope.names.all (fun y => !decide (y.2 = .free) || decide (sc.names.lookup y.1 = some .cell) || decide (sc.names.lookup y.1 = some .free)) && L.fr.all fun y => decide ((y, NameKind.free) ∈ L.scope.names)
theorem caps_by {X : Cx} {N : List Str} {sc : Scope} {L : LamT} {cs : List Nat} (hN : X.N = N) (hs : X.env.scope = sc) (h : capsB N sc L cs = true) : Caps X L cs := by
  subst hN hs
  unfold capsB at h
  simp only [Bool.and_eq_true, Bool.or_eq_true, Bool.not_eq_true', decide_eq_true_eq, List.all_eq_true, decide_eq_false_iff_not] at h
  obtain ⟨⟨⟨⟨h1, h2⟩, h3⟩, h4⟩, h5⟩ := h
  refine ⟨h1, fun j i y e1 e2 => ?_, h3, fun y hy e => (h4 y hy).elim (fun z => z.elim (fun z => absurd e z) .inl) .inr, h5⟩
  have hm : (i, y) ∈ cs.zip L.fr := by
    refine List.mem_iff_getElem?.mpr ⟨j, ?_⟩
    rw [List.getElem?_zip_eq_some]
    exact ⟨e1, e2⟩
  exact h2 (i, y) hm
theorem lam_frs {X : Cx} {N ps : List Str} {n : Nat} {L : LamT} {cs : List Nat} (S : FnScope N ps X.env.scope) (hc : X.env.cells = cellsFrom n X.env.scope.names []) (C : Caps X L cs) : ∀ y ∈ L.scope.names, y.2 = .free → ∃ c, X.env.cells.lookup y.1 = some c := fun y hy e => by
  rw [hc]
  rcases C.fr y hy e with z | z
  · exact cell_has z
  · exact absurd rfl (S.nofree _ (PySem.mem_of_lookup z))
end DM

/-! What the plain sides of all laws share: the bag, the draws, the test of sameness. -/
namespace Bag
open PySem PySem.Spec PyProof.Rows L2 DM
theorem zipD_map (a b : Nat → D) : ∀ xs : List Nat, zipD (xs.map a) (xs.map b) = xs.map fun k => .tup [a k, b k]
  | [] => rfl
  | x :: xs => by
    rw [List.map_cons, List.map_cons, List.map_cons, zipD, zipD_map a b xs]
theorem range_lt {n : Nat} (h : n ≤ 1000) (f : Nat → D) : ((List.range n).map f).length < sizeLine := by
  rw [List.length_map, List.length_range, sizeLine_eq]
  omega
theorem rowsD_map (a : Nat → List D) : ∀ xs : List Nat, rowsD (xs.map fun i => .tup (a i)) = some (xs.map a)
  | [] => rfl
  | x :: xs => by
    rw [List.map_cons, rowsD, rowsD_map a xs]
    rfl
theorem textsOf_map {α : Type} (a : α → Str) : ∀ xs : List α, textsOf (xs.map fun k => .str (a k)) = some (xs.map a)
  | [] => rfl
  | x :: xs => by
    rw [List.map_cons]
    show (textsOf (xs.map fun k => .str (a k))).map _ = _
    rw [textsOf_map a xs]
    rfl
theorem sum_ones : ∀ xs : List Nat, (xs.map fun _ => 1).sum = xs.length
  | [] => rfl
  | x :: xs => by rw [List.map_cons, List.sum_cons, sum_ones xs, List.length_cons]; omega
theorem enumD_range (a : Nat → D) : ∀ (n k : Nat), enumD k ((List.range' k n).map a) = (List.range' k n).map fun i => .tup [.int i, a i]
  | 0, k => rfl
  | n + 1, k => by
    rw [List.range'_succ, List.map_cons, List.map_cons, enumD, enumD_range a n (k + 1)]
theorem enumD_map (a : Nat → D) (n : Nat) : enumD 0 ((List.range n).map a) = (List.range n).map fun i => .tup [.int i, a i] := by
  rw [List.range_eq_range']; exact enumD_range a n 0
theorem oEq_int (a b : Int) : oEq (.int a) (.int b) = some (.bl (a == b)) := by rfl
/-- a mirror whose objects look at no others -/
def Fm (m : Mir) : Prop := ∀ k j, cellsBelow k j m = true
theorem Fm.snoc : ∀ {m : Mir}, Fm m → Fm (m ++ [none])
  | [], _, k, 0 => rfl
  | [], _, k, j + 1 => by
    show cellsBelow k j [] = true
    cases j <;> rfl
  | c :: m, h, k, 0 => rfl
  | none :: m, h, k, j + 1 => Fm.snoc (m := m) (fun k j => h k (j + 1)) k j
  | some d :: m, h, k, j + 1 => by
    have h1 : (D.low k d && cellsBelow k j m) = true := h k (j + 1)
    have h2 := Bool.and_eq_true_iff.mp h1
    show (D.low k d && cellsBelow k j (m ++ [none])) = true
    rw [h2.1, Fm.snoc (m := m) (fun k j => (Bool.and_eq_true_iff.mp (h k (j + 1))).2) k j]
    rfl
theorem low_map {α : Type} {k : Nat} {a : α → D} (h : ∀ x, D.low k (a x) = true) : ∀ xs : List α, D.lows k (xs.map a) = true
  | [] => rfl
  | x :: xs => by
    rw [List.map_cons, D.lows, h x, low_map h xs]
    rfl
theorem ev_run1 {n : Nat} {g : Fs} {as : Sls} {d : D} {m : Mir} (hm : Fm m) (hd : ∀ k, D.low k d = true) (e : g (as ++ List.replicate (n - as.length) .un) m = .rt d (m ++ [none])) : runF n g as m = .ok d m := by
  unfold runF
  rw [e]
  show trimR m.length d (m ++ [none]) = _
  unfold trimR
  rw [if_neg (by simp), if_pos (by rw [hd, hm.snoc]; rfl), List.take_left']
  rfl

theorem bools_true {α : Type} : ∀ xs : List α, boolsOf (xs.map fun _ => D.bl true) = some (xs.map fun _ => true)
  | [] => rfl
  | x :: xs => by
    rw [List.map_cons]
    show (boolsOf (xs.map fun _ => D.bl true)).map _ = _
    rw [bools_true xs]
    rfl
theorem all_true {α : Type} : ∀ xs : List α, (xs.map fun _ => true).all id = true
  | [] => rfl
  | x :: xs => all_true xs
theorem oAll_true {α : Type} (xs : List α) : oAll [.lst (xs.map fun _ => D.bl true)] = some (.bl true) := by
  show (boolsOf _).map _ = _
  rw [bools_true, Option.map_some, all_true]
theorem cell_snoc (d : Option D) : ∀ m : Mir, cell (m ++ [d]) m.length = d
  | [] => rfl
  | c :: m => cell_snoc d m
theorem set_snoc (d e : Option D) : ∀ m : Mir, (m ++ [d]).set m.length e = m ++ [e]
  | [] => rfl
  | c :: m => by
    show c :: (m ++ [d]).set m.length e = _
    rw [set_snoc d e m]
    rfl
theorem rng_nat (n : Nat) : rng 0 (n : Int).toNat = (List.range n).map fun (i : Nat) => D.int (i : Nat) := by
  unfold rng
  rw [Int.toNat_natCast]
  refine List.map_congr_left fun i _ => ?_
  rw [Int.zero_add]
theorem oMod_int (a b : Int) (h : 0 < b) : oMod (.int a) (.int b) = some (.int (a % b)) := if_pos h
theorem oFdiv_int (a b : Int) (h : 0 < b ∧ b < 1073741824) : oFdiv (.int a) (.int b) = some (.int (a / b)) := if_pos h
theorem atI_nat {α : Type} (xs : List α) (i : Nat) (h : i < xs.length) : atI xs (i : Int) = xs[i]? := by
  unfold atI ixN
  rw [if_pos (by omega), if_pos (by omega)]
  rfl
theorem ev_newL {δ : Sls} {m m1 : Mir} {g : Fa} {ds : List D} (e : g δ m = .ok ds m1) (h : ds.length ≤ 1000) : fNewL g δ m = .ok (.ref m1.length) (m1 ++ [some (.lst ds)]) := by
  unfold fNewL
  rw [e]
  show (if _ then _ else _) = _
  rw [if_pos (by rw [sizeLine_eq]; omega)]
theorem mapF_str (k : Nat) (m : Mir) (a : Nat → Str) : ∀ xs : List Nat, mapF (frzD (k + 1)) (xs.map fun i => .str (a i)) m = some (xs.map fun i => .str (a i), m)
  | [] => rfl
  | x :: xs => by
    rw [List.map_cons]
    show (mapF (frzD (k + 1)) (xs.map fun i => .str (a i)) m).bind _ = _
    rw [mapF_str k m a xs]
    rfl
theorem ev_range2 {δ : Sls} {m m1 : Mir} {g : Fa} {i j : Int} {c : Nat} (e : g δ m = .ok [.int i, .int j] m1) (h : -(2 ^ 62) ≤ i ∧ i < 2 ^ 62 ∧ -(2 ^ 62) ≤ j ∧ j < 2 ^ 62) (hc : (j - i).toNat = c) : fRange2 g δ m = .ok (rng i c, none) m1 := by
  unfold fRange2
  rw [e]
  simp only [Rs.bind]
  rw [if_pos h, hc]
theorem low_ints (k : Nat) : ∀ ns : List Int, D.lows k (ns.map D.int) = true
  | [] => rfl
  | x :: ns => low_ints k ns
theorem oLt_int (a b : Int) : oLt (.int a) (.int b) = some (.bl (decide (a < b))) := rfl
theorem oGt_int (a b : Int) : oGt (.int a) (.int b) = some (.bl (decide (b < a))) := rfl
theorem oGe_int (a b : Int) : oGe (.int a) (.int b) = some (.bl (decide (b ≤ a))) := rfl
theorem oMul_int (a b : Int) (h : (-18446744073709551616 < a ∧ a < 18446744073709551616) ∨ (-18446744073709551616 < b ∧ b < 18446744073709551616)) : oMul (.int a) (.int b) = some (.int (a * b)) := if_pos h
/-- the bag as a list -/
abbrev bagL (ns : List Int) (i k r : Int) : D := .lst [.lst (ns.map D.int), .int i, .int k, .int r]
section
variable {δ : Sls} {ns : List Int} {i k r : Int} {rest : Mir}
theorem bag_get {p : Nat} {d : D} (j : Int) (h0 : δ[0]? = some (.dat (.ref 0))) (hj : atI [D.lst (ns.map D.int), .int i, .int k, .int r] j = some d) : f2 oIx (fVar 0) (fC (.int j)) δ (some (bagL ns i k r) :: rest) = .ok d (some (bagL ns i k r) :: rest) := by
  have v : fVar 0 δ (some (bagL ns i k r) :: rest) = .ok (.ref 0) (some (bagL ns i k r) :: rest) := by unfold fVar; rw [h0]
  exact ev_f2 v rfl (x' := bagL ns i k r) rfl rfl hj
end
section
variable {δ : Sls} {ns : List Int} {i k r : Int} {rest : Mir}
theorem bag_put {f : Fe} {d : D} {ds : List D} (j : Int) (p : Nat) (h0 : δ[0]? = some (.dat (.ref 0))) (hv : f δ (some (bagL ns i k r) :: rest) = .ok d (some (bagL ns i k r) :: rest)) (hj : ixN 4 j = some p) (hs : [D.lst (ns.map D.int), .int i, .int k, .int r].set p d = ds) :
    sPutL (fVar 0) (fC (.int j)) f δ (some (bagL ns i k r) :: rest) = .nx δ (some (.lst ds) :: rest) := by
  have v : fVar 0 δ (some (bagL ns i k r) :: rest) = .ok (.ref 0) (some (bagL ns i k r) :: rest) := by unfold fVar; rw [h0]
  unfold sPutL
  rw [hv]
  simp only [DM.thn]
  rw [v]
  simp only []
  show (match ixN 4 j with
    | some j => _
    | none => _) = _
  rw [hj]
  show Fl.nx δ (some (D.lst ([D.lst (ns.map D.int), .int i, .int k, .int r].set p d)) :: rest) = _
  rw [hs]
end
def p1 : Fs := sIf (fAnd (fB (f2 oEq (f2 oIx (fVar 0) (fC (.int 2))) (fC (.int 0)))) (fB (f2 oLt (f2 oIx (fVar 0) (fC (.int 1))) (fCB oLen (fCons (f2 oIx (fVar 0) (fC (.int 0))) (fNil)))))) (sSeq (sSet 2 (f2 oIx (f2 oIx (fVar 0) (fC (.int 0))) (f2 oIx (fVar 0) (fC (.int 1))))) (sSeq (sPutL (fVar 0) (fC (.int 1)) (f2 oAdd (f2 oIx (fVar 0) (fC (.int 1))) (fC (.int 1)))) (sIf (fB (f2 oGe (fCB oAbs (fCons (fVar 2) (fNil))) (f2 oPow (fC (.int 10)) (fC (.int 18))))) (sPutL (fVar 0) (fC (.int 2)) (fCB oAbs (fCons (fVar 2) (fNil)))) (sPutL (fVar 0) (fC (.int 3)) (f2 oMod (fCB oInt (fCons (f2 oAdd (f2 oAdd (f2 oMul (f2 oIx (fVar 0) (fC (.int 3))) (fC (.int 48271))) (f2 oMul (f2 oMod (fCB oInt (fCons (fVar 2) (fNil))) (fC (.int 1000003))) (fC (.int 911)))) (fC (.int 7))) (fNil))) (fC (.int 2147483647))))))) (sNx)
def p2 : Fs := (sSeq (sIf (fB (f2 oGt (f2 oIx (fVar 0) (fC (.int 2))) (fC (.int 0)))) (sSeq (sSet 3 (f2 oMod (fCB oInt (fCons (f2 oIx (fVar 0) (fC (.int 2))) (fNil))) (fVar 1))) (sSeq (sPutL (fVar 0) (fC (.int 2)) (f2 oFdiv (f2 oIx (fVar 0) (fC (.int 2))) (fVar 1))) (sRet (fVar 3)))) (sNx)) (sSeq (sSet 4 (f2 oMod (fCB oInt (fCons (f2 oMul (f2 oIx (fVar 0) (fC (.int 3))) (f2 oIx (fVar 0) (fC (.int 3)))) (fNil))) (fC (.int 2147483629)))) (sSeq (sPutL (fVar 0) (fC (.int 3)) (f2 oMod (fCB oInt (fCons (f2 oAdd (f2 oAdd (f2 oMul (fVar 4) (fC (.int 16807))) (f2 oMul (f2 oIx (fVar 0) (fC (.int 3))) (fC (.int 40692)))) (fC (.int 12345))) (fNil))) (fC (.int 2147483647)))) (sRet (f2 oMod (fCB oInt (fCons (f2 oFdiv (f2 oIx (fVar 0) (fC (.int 3))) (fC (.int 64))) (fNil))) (fVar 1))))))
theorem p1_ok {ns : List Int} {i k r : Int} {rest : Mir} (n : Int) (h1 : 0 ≤ i) (h2 : 0 ≤ r) (h3 : r < 2147483647) : ∃ s i' k' r', p1 [.dat (.ref 0), .dat (.int n), .un, .un, .un] (some (bagL ns i k r) :: rest) = .nx [.dat (.ref 0), .dat (.int n), s, .un, .un] (some (bagL ns i' k' r') :: rest) ∧ 0 ≤ i' ∧ 0 ≤ r' ∧ r' < 2147483647 := by
  have t1 : fB (f2 oEq (f2 oIx (fVar 0) (fC (.int 2))) (fC (.int 0))) [.dat (.ref 0), .dat (.int n), .un, .un, .un] (some (bagL ns i k r) :: rest) = .ok (k == 0) (some (bagL ns i k r) :: rest) := ev_fB (ev_f2 (bag_get (p := 0) 2 rfl rfl) rfl rfl rfl (oEq_int k 0))
  have t2 : fB (f2 oLt (f2 oIx (fVar 0) (fC (.int 1))) (fCB oLen (fCons (f2 oIx (fVar 0) (fC (.int 0))) (fNil)))) [.dat (.ref 0), .dat (.int n), .un, .un, .un] (some (bagL ns i k r) :: rest) = .ok (decide (i < ((ns.map D.int).length : Int))) (some (bagL ns i k r) :: rest) :=
    ev_fB (ev_f2 (bag_get (p := 0) 1 rfl rfl) (ev_CB (ev_one (bag_get (p := 0) 0 rfl rfl)) rfl rfl) rfl rfl (oLt_int _ _))
  unfold p1
  by_cases hk : k = 0
  · have t1' := t1
    rw [hk] at t1'
    by_cases hi : i < ((ns.map D.int).length : Int)
    · rw [decide_eq_true hi] at t2
      have hil : i.toNat < (ns.map D.int).length := by omega
      have hit : ((i.toNat : Nat) : Int) = i := Int.toNat_of_nonneg h1
      obtain ⟨c, hc⟩ : ∃ c, oIx (.lst (ns.map D.int)) (.int i) = some (.int c) := by
        show ∃ c, atI (ns.map D.int) i = some (.int c)
        rw [← hit, atI_nat _ _ hil, List.getElem?_map]
        rw [List.length_map] at hil
        exact ⟨ns[i.toNat], by rw [List.getElem?_eq_getElem hil]; rfl⟩
      have g1 : sSet 2 (f2 oIx (f2 oIx (fVar 0) (fC (.int 0))) (f2 oIx (fVar 0) (fC (.int 1)))) [.dat (.ref 0), .dat (.int n), .un, .un, .un] (some (bagL ns i k r) :: rest) = .nx [.dat (.ref 0), .dat (.int n), .dat (.int c), .un, .un] (some (bagL ns i k r) :: rest) :=
        ev_set (ev_f2 (bag_get (p := 0) 0 rfl rfl) (bag_get (p := 0) 1 rfl rfl) rfl rfl hc)
      have g2 : sPutL (fVar 0) (fC (.int 1)) (f2 oAdd (f2 oIx (fVar 0) (fC (.int 1))) (fC (.int 1))) [.dat (.ref 0), .dat (.int n), .dat (.int c), .un, .un] (some (bagL ns i k r) :: rest) = .nx [.dat (.ref 0), .dat (.int n), .dat (.int c), .un, .un] (some (bagL ns (i + 1) k r) :: rest) :=
        bag_put (d := .int (i + 1)) 1 1 rfl (ev_f2 (bag_get (p := 0) 1 rfl rfl) rfl rfl rfl rfl) rfl rfl
      have ab : fCB oAbs (fCons (fVar 2) (fNil)) [.dat (.ref 0), .dat (.int n), .dat (.int c), .un, .un] (some (bagL ns (i + 1) k r) :: rest) = .ok (.int (if c < 0 then -c else c)) (some (bagL ns (i + 1) k r) :: rest) := ev_CB (ev_one rfl) rfl rfl
      have p18 : f2 oPow (fC (.int 10)) (fC (.int 18)) [.dat (.ref 0), .dat (.int n), .dat (.int c), .un, .un] (some (bagL ns (i + 1) k r) :: rest) = .ok (.int 1000000000000000000) (some (bagL ns (i + 1) k r) :: rest) := ev_f2 rfl rfl rfl rfl (by rfl)
      have t3 : fB (f2 oGe (fCB oAbs (fCons (fVar 2) (fNil))) (f2 oPow (fC (.int 10)) (fC (.int 18)))) [.dat (.ref 0), .dat (.int n), .dat (.int c), .un, .un] (some (bagL ns (i + 1) k r) :: rest) = .ok (decide ((1000000000000000000 : Int) ≤ (if c < 0 then -c else c))) (some (bagL ns (i + 1) k r) :: rest) := ev_fB (ev_f2 ab p18 rfl rfl (oGe_int _ _))
      have start := ev_ifT (h := sNx) (g := sSeq (sSet 2 (f2 oIx (f2 oIx (fVar 0) (fC (.int 0))) (f2 oIx (fVar 0) (fC (.int 1))))) (sSeq (sPutL (fVar 0) (fC (.int 1)) (f2 oAdd (f2 oIx (fVar 0) (fC (.int 1))) (fC (.int 1)))) (sIf (fB (f2 oGe (fCB oAbs (fCons (fVar 2) (fNil))) (f2 oPow (fC (.int 10)) (fC (.int 18))))) (sPutL (fVar 0) (fC (.int 2)) (fCB oAbs (fCons (fVar 2) (fNil)))) (sPutL (fVar 0) (fC (.int 3)) (f2 oMod (fCB oInt (fCons (f2 oAdd (f2 oAdd (f2 oMul (f2 oIx (fVar 0) (fC (.int 3))) (fC (.int 48271))) (f2 oMul (f2 oMod (fCB oInt (fCons (fVar 2) (fNil))) (fC (.int 1000003))) (fC (.int 911)))) (fC (.int 7))) (fNil))) (fC (.int 2147483647))))))) ((ev_andT (t1.trans (by rw [hk]; rfl))).trans t2)
      by_cases hb : (1000000000000000000 : Int) ≤ (if c < 0 then -c else c)
      · rw [decide_eq_true hb] at t3
        exact ⟨_, _, _, _, start.trans ((ev_seq g1).trans ((ev_seq g2).trans ((ev_ifT t3).trans (bag_put (d := .int (if c < 0 then -c else c)) 2 2 rfl ab rfl rfl)))), by omega, h2, h3⟩
      · rw [decide_eq_false hb] at t3
        have val : f2 oMod (fCB oInt (fCons (f2 oAdd (f2 oAdd (f2 oMul (f2 oIx (fVar 0) (fC (.int 3))) (fC (.int 48271))) (f2 oMul (f2 oMod (fCB oInt (fCons (fVar 2) (fNil))) (fC (.int 1000003))) (fC (.int 911)))) (fC (.int 7))) (fNil))) (fC (.int 2147483647)) [.dat (.ref 0), .dat (.int n), .dat (.int c), .un, .un] (some (bagL ns (i + 1) k r) :: rest) = .ok (.int ((r * 48271 + c % 1000003 * 911 + 7) % 2147483647)) (some (bagL ns (i + 1) k r) :: rest) := by
          refine ev_f2 (ev_CB (ev_one (ev_f2 (ev_f2 (ev_f2 (bag_get (p := 0) 3 rfl rfl) rfl rfl rfl (oMul_int _ _ (.inr ⟨by decide, by decide⟩))) (ev_f2 (ev_f2 (ev_CB (ev_one rfl) rfl rfl) rfl rfl rfl (oMod_int _ _ (by decide))) rfl rfl rfl (oMul_int _ _ (.inr ⟨by decide, by decide⟩))) rfl rfl rfl) rfl rfl rfl rfl)) rfl rfl) rfl rfl rfl (oMod_int _ _ (by decide))
        exact ⟨_, _, _, _, start.trans ((ev_seq g1).trans ((ev_seq g2).trans ((ev_ifF t3).trans (bag_put 3 3 rfl val rfl rfl)))), by omega, Int.emod_nonneg _ (by decide), Int.emod_lt_of_pos _ (by decide)⟩
    · rw [decide_eq_false hi] at t2
      exact ⟨_, _, _, _, (ev_ifF ((ev_andT (t1.trans (by rw [hk]; rfl))).trans t2)).trans rfl, h1, h2, h3⟩
  · exact ⟨_, _, _, _, (ev_ifF (ev_andF (t1.trans (by rw [beq_false_of_ne hk])))).trans rfl, h1, h2, h3⟩
theorem p2_ok {ns : List Int} {i k r : Int} {rest : Mir} {s : Sl} (n : Int) (h0 : 0 < n) (hn : n < 1073741824) (h1 : 0 ≤ i) (h2 : 0 ≤ r) (h3 : r < 2147483647) : ∃ d i' k' r', p2 [.dat (.ref 0), .dat (.int n), s, .un, .un] (some (bagL ns i k r) :: rest) = .rt (.int d) (some (bagL ns i' k' r') :: rest) ∧ 0 ≤ d ∧ d < n ∧ 0 ≤ i' ∧ 0 ≤ r' ∧ r' < 2147483647 := by
  have t1 : fB (f2 oGt (f2 oIx (fVar 0) (fC (.int 2))) (fC (.int 0))) [.dat (.ref 0), .dat (.int n), s, .un, .un] (some (bagL ns i k r) :: rest) = .ok (decide (0 < k)) (some (bagL ns i k r) :: rest) := ev_fB (ev_f2 (bag_get (p := 0) 2 rfl rfl) rfl rfl rfl (oGt_int k 0))
  have hmn : ∀ x : Int, 0 ≤ x % n ∧ x % n < n := fun x => ⟨Int.emod_nonneg _ (by omega), Int.emod_lt_of_pos _ h0⟩
  unfold p2
  by_cases hk : 0 < k
  · rw [decide_eq_true hk] at t1
    refine ⟨k % n, i, k / n, r, ev_seqR ((ev_ifT t1).trans ((ev_seq (δ1 := [.dat (.ref 0), .dat (.int n), s, .dat (.int (k % n)), .un]) (m1 := some (bagL ns i k r) :: rest) (ev_set (ev_f2 (ev_CB (ev_one (bag_get (p := 0) 2 rfl rfl)) rfl rfl) rfl rfl rfl (oMod_int _ _ h0)))).trans ((ev_seq (δ1 := [.dat (.ref 0), .dat (.int n), s, .dat (.int (k % n)), .un]) (m1 := some (bagL ns i (k / n) r) :: rest) (bag_put 2 2 rfl (ev_f2 (bag_get (p := 0) 2 rfl rfl) rfl rfl rfl (oFdiv_int _ _ ⟨h0, hn⟩)) rfl rfl)).trans rfl))), (hmn _).1, (hmn _).2, h1, h2, h3⟩
  · rw [decide_eq_false hk] at t1
    refine ⟨_, i, k, _, (ev_seq ((ev_ifF t1).trans rfl)).trans ((ev_seq (δ1 := [.dat (.ref 0), .dat (.int n), s, .un, .dat (.int (r * r % 2147483629))]) (m1 := some (bagL ns i k r) :: rest) (ev_set (ev_f2 (ev_CB (ev_one (ev_f2 (bag_get (p := 0) 3 rfl rfl) (bag_get (p := 0) 3 rfl rfl) rfl rfl (oMul_int _ _ (.inl ⟨by omega, by omega⟩)))) rfl rfl) rfl rfl rfl (oMod_int _ _ (by decide))))).trans
      ((ev_seq (bag_put (d := .int ((r * r % 2147483629 * 16807 + r * 40692 + 12345) % 2147483647)) 3 3 rfl (ev_f2 (ev_CB (ev_one (ev_f2 (ev_f2 (ev_f2 rfl rfl rfl rfl (oMul_int _ _ (.inr ⟨by decide, by decide⟩))) (ev_f2 (bag_get (p := 0) 3 rfl rfl) rfl rfl rfl (oMul_int _ _ (.inr ⟨by decide, by decide⟩))) rfl rfl rfl) rfl rfl rfl rfl)) rfl rfl) rfl rfl rfl (oMod_int _ _ (by decide))) rfl rfl)).trans
        (ev_ret (ev_f2 (ev_CB (ev_one (ev_f2 (bag_get (p := 0) 3 rfl rfl) rfl rfl rfl (oFdiv_int _ _ ⟨by decide, by decide⟩))) rfl rfl) rfl rfl rfl (oMod_int _ _ h0))))), (hmn _).1, (hmn _).2, h1, Int.emod_nonneg _ (by decide), Int.emod_lt_of_pos _ (by decide)⟩
theorem pick {α : Type} (z : α) {R : D → Prop} {a : α → D} (hR : ∀ y, R y → ∃ g, y = a g) : ∀ (ys : List D), (∀ y ∈ ys, R y) → ∃ r : Nat → α, ys = (List.range ys.length).map fun j => a (r j)
  | [], _ => ⟨fun _ => z, rfl⟩
  | y :: ys, h => by
    obtain ⟨r, e⟩ := pick z hR ys fun x hx => h x (List.mem_cons_of_mem _ hx)
    obtain ⟨g, rfl⟩ := hR y (h y List.mem_cons_self)
    refine ⟨fun j => match j with | 0 => g | j + 1 => r j, ?_⟩
    rw [List.length_cons, List.range_succ_eq_map, List.map_cons, List.map_map]
    congr 1
theorem ev_lst {δ : Sls} {m m1 : Mir} {g : Fa} {ds : List D} (e : g δ m = .ok ds m1) (h : ds.length ≤ 1000) : fLst g δ m = .ok (.lst ds) m1 := by
  unfold fLst
  rw [e]
  show (if _ then _ else _) = _
  rw [if_pos (by rw [sizeLine_eq]; omega)]
theorem ev_join0 {δ : Sls} {m m1 : Mir} {f : Fe} {z : Str} {y y' : D} (e : f δ m = .ok y m1) (hy : view m1 y = some y') (h : oJoin (Str.ofString "") y' = some (.str z)) : fS2 oJoin (fC (.str "")) f δ m = .ok (.str z) m1 := ev_s2 rfl e hy h

/-! ### the bag, behind it the code tables -/
def tbs (tb : List Str) : Mir := tb.map fun q => some (.tbl q)
structure Ok (tb : List Str) (m : Mir) : Prop where
  ex : ∃ (ns : List Int) (i k r : Int) (rest : Mir), m = some (bagL ns i k r) :: (tbs tb ++ rest) ∧ Fm rest ∧ 0 ≤ i ∧ 0 ≤ r ∧ r < 2147483647
theorem fm_tbs {rest : Mir} (h : Fm rest) : ∀ tb : List Str, Fm (tbs tb ++ rest)
  | [] => h
  | q :: tb => fun a j => by
    cases j with
    | zero => rfl
    | succ j =>
      show (D.low a (.tbl q) && cellsBelow a j (tbs tb ++ rest)) = true
      rw [fm_tbs h tb a j]
      rfl
section
variable {tb : List Str} {m : Mir}
theorem Ok.fm (h : Ok tb m) : Fm m := by
  obtain ⟨ns, i, k, r, rest, rfl, hf, _⟩ := h.ex
  intro a j
  cases j with
  | zero => rfl
  | succ j =>
    show (D.low a (.lst [.lst (ns.map D.int), .int i, .int k, .int r]) && cellsBelow a j (tbs tb ++ rest)) = true
    rw [fm_tbs hf tb a j, D.low, D.lows, D.low, low_ints]
    rfl
theorem Ok.snoc (h : Ok tb m) : Ok tb (m ++ [none]) := by
  obtain ⟨ns, i, k, r, rest, rfl, hf, h1⟩ := h.ex
  exact ⟨ns, i, k, r, rest ++ [none], by rw [List.cons_append, List.append_assoc], hf.snoc, h1⟩
theorem Ok.start (ns : List Int) : Ok tb (bag0T ns tb) := ⟨ns, 0, 0, 3846, [], by rw [List.append_nil]; rfl, (fun k j => by cases j <;> rfl), by decide, by decide, by decide⟩
theorem Ok.start0 (ns : List Int) : Ok [] (bag0 ns) := ⟨ns, 0, 0, 3846, [], rfl, (fun k j => by cases j <;> rfl), by decide, by decide, by decide⟩
theorem cell_tbs {rest : Mir} : ∀ (tb : List Str) (j : Nat) (q : Str), tb[j]? = some q → cell (tbs tb ++ rest) j = some (.tbl q)
  | [], _, _, h => by cases h
  | x :: tb, 0, q, h => by cases h; rfl
  | x :: tb, j + 1, q, h => cell_tbs tb j q h
theorem Ok.tab (h : Ok tb m) {j : Nat} {q : Str} (e : tb[j]? = some q) : cell m (j + 1) = some (.tbl q) := by
  obtain ⟨ns, i, k, r, rest, rfl, _⟩ := h.ex
  exact cell_tbs tb j q e
/-- a lambda's making -/
theorem Ok.lam (h : Ok tb m) {δ : Sls} {j i : Nat} {q : Str} (e : tb[j]? = some q) : fLam (j + 1) q i δ m = .ok (.lam i) m := by
  unfold fLam
  rw [h.tab e]
  exact if_pos rfl
def pullG : Fs :=
  sSeq (sIf (fAnd (fB (f2 oEq (f2 oIx (fVar 0) (fC (.int 2))) (fC (.int 0)))) (fB (f2 oLt (f2 oIx (fVar 0) (fC (.int 1))) (fCB oLen (fCons (f2 oIx (fVar 0) (fC (.int 0))) (fNil)))))) (sSeq (sSet 2 (f2 oIx (f2 oIx (fVar 0) (fC (.int 0))) (f2 oIx (fVar 0) (fC (.int 1))))) (sSeq (sPutL (fVar 0) (fC (.int 1)) (f2 oAdd (f2 oIx (fVar 0) (fC (.int 1))) (fC (.int 1)))) (sIf (fB (f2 oGe (fCB oAbs (fCons (fVar 2) (fNil))) (f2 oPow (fC (.int 10)) (fC (.int 18))))) (sPutL (fVar 0) (fC (.int 2)) (fCB oAbs (fCons (fVar 2) (fNil)))) (sPutL (fVar 0) (fC (.int 3)) (f2 oMod (fCB oInt (fCons (f2 oAdd (f2 oAdd (f2 oMul (f2 oIx (fVar 0) (fC (.int 3))) (fC (.int 48271))) (f2 oMul (f2 oMod (fCB oInt (fCons (fVar 2) (fNil))) (fC (.int 1000003))) (fC (.int 911)))) (fC (.int 7))) (fNil))) (fC (.int 2147483647))))))) (sNx)) (sSeq (sIf (fB (f2 oGt (f2 oIx (fVar 0) (fC (.int 2))) (fC (.int 0)))) (sSeq (sSet 3 (f2 oMod (fCB oInt (fCons (f2 oIx (fVar 0) (fC (.int 2))) (fNil))) (fVar 1))) (sSeq (sPutL (fVar 0) (fC (.int 2)) (f2 oFdiv (f2 oIx (fVar 0) (fC (.int 2))) (fVar 1))) (sRet (fVar 3)))) (sNx)) (sSeq (sSet 4 (f2 oMod (fCB oInt (fCons (f2 oMul (f2 oIx (fVar 0) (fC (.int 3))) (f2 oIx (fVar 0) (fC (.int 3)))) (fNil))) (fC (.int 2147483629)))) (sSeq (sPutL (fVar 0) (fC (.int 3)) (f2 oMod (fCB oInt (fCons (f2 oAdd (f2 oAdd (f2 oMul (fVar 4) (fC (.int 16807))) (f2 oMul (f2 oIx (fVar 0) (fC (.int 3))) (fC (.int 40692)))) (fC (.int 12345))) (fNil))) (fC (.int 2147483647)))) (sRet (f2 oMod (fCB oInt (fCons (f2 oFdiv (f2 oIx (fVar 0) (fC (.int 3))) (fC (.int 64))) (fNil))) (fVar 1))))))
theorem pull_eq : pullG = sSeq p1 p2 := rfl
def pull : Sls → Mir → Rs D := runF 5 pullG
theorem run_len {n : Nat} {g : Fs} {as : Sls} {d : D} {m m1 : Mir} (e : g (as ++ List.replicate (n - as.length) .un) m = .rt d m1) (hl : m1.length = m.length) : runF n g as m = .ok d m1 := by
  unfold runF
  rw [e]
  show trimR m.length d m1 = _
  unfold trimR
  rw [if_pos hl]
theorem pull_ok (h : Ok tb m) (n : Int) (h0 : 0 < n) (hn : n < 1073741824) : ∃ d m', pull [.dat (.ref 0), .dat (.int n)] m = .ok (.int d) m' ∧ 0 ≤ d ∧ d < n ∧ Ok tb m' ∧ m'.length = m.length := by
  obtain ⟨ns, i, k, r, rest, rfl, hf, h1, h2, h3⟩ := h.ex
  obtain ⟨s, i1, k1, r1, e1, a1, a2, a3⟩ := p1_ok (ns := ns) (i := i) (k := k) (r := r) (rest := tbs tb ++ rest) n h1 h2 h3
  obtain ⟨d, i2, k2, r2, e2, b1, b2, b3, b4, b5⟩ := p2_ok (ns := ns) (i := i1) (k := k1) (r := r1) (rest := tbs tb ++ rest) (s := s) n h0 hn a1 a2 a3
  refine ⟨d, some (bagL ns i2 k2 r2) :: (tbs tb ++ rest), run_len ?_ rfl, b1, b2, ⟨ns, i2, k2, r2, rest, rfl, hf, b3, b4, b5⟩, rfl⟩
  show pullG [.dat (.ref 0), .dat (.int n), .un, .un, .un] (some (bagL ns i k r) :: (tbs tb ++ rest)) = _
  rw [pull_eq]
  exact (ev_seq e1).trans e2
theorem pull_okT (h : Ok tb m) (n : Int) (h0 : 0 < n) (hn : n < 1073741824) : ∃ d m', pull [.dat (.ref 0), .dat (.int n)] m = .ok (.int d) m' ∧ 0 ≤ d ∧ d < n ∧ Ok tb m' ∧ m'.length = m.length ∧ m'.drop 1 = m.drop 1 := by
  obtain ⟨ns, i, k, r, rest, rfl, hf, h1, h2, h3⟩ := h.ex
  obtain ⟨s, i1, k1, r1, e1, a1, a2, a3⟩ := p1_ok (ns := ns) (i := i) (k := k) (r := r) (rest := tbs tb ++ rest) n h1 h2 h3
  obtain ⟨d, i2, k2, r2, e2, b1, b2, b3, b4, b5⟩ := p2_ok (ns := ns) (i := i1) (k := k1) (r := r1) (rest := tbs tb ++ rest) (s := s) n h0 hn a1 a2 a3
  refine ⟨d, some (bagL ns i2 k2 r2) :: (tbs tb ++ rest), run_len ?_ rfl, b1, b2, ⟨ns, i2, k2, r2, rest, rfl, hf, b3, b4, b5⟩, rfl, rfl⟩
  show pullG [.dat (.ref 0), .dat (.int n), .un, .un, .un] (some (bagL ns i k r) :: (tbs tb ++ rest)) = _
  rw [pull_eq]
  exact (ev_seq e1).trans e2
def Gl (tb : List Str) (l : Nat) (m : Mir) : Prop := Ok tb m ∧ m.length = l
def ofG : Fs :=
  sRet (f2 oIx (fVar 1) (fCallN 2 pull (fCons (fVar 0) (fCons (fCB oLen (fCons (fVar 1) (fNil))) (fNil)))))
def of : Sls → Mir → Rs D := runF 2 ofG
theorem of_ok {l : Nat} (h : Gl tb l m) {x : D} {c : Nat} (R : D → Prop) (hv : view m x = some x) (hc : oLen [x] = some (.int c)) (h0 : 0 < c) (hn : c < 1000) (hi : ∀ i : Nat, i < c → ∃ y, oIx x (.int i) = some y ∧ R y) (hv' : ∀ m', view m' x = some x) : ∃ y m', of [.dat (.ref 0), .dat x] m = .ok y m' ∧ R y ∧ Gl tb l m' := by
  obtain ⟨d, m', e, b1, b2, g, hl⟩ := pull_ok h.1 (c : Int) (by omega) (by omega)
  obtain ⟨y, e2, r⟩ := hi d.toNat (by omega)
  rw [Int.toNat_of_nonneg b1] at e2
  have whole : ofG [.dat (.ref 0), .dat x] m = .rt y m' := by
    unfold ofG
    have vs : views m [x] = some [x] := by
      show (view m x).bind _ = _
      rw [hv]
      rfl
    exact ev_ret (ev_f2 rfl (ev_callN (as := [.ref 0, .int c]) (m1 := m) (ev_cons rfl (ev_one (ev_CB (ev_one rfl) vs hc))) rfl e) (hv' m') rfl e2)
  exact ⟨y, m', run_len whole hl, r, g, hl.trans h.2⟩
theorem of_okT (h : Ok tb m) {x : D} {c : Nat} (R : D → Prop) (hv : view m x = some x) (hc : oLen [x] = some (.int c)) (h0 : 0 < c) (hn : c < 1000) (hi : ∀ i : Nat, i < c → ∃ y, oIx x (.int i) = some y ∧ R y) (hv' : ∀ m', view m' x = some x) : ∃ y m', of [.dat (.ref 0), .dat x] m = .ok y m' ∧ R y ∧ Ok tb m' ∧ m'.length = m.length ∧ m'.drop 1 = m.drop 1 := by
  obtain ⟨d, m', e, b1, b2, g, hl, hd⟩ := pull_okT h (c : Int) (by omega) (by omega)
  obtain ⟨y, e2, r⟩ := hi d.toNat (by omega)
  rw [Int.toNat_of_nonneg b1] at e2
  have whole : ofG [.dat (.ref 0), .dat x] m = .rt y m' := by
    unfold ofG
    have vs : views m [x] = some [x] := by
      show (view m x).bind _ = _
      rw [hv]
      rfl
    exact ev_ret (ev_f2 rfl (ev_callN (as := [.ref 0, .int c]) (m1 := m) (ev_cons rfl (ev_one (ev_CB (ev_one rfl) vs hc))) rfl e) (hv' m') rfl e2)
  exact ⟨y, m', run_len whole hl, r, g, hl, hd⟩
end

/-! ### the test of sameness -/
def sameG (Fr : Sls → Mir → Rs D) : Fs :=
  sSeq (sIf (fOr (fB (f2 oIs2 (fVar 1) (fC .non))) (fB (f2 oIs2 (fVar 0) (fC .non)))) (sRet (fAndV (f2 oIs2 (fVar 1) (fC .non)) (f2 oIs2 (fVar 0) (fC .non)))) (sNx)) (sSeq (sIf (fOr (fB (fIs ["bool"] (fVar 1))) (fB (fIs ["bool"] (fVar 0)))) (sRet (fAndV (fIs ["bool"] (fVar 1)) (fAndV (fIs ["bool"] (fVar 0)) (f2 oEq (fVar 0) (fVar 1))))) (sNx)) (sSeq (sIf (fOr (fB (fIs ["list", "tuple"] (fVar 1))) (fB (fIs ["list", "tuple"] (fVar 0)))) (sSeq (sIf (fOr (fB (f2 oNe (fIs ["list"] (fVar 1)) (fIs ["list"] (fVar 0)))) (fB (f2 oNe (fIs ["tuple"] (fVar 1)) (fIs ["tuple"] (fVar 0))))) (sRet (fC (.bl false))) (sNx)) (sRet (fAndV (f2 oEq (fCB oLen (fCons (fVar 0) (fNil))) (fCB oLen (fCons (fVar 1) (fNil)))) (fCB oAll (fCons (fLc (fZip (fCons (fVar 0) (fCons (fVar 1) (fNil)))) (gT (gsCons (gN 2) (gsCons (gN 3) (gsNil)))) (fYes) (fCallN 2 Fr (fCons (fVar 2) (fCons (fVar 3) (fNil)))) [2, 3]) (fNil)))))) (sNx)) (sSeq (sIf (fOr (fB (f2 oNe (fIs ["int"] (fVar 1)) (fIs ["int"] (fVar 0)))) (fB (f2 oNe (fIs ["str"] (fVar 1)) (fIs ["str"] (fVar 0))))) (sRet (fC (.bl false))) (sNx)) (sRet (f2 oEq (fVar 0) (fVar 1))))))
def same : Nat → Sls → Mir → Rs D
  | 0 => fun _ _ => .bad
  | n + 1 => runF 4 (sameG (same n))
def okL (f : D → Bool) : D → Bool
  | .non => true
  | .bl _ => true
  | .int _ => true
  | .str z => PyData.strOk z
  | .lst ds => decide (ds.length < sizeLine) && ds.all f
  | .tup ds => decide (ds.length < sizeLine) && ds.all f
  | _ => false
/-- plain data of depth below n -/
def okN : Nat → D → Bool
  | 0 => fun _ => false
  | n + 1 => okL (okN n)
theorem oEq_blS (b : Bool) : oEq (.bl b) (.bl b) = some (.bl true) := by cases b <;> rfl
theorem oEq_intS (a : Int) : oEq (.int a) (.int a) = some (.bl true) := by rw [oEq_int, beq_self_eq_true]
theorem oEq_strS (z : Str) (h : PyData.strOk z = true) : oEq (.str z) (.str z) = some (.bl true) := by
  have s : SeqAt.shaped (.str z) = true := shaped_of (by simp [PyData.canLay0, h]) (by simp [PyData.depth])
  rw [oEq_of (a := .str z) (b := .str z) rfl rfl s s, PyData.eqv, beq_self_eq_true]
theorem oEq_len (n : Nat) : oEq (.int n) (.int n) = some (.bl true) := oEq_intS _
theorem zip_self : ∀ ds : List D, zipD ds ds = ds.map fun d => .tup [d, d]
  | [] => rfl
  | d :: ds => by rw [zipD, zip_self ds, List.map_cons]
theorem same_ok : ∀ (n : Nat) (x : D) (m : Mir), okN n x = true → same n [.dat x, .dat x] m = .ok (.bl true) m
  | 0, _, _, h => by cases h
  | n + 1, x, m, h => by
    have seqs : ∀ ds : List D, (decide (ds.length < sizeLine) && ds.all (okN n)) = true → (ds.map fun d => D.tup [d, d]).length < sizeLine ∧ ∀ δ : Sls, (∀ d, (δ.set 2 (.dat d)).set 3 (.dat d) = [.dat x, .dat x, .dat d, .dat d]) → lcL (gT (gsCons (gN 2) (gsCons (gN 3) (gsNil)))) fYes (fCallN 2 (same n) (fCons (fVar 2) (fCons (fVar 3) (fNil)))) δ none (ds.map fun d => .tup [d, d]) m = .ok (ds.map fun _ => D.bl true) m := fun ds hd => by
      obtain ⟨h1, h2⟩ := Bool.and_eq_true_iff.mp hd
      refine ⟨by rw [List.length_map]; exact of_decide_eq_true h1, fun δ hδ => lcL_map ds fun d hm => ⟨_, rfl, rfl, ?_⟩⟩
      rw [hδ d]
      exact ev_callN (as := [d, d]) (m1 := m) rfl rfl (same_ok n d m (List.all_eq_true.mp h2 d hm))
    refine ev_run0 ?_
    show sameG (same n) [.dat x, .dat x, .un, .un] m = .rt (.bl true) m
    have h' : okL (okN n) x = true := h
    have stp : ∀ g h : Fs, g [.dat x, .dat x, .un, .un] m = .nx [.dat x, .dat x, .un, .un] m → sSeq g h [.dat x, .dat x, .un, .un] m = h [.dat x, .dat x, .un, .un] m := fun g h e => ev_seq e
    unfold sameG
    cases x with
    | non => exact ev_seqR (by rfl)
    | bl b =>
      refine (stp _ _ (by rfl)).trans (ev_seqR ?_)
      refine (ev_ifT (m1 := m) (by rfl)).trans (ev_ret ?_)
      refine (ev_andVT (m1 := m) rfl).trans ?_
      refine (ev_andVT (m1 := m) rfl).trans ?_
      exact ev_f2 rfl rfl rfl rfl (oEq_blS b)
    | int a =>
      refine (stp _ _ (by rfl)).trans ?_
      refine (stp _ _ (by rfl)).trans ?_
      refine (stp _ _ (by rfl)).trans ?_
      refine (stp _ _ (by rfl)).trans ?_
      exact ev_ret (ev_f2 rfl rfl rfl rfl (oEq_intS a))
    | str z =>
      refine (stp _ _ (by rfl)).trans ?_
      refine (stp _ _ (by rfl)).trans ?_
      refine (stp _ _ (by rfl)).trans ?_
      refine (stp _ _ (by rfl)).trans ?_
      exact ev_ret (ev_f2 rfl rfl rfl rfl (oEq_strS z h'))
    | lst ds =>
      obtain ⟨hl, hc⟩ := seqs ds h'
      refine (stp _ _ (by rfl)).trans ?_
      refine (stp _ _ (by rfl)).trans ?_
      refine ev_seqR ?_
      refine (ev_ifT (m1 := m) (by rfl)).trans ?_
      refine (stp _ _ (by rfl)).trans ?_
      refine ev_ret ?_
      have e1 : fCB oLen (fCons (fVar 0) fNil) [.dat (.lst ds), .dat (.lst ds), .un, .un] m = .ok (.int ds.length) m := ev_CB (ev_one rfl) rfl rfl
      have e2 : fCB oLen (fCons (fVar 1) fNil) [.dat (.lst ds), .dat (.lst ds), .un, .un] m = .ok (.int ds.length) m := ev_CB (ev_one rfl) rfl rfl
      refine (ev_andVT (m1 := m) (ev_f2 e1 e2 rfl rfl (oEq_len ds.length))).trans ?_
      refine ev_CB (m1 := m) (xs := [.lst (ds.map fun _ => D.bl true)]) (ev_one (ev_lc (m1 := m) (m2 := m) (ds := ds.map fun d => .tup [d, d]) (gd := none) ?_ hl (hc _ fun d => rfl))) rfl (oAll_true _)
      show Rs.ok (zipD ds ds, none) m = _
      rw [zip_self]
    | tup ds =>
      obtain ⟨hl, hc⟩ := seqs ds h'
      refine (stp _ _ (by rfl)).trans ?_
      refine (stp _ _ (by rfl)).trans ?_
      refine ev_seqR ?_
      refine (ev_ifT (m1 := m) (by rfl)).trans ?_
      refine (stp _ _ (by rfl)).trans ?_
      refine ev_ret ?_
      have e1 : fCB oLen (fCons (fVar 0) fNil) [.dat (.tup ds), .dat (.tup ds), .un, .un] m = .ok (.int ds.length) m := ev_CB (ev_one rfl) rfl rfl
      have e2 : fCB oLen (fCons (fVar 1) fNil) [.dat (.tup ds), .dat (.tup ds), .un, .un] m = .ok (.int ds.length) m := ev_CB (ev_one rfl) rfl rfl
      refine (ev_andVT (m1 := m) (ev_f2 e1 e2 rfl rfl (oEq_len ds.length))).trans ?_
      refine ev_CB (m1 := m) (xs := [.lst (ds.map fun _ => D.bl true)]) (ev_one (ev_lc (m1 := m) (m2 := m) (ds := ds.map fun d => .tup [d, d]) (gd := none) ?_ hl (hc _ fun d => rfl))) rfl (oAll_true _)
      show Rs.ok (zipD ds ds, none) m = _
      rw [zip_self]
    | _ => cases h'

/-! ### lists that grow, lambdas -/
section
variable {δ : Sls} {m m1 m2 : Mir}
theorem ev_app {f g : Fe} {n : Nat} {ds0 ds : List D} {y : D} (e1 : f δ m = .ok (.ref n) m1) (h1 : cell m1 n = some (.lst ds0)) (e2 : g δ m1 = .ok y m2) (h2 : cell m2 n = some (.lst ds)) (hl : ds.length < sizeLine) : fApp f g δ m = .ok .non (m2.set n (some (.lst (ds ++ [y])))) := by
  unfold fApp
  rw [e1]
  simp only [Rs.bind]
  rw [h1]
  simp only []
  rw [e2]
  simp only []
  rw [h2]
  simp only []
  rw [if_pos hl]
theorem ev_frzL {f : Fe} {ds : List D} (e : f δ m = .ok (.ref m1.length) (m1 ++ [some (.lst ds)])) (h : mapF (frzD 8) ds (m1 ++ [none]) = some (ds, m1 ++ [none])) : fFrz f δ m = .ok (.lst ds) (m1 ++ [none]) := by
  unfold fFrz
  rw [e]
  show (match frzD 9 (.ref m1.length) (m1 ++ [some (.lst ds)]) with
    | some a => _
    | none => _) = _
  have fz : frzD 9 (.ref m1.length) (m1 ++ [some (.lst ds)]) = some (.lst ds, m1 ++ [none]) := by
    show (match cell (m1 ++ [some (.lst ds)]) m1.length with
      | some (.lst ds) => _
      | some (.ins c ns ds) => _
      | some (.dK ks ds) => _
      | some (.dT ks ds) => _
      | _ => _) = _
    rw [cell_snoc]
    show (mapF (frzD 8) ds ((m1 ++ [some (D.lst ds)]).set m1.length none)).bind _ = _
    rw [set_snoc, h]
    rfl
  rw [fz]
theorem ev_lamFn {RR : Rs D → Rs D} {bs : Nat → Option LamD} {B : LamD} {i : Nat} {r : D} {fe : Fe} (e : fe δ m = .ok (.lam i) m1) (hb : bs i = some B) (h : RR (B.b (lamSl B δ) m1) = .ok r m2) (hl : m2.length = m1.length) : fLamFn RR bs fe δ m = .ok r m2 := by
  unfold fLamFn
  rw [e]
  simp only [Rs.bind]
  rw [hb]
  simp only []
  rw [h]
  show trimR m1.length r m2 = _
  unfold trimR
  rw [if_pos hl]
theorem lcL_cons {t : Ftg} {tt : Ft} {te : Fe} {δ0 δ1 : Sls} {m3 : Mir} {d y : D} {ds ys : List D} (e1 : t d δ0 = some δ1) (e2 : tt δ1 m = .ok true m1) (e3 : te δ1 m1 = .ok y m2) (e4 : lcL t tt te δ0 none ds m2 = .ok ys m3) : lcL t tt te δ0 none (d :: ds) m = .ok (y :: ys) m3 := by
  conv => lhs; unfold lcL
  rw [e1]
  simp only [gdOk, if_true]
  rw [e2]
  simp only []
  rw [e3]
  simp only []
  rw [e4]
  rfl
theorem ev_tup {g : Fa} {ds : List D} (e : g δ m = .ok ds m1) (h : ds.length ≤ 1000) : fTup g δ m = .ok (.tup ds) m1 := by
  unfold fTup
  rw [e]
  show (if _ then _ else _) = _
  rw [if_pos (by rw [sizeLine_eq]; omega)]
theorem fm_snocD {d : D} (hd : ∀ k, D.low k d = true) : ∀ {m : Mir}, Fm m → Fm (m ++ [some d])
  | [], _, k, 0 => rfl
  | [], _, k, j + 1 => by
    show (D.low k d && cellsBelow k j []) = true
    rw [hd]
    cases j <;> rfl
  | c :: m, h, k, 0 => rfl
  | none :: m, h, k, j + 1 => fm_snocD hd (m := m) (fun k j => h k (j + 1)) k j
  | some e :: m, h, k, j + 1 => by
    have h1 : (D.low k e && cellsBelow k j m) = true := h k (j + 1)
    show (D.low k e && cellsBelow k j (m ++ [some d])) = true
    rw [(Bool.and_eq_true_iff.mp h1).1, fm_snocD hd (m := m) (fun k j => (Bool.and_eq_true_iff.mp (h k (j + 1))).2) k j]
    rfl
theorem Ok.snocD {tb : List Str} {d : D} (h : Ok tb m) (hd : ∀ k, D.low k d = true) : Ok tb (m ++ [some d]) := by
  obtain ⟨ns, i, k, r, rest, rfl, hf, h1⟩ := h.ex
  exact ⟨ns, i, k, r, rest ++ [some d], by rw [List.cons_append, List.append_assoc], fm_snocD hd hf, h1⟩
theorem ev_var {i : Nat} {d : D} (h : δ[i]? = some (.dat d)) : fVar i δ m = .ok d m := by unfold fVar; rw [h]
end
end Bag


/-! Static methods of a class, methods by keyword, an own * that may raise. -/
namespace DM
open PySem PySem.Spec PyProof.Rows L2

/-! ### (a, b, ..) = a list -/
def gTl (u : List D → Sls → Option Sls) : Ftg
  | .lst ds, δ => u ds δ
  | _, _ => none
theorem unl_ok {G : Gx} {u : List D → Sls → Option Sls} {n : Nat} (hn : ∀ ds δ δ2, u ds δ = some δ2 → ds.length = n) {gs : TGs} {ts : List Nat} (h : TgsOk G gs u ts) : TgOk G (gUnl G.K n gs) (gTl u) ts := fun π hd σ H δ δ2 d v Q e r ht k => by
  cases d with
  | lst ds =>
    obtain ⟨a, xs, rfl, h1, h2⟩ := r
    exact ⟨a, xs, rfl, .inl (.inl (hid_self _ _ h1)), by rw [RepAll.length h2]; exact hn ds δ δ2 ht, h π hd σ H δ δ2 ds xs Q e h2 ht k⟩
  | _ => cases ht

/-! ### static methods -/
/-- C.m is the static def at g -/
structure SMet (K : PySem.W.Frag) (C : Addr) (m : Str) (g : Addr) : Prop where
  ex : ∃ (mc : Value) (p : Addr) (rest : List Value), ClX.CRead K C mc ∧ PySem.W.findCls K (.ref C) mc m = some (.get (.builtin "staticmethod.__get__") (.ref p) .none (.ref C)) ∧ PySem.W.recIn K p "staticmethod" = some (.ref g :: rest)
  kp : PySem.W.keepIn K (.ref g) = true
theorem getsm_ok {X : Cx} {pins : List (Addr × Obj)} {σ : L2.St} {H : Hp} {s : Shared} {C g : Addr} {m : Str} {pl : Sem Bool} {A : Around} {E : Value → Shared → Prop} {Q : Value × List Value → Shared → Prop} (I : Inv X pins σ H s) (k : SMet X.K C m g) (h : ∀ s', Inv X pins σ H s' → Q (.ref g, []) s') :
    wpAny (model X.prog X.w) A (getMethod (.ref C) m pl) Q E s := by
  obtain ⟨mc, p, rest, r, h1, h2⟩ := k.ex
  refine PySem.W.method_cls I.kIn r.ga (PySem.W.cls_bind I.kIn r.rd h1 ?_)
  exact wpAny_call (PySem.W.sm_get (s := { s with toks := s.toks + 1 }) I.kIn h2 (PySem.W.handed_on rfl (h _ (I.tok _))))
/-- as the top leaves it -/
structure Ds (K : PySem.W.Frag) (mg : Str → Option Value) (x : Str) (C : Addr) (m qual : Str) (st : Stmt) (ps : List Str) : Prop where
  ex : ∃ (f : Addr) (fd : FuncData), mg x = some (.ref C) ∧ SMet K C m f ∧ Fun K m qual st f fd ∧ Binds K fd ps []
/-- what it promises -/
structure Sd (P : Program) (w : World) (K : PySem.W.Frag) (mg : Str → Option Value) (base : Heap) (x : Str) (C : Addr) (m : Str) (ps : List Str) (k : Nat) (sp : Sp) : Prop where
  ex : ∃ (f : Addr) (fd : FuncData), mg x = some (.ref C) ∧ SMet K C m f ∧ Binds K fd ps [] ∧ FnOk P w K mg base (L2N.CX P w) k f fd ps sp
/-- how keywords alone bind, behind the values us -/
def KwB (K : PySem.W.Frag) (fd : FuncData) (n : Nat) (ps ks : List Str) (π : List Nat) : Prop := ∀ (s : Shared) (us ws : List Value), us.length = n → ws.length = ks.length → BindsTo s fd ⟨us, ks.zip ws⟩ (ps.zip (us ++ perm π ws))
structure SdK (P : Program) (w : World) (K : PySem.W.Frag) (mg : Str → Option Value) (base : Heap) (x : Str) (C : Addr) (m : Str) (ps ks : List Str) (π : List Nat) (k : Nat) (sp : Sp) : Prop where
  ex : ∃ (f : Addr) (fd : FuncData), mg x = some (.ref C) ∧ SMet K C m f ∧ KwB K fd 0 ps ks π ∧ FnOk P w K mg base (L2N.CX P w) k f fd ps sp
structure MdK (P : Program) (w : World) (K : PySem.W.Frag) (mg : Str → Option Value) (base : Heap) (C : Addr) (m : Str) (ps ks : List Str) (π : List Nat) (k : Nat) (sp : Sp) : Prop where
  ex : ∃ (f : Addr) (fd : FuncData), Meth K C m f ∧ KwB K fd 1 ps ks π ∧ FnOk P w K mg base (L2N.CX P w) k f fd ps sp
section
variable {P : Program} {w : World} {K : PySem.W.Frag} {mg : Str → Option Value} {base : Heap} {cn : Str → Addr} {C : Addr} {x m qual : Str} {st : Stmt} {N ps ks : List Str} {k : Nat} {g : Fs}
theorem Ds.sd (D : Ds K mg x C m qual st ps) (S : FnScope N ps (defScope st)) (hb : BodyOk P w K mg base cn k N qual st g) : Sd P w K mg base x C m ps (k + 1) (spD (gx K (c0 cn)) ps.length (runF N.length g)) := by
  obtain ⟨f, fd, hm, M, F, b⟩ := D.ex
  exact ⟨f, fd, hm, M, b, fn_ok F S (hb f)⟩
theorem kwb_of {qual m : Str} {st : Stmt} {f : Addr} {fd : FuncData} {n : Nat} (F : Fun K m qual st f fd) (π : List Nat)
    (h : ∀ (kV doc pm : Value) (an : Option Addr) (cdv ct : Value) (us ws : List Value), us.length = n → ws.length = ks.length → bindArgs (PySem.W.fnOf m qual (defArgs st) (defBody st) (defScope st) .none kV doc pm an cdv ct) ⟨us, ks.zip ws⟩ = pure (ps.zip (us ++ perm π ws))) : KwB K fd n ps ks π := fun s us ws hu hl => by
  obtain ⟨oc, od, kV, doc, pm, an, cdv, ct, osl, rfl, lk, hcd⟩ := F.ex
  exact .of_eq (h kV doc pm an cdv ct us ws hu hl)
theorem Ds.sdk (D : Ds K mg x C m qual st ps) (S : FnScope N ps (defScope st)) (hb : BodyOk P w K mg base cn k N qual st g) (π : List Nat)
    (h : ∀ (kV doc pm : Value) (an : Option Addr) (cdv ct : Value) (us ws : List Value), us.length = 0 → ws.length = ks.length → bindArgs (PySem.W.fnOf m qual (defArgs st) (defBody st) (defScope st) .none kV doc pm an cdv ct) ⟨us, ks.zip ws⟩ = pure (ps.zip (us ++ perm π ws))) :
    SdK P w K mg base x C m ps ks π (k + 1) (spD (gx K (c0 cn)) ps.length (runF N.length g)) := by
  obtain ⟨f, fd, hm, M, F, b⟩ := D.ex
  exact ⟨f, fd, hm, M, kwb_of F π h, fn_ok F S (hb f)⟩
theorem Dm.mdk (D : Dm K C m qual st ps) (S : FnScope N ps (defScope st)) (hb : BodyOk P w K mg base cn k N qual st g) (π : List Nat)
    (h : ∀ (kV doc pm : Value) (an : Option Addr) (cdv ct : Value) (us ws : List Value), us.length = 1 → ws.length = ks.length → bindArgs (PySem.W.fnOf m qual (defArgs st) (defBody st) (defScope st) .none kV doc pm an cdv ct) ⟨us, ks.zip ws⟩ = pure (ps.zip (us ++ perm π ws))) :
    MdK P w K mg base C m ps ks π (k + 1) (spD (gx K (c0 cn)) ps.length (runF N.length g)) := by
  obtain ⟨f, fd, M, F, b⟩ := D.ex
  exact ⟨f, fd, M, kwb_of F π h, fn_ok F S (hb f)⟩
end
section
variable {X : Cx} {cn : Cn} {E : XKS}
theorem de_smth {pl : Sem Bool} {x m : Str} {C : Addr} {ps : List Str} {k n : Nat} {F : Sls → Mir → Rs DM.D} {p apos pos : Pos} {e : Expr} {es : List Expr} {g : Fa} (D : Sd X.prog X.w X.K X.mg X.base x C m ps k (spD (gx X.K cn) n F)) (hr : Room k X.A) (hx : Pas X E) (ha : DA X cn E (e :: es) g)
    (hg : Gl X x := by rfl) (hdb : (x == ("__debug__" : Str)) = false := by decide)
    (hst : starEach (e :: es) X.env = (false, eval e X.env) :: starEach es X.env := by rfl) (hpl : (backTo pos (starEach es X.env)).any (·.1) = false := by rfl)
    (ht : eval (.Call (.Attribute (.Name x p) m apos) (e :: es) [] pos) X.env = (do
      let ov ← eval (.Name x p) X.env
      standAt apos.atName
      let (f, first) ← holding [ov] (getMethod ov m pl)
      callWith pos f first (backTo pos (starEach (e :: es) X.env)) (backToKw pos (keywordEach [] X.env))) := by rfl) :
    DE X cn E (.Call (.Attribute (.Name x p) m apos) (e :: es) [] pos) (fCallN n F g) := by
  obtain ⟨f, fd, hm, M, hb, Fo⟩ := D.ex
  refine ⟨fun pins s σ H Q I h => ?_⟩
  have core := lift_callN h
  refine PySem.W.methodCall_KW (pl := pl) (L2.thn ((pe_glob (v := .ref C) hg hm rfl hdb).run pins s σ H (fun v H1 => v = .ref C ∧ H1 = H) I ⟨rfl, rfl⟩) fun u s1 ⟨v, H1, I1, rv, e1, e2⟩ => ?_) ht
  subst e1 e2
  obtain rfl : u = Value.ref C := rv
  refine getsm_ok I1 M fun s2 I2 => ?_
  exact PySem.W.callWith_K (first := []) (h₀ := X.base) I.ok.mod.kin M.kp (L2.thn (ha.run pos pins s2 σ H1 _ I2 core) fun us s3 ⟨vs, H2, I3, r, q2⟩ =>
    ⟨I3.kIn, run_fnS (E := E) (us := us) (vs := vs) Fo hr hb (hx σ) I3 r q2⟩) hst hpl
/-- the run of a def by keywords -/
theorem run_kw {pins : List (Addr × Obj)} {σ : L2.St} {H : Hp} {s : Shared} {Q : VK} {f : Addr} {fd : FuncData} {k n : Nat} {ps ks : List Str} {π : List Nat} {sp : Sp} {us ws : List Value} {vs zs : List V} (Fo : FnOk X.prog X.w X.K X.mg X.base (L2N.CX X.prog X.w) k f fd ps sp) (hr : Room k X.A) (bn : KwB X.K fd n ps ks π) (hx : PassesAt (L2N.CX X.prog X.w) X σ (E σ))
    (I : Inv X pins σ H s) (hu : us.length = n) (hw : ws.length = ks.length) (ru : Vals vs us) (rw_ : Vals zs ws) (h : sp (vs ++ perm π zs) H Q (E σ)) : wpAny (model X.prog X.w) X.A (call (.ref f) us (ks.zip ws)) (EP X pins σ Q) X.xe s := by
  refine wpAny_call (codeAny_mono (Fo.run X.A X.stack s H ⟨us, ks.zip ws⟩ (us ++ perm π ws) (vs ++ perm π zs) Q (E σ) hr I.env0 (bn s us ws hu hw) (ru.append (perm_vals π rw_)) h) fun r s' hq => ?_)
  cases r with
  | error e => exact hx pins H s e s' I hq
  | ok fl =>
    cases fl with
    | ret u => exact I.after hq
    | next => exact False.elim hq
    | brk => exact False.elim hq
    | cont => exact False.elim hq
theorem lift_kwS {G : Gx} {E : XKS} {σ : L2.St} {H : Hp} {Q : VK} {n l : Nat} {π : List Nat} {F : Sls → Mir → Rs DM.D} {g : Fa} (hgl : GL l g) (h : tD G E (fKw n π F g) σ H Q) : tDA G E g σ H fun zs H2 => zs.length = l ∧ spD G n F (perm π zs) H2 Q (E σ) := lift_kw hgl h
theorem de_smthKw {pl : Sem Bool} {x m : Str} {C : Addr} {ps ks : List Str} {π : List Nat} {k n : Nat} {F : Sls → Mir → Rs DM.D} {p apos pos : Pos} {kws : List Keyword} {g : Fa} (D : SdK X.prog X.w X.K X.mg X.base x C m ps ks π k (spD (gx X.K cn) n F)) (hr : Room k X.A) (hx : Pas X E) (ha : DK X cn E kws g)
    (hl : ks.length = kws.length := by rfl) (hg : Gl X x := by rfl) (hdb : (x == ("__debug__" : Str)) = false := by decide)
    (hall : (backToKw pos (keywordEach kws X.env)).all (·.1.isSome) = true := by rfl) (hks : (backToKw pos (keywordEach kws X.env)).filterMap (·.1) = ks := by rfl)
    (hpl : ((backTo pos (starEach [] X.env)).any (·.1) || (backToKw pos (keywordEach kws X.env)).any (·.1.isNone)) = false := by rfl) (hgl : GL ks.length g := by repeat (first | exact gl_nil | refine gl_cons ?_))
    (ht : eval (.Call (.Attribute (.Name x p) m apos) [] kws pos) X.env = (do
      let ov ← eval (.Name x p) X.env
      standAt apos.atName
      let (f, first) ← holding [ov] (getMethod ov m pl)
      callWith pos f first (backTo pos (starEach [] X.env)) (backToKw pos (keywordEach kws X.env))) := by rfl) :
    DE X cn E (.Call (.Attribute (.Name x p) m apos) [] kws pos) (fKw n π F g) := by
  obtain ⟨f, fd, hm, M, hb, Fo⟩ := D.ex
  refine ⟨fun pins s σ H Q I h => ?_⟩
  have core := lift_kwS hgl h
  refine PySem.W.methodCall_KW (pl := pl) (L2.thn ((pe_glob (v := .ref C) hg hm rfl hdb).run pins s σ H (fun v H1 => v = .ref C ∧ H1 = H) I ⟨rfl, rfl⟩) fun u s1 ⟨v, H1, I1, rv, e1, e2⟩ => ?_) ht
  subst e1 e2
  obtain rfl : u = Value.ref C := rv
  refine getsm_ok I1 M fun s2 I2 => ?_
  refine PySem.W.callWith_KW0 (h₀ := X.base) (first := []) I.ok.mod.kin M.kp hall (L2.thn (ha.run pos pins s2 σ H1 _ I2 core) fun ws s3 ⟨zs, H2, I3, rz, l1, q2⟩ => ⟨I3.kIn, ?_⟩) hpl
  rw [hks]
  exact run_kw (E := E) (us := []) (vs := []) Fo hr hb (hx σ) I3 rfl (rz.length.symm.trans l1) .nil rz q2

/-! ### methods by keyword -/
def fMthKw (c m : Str) (n : Nat) (π : List Nat) (F : Sls → Mir → Rs D) (f : Fe) (g : Fa) : Fe := fun δ m0 => (f δ m0).bind fun x m1 => match (view m1 x).bind insOf with
  | some a => if (c == a.1) = true then (match lkD m a.2.1 a.2.2 with
      | none => (g δ m1).bind fun ys m2 => if (perm π ys).length + 1 = n then F (.dat x :: (perm π ys).map .dat) m2 else .bad
      | some _ => .bad) else .bad
  | none => .bad
theorem lift_mthKw {G : Gx} {σ : L2.St} {H : Hp} {Q : VK} {c m : Str} {n l : Nat} {π : List Nat} {F : Sls → Mir → Rs D} {f : Fe} {g : Fa} (hgl : GL l g) (h : tD G E (fMthKw c m n π F f g) σ H Q) :
    tD G E f σ H fun x H1 => ∃ a dx fs, x = .ref a ∧ H1 a = some (.ins (G.cn c) dx fs) ∧ fs.lookup m = none ∧ tDA G E g σ H1 fun zs H2 => zs.length = l ∧ spD G n F (x :: perm π zs) H2 Q (E σ) := by
  obtain ⟨w, δ, m0, a, p⟩ := h
  refine ⟨w, δ, m0, a, ?_⟩
  unfold fMthKw at p
  cases hf : f δ m0 with
  | bad => rw [hf] at p; exact p
  | exc x m1 => rw [hf] at p; exact p
  | ok x m1 =>
    rw [hf] at p
    intro π1 v H1 s1 rx
    have a1 := a.step s1
    simp only [Rs.bind] at p
    cases hi : (view m1 x).bind insOf with
    | none => rw [hi] at p; exact False.elim p
    | some b =>
      rw [hi] at p
      simp only at p
      by_cases hc : (c == b.1) = true
      · rw [if_pos hc] at p
        have ec := eq_of_beq hc
        cases hl : lkD m b.2.1 b.2.2 with
        | some z => rw [hl] at p; exact False.elim p
        | none =>
          rw [hl] at p
          simp only at p
          replace p := Post.from_ s1 p
          obtain ⟨q, dx, xs, rfl, h1, h2⟩ := ins_view s1.ok rx hi
          refine ⟨q, dx, _, rfl, by rw [ec]; exact h1, lk_none h2 hl, π1, δ, m1, a1, ?_⟩
          cases hg : g δ m1 with
          | bad => rw [hg] at p; exact p
          | exc y m2 => rw [hg] at p; exact p
          | ok ys m2 =>
            rw [hg] at p
            intro π2 vs H2 s2 ry
            simp only at p
            by_cases hn : (perm π ys).length + 1 = n
            · rw [if_pos hn] at p
              have rp := perm_rep π ry
              refine ⟨by rw [RepAll.length ry, hgl δ m1 ys m2 hg], by rw [List.length_cons, RepAll.length rp]; exact hn, π2, .dat x :: (perm π ys).map .dat, m2, (at_dats (ds := x :: perm π ys) (vs := .ref q :: perm π vs) (a1.step s2) ⟨_, _, rfl, s2.ex.rep x rx, rp⟩).j0, (Post.from_ s2 p).j0⟩
            · rw [if_neg hn] at p; exact False.elim p
      · rw [if_neg hc] at p; exact False.elim p
theorem de_mthKw {pl : Sem Bool} {c m : Str} {ps ks : List Str} {π : List Nat} {k n : Nat} {F : Sls → Mir → Rs DM.D} {o : Expr} {apos pos : Pos} {kws : List Keyword} {f : Fe} {g : Fa} (D : MdK X.prog X.w X.K X.mg X.base (cn c) m ps ks π k (spD (gx X.K cn) n F)) (hc : Cls X.K (cn c)) (hr : Room k X.A) (hx : Pas X E) (ho : DE X cn E o f) (ha : DK X cn E kws g)
    (hl : ks.length = kws.length := by rfl)
    (hall : (backToKw pos (keywordEach kws X.env)).all (·.1.isSome) = true := by rfl) (hks : (backToKw pos (keywordEach kws X.env)).filterMap (·.1) = ks := by rfl)
    (hpl : ((backTo pos (starEach [] X.env)).any (·.1) || (backToKw pos (keywordEach kws X.env)).any (·.1.isNone)) = false := by rfl) (hgl : GL ks.length g := by repeat (first | exact gl_nil | refine gl_cons ?_))
    (ht : eval (.Call (.Attribute o m apos) [] kws pos) X.env = (do
      let ov ← eval o X.env
      standAt apos.atName
      let (f, first) ← holding [ov] (getMethod ov m pl)
      callWith pos f first (backTo pos (starEach [] X.env)) (backToKw pos (keywordEach kws X.env))) := by rfl) :
    DE X cn E (.Call (.Attribute o m apos) [] kws pos) (fMthKw c m n π F f g) := by
  obtain ⟨fa, fd, hm, hb, Fo⟩ := D.ex
  refine ⟨fun pins s σ H Q I h => ?_⟩
  have core := lift_mthKw hgl h
  refine PySem.W.methodCall_KW (pl := pl) (L2.thn (ho.run pins s σ H _ I core) fun u s1 ⟨x, H1, I1, rx, a, dx, fs, ex, ea, l, q⟩ => ?_) ht
  cases ex
  cases rx
  refine getmeth_ok I1 ea hc hm l ?_
  refine PySem.W.callWith_KW0 (h₀ := X.base) (first := [.ref a]) I.ok.mod.kin hm.kp hall (L2.thn (ha.run pos pins s1 σ H1 _ I1 q) fun ws s3 ⟨zs, H2, I3, rz, l1, q2⟩ => ⟨I3.kIn, ?_⟩) hpl
  rw [hks]
  exact run_kw (E := E) (us := [.ref a]) (vs := [.ref a]) Fo hr hb (hx σ) I3 rfl (rz.length.symm.trans l1) (.cons rfl .nil) rz q2

/-! ### an own * that may raise -/
def fOw2E (c : Str) (F : Sls → Mir → Rs D) (f g : Fe) : Fe := fun δ m => (f δ m).bind fun x m1 => (g δ m1).bind fun y m2 => if isC c (view m2 x) = true ∧ isC c (view m2 y) = true then F [.dat x, .dat y] m2 else .bad
def tMulE (C : Addr) (sp : Sp) (E : XKS) (ta tb : TE) : TE := fun σ H Q => ta σ H fun x H1 => tb σ H1 fun y H2 => ∃ a dx fs b dy gs, x = .ref a ∧ y = .ref b ∧ H2 a = some (.ins C dx fs) ∧ H2 b = some (.ins C dy gs) ∧ sp [x, y] H2 Q (E σ)
theorem lift_ow2E {G : Gx} {σ : L2.St} {H : Hp} {Q : VK} {c : Str} {F : Sls → Mir → Rs D} {f g : Fe} (h : tD G E (fOw2E c F f g) σ H Q) : tMulE (G.cn c) (spD G 2 F) E (tD G E f) (tD G E g) σ H Q := by
  obtain ⟨π, δ, m, a, p⟩ := h
  refine ⟨π, δ, m, a, ?_⟩
  unfold fOw2E at p
  cases hf : f δ m with
  | bad => rw [hf] at p; exact p
  | exc x m1 => rw [hf] at p; exact p
  | ok x m1 =>
    rw [hf] at p
    intro π1 v H1 s1 rx
    have a1 := a.step s1
    refine ⟨π1, δ, m1, a1, ?_⟩
    replace p := Post.from_ s1 p
    simp only [Rs.bind] at p
    cases hg : g δ m1 with
    | bad => rw [hg] at p; exact p
    | exc x2 m2 => rw [hg] at p; exact p
    | ok y m2 =>
      rw [hg] at p
      intro π2 u H2 s2 ry
      simp only at p
      by_cases hc : isC c (view m2 x) = true ∧ isC c (view m2 y) = true
      · rw [if_pos hc] at p
        have rx2 := s2.ex.rep x rx
        obtain ⟨p1, dx, fs, rfl, e1⟩ := isC_view s2.ok rx2 hc.1
        obtain ⟨p2, dy, gs, rfl, e2⟩ := isC_view s2.ok ry hc.2
        exact ⟨p1, dx, fs, p2, dy, gs, rfl, rfl, e1, e2, rfl, π2, _, m2, (at_dats (ds := [x, y]) (vs := [.ref p1, .ref p2]) (a1.step s2) ⟨_, _, rfl, rx2, _, _, rfl, ry, rfl⟩).j0, (Post.from_ s2 p).j0⟩
      · rw [if_neg hc] at p; exact False.elim p
theorem de_ownMulE {c : Str} {k : Nat} {F : Sls → Mir → Rs DM.D} {a b : Expr} {f g : Fe} {pos : Pos} {ps : List Str} (D : Md X.prog X.w X.K X.mg X.base (cn c) "__mul__" ps k (spD (gx X.K cn) 2 F)) (sf : PySem.W.selfFirst X.K (cn c) = true) (hr : Room k X.A) (hx : Pas X E) (ha : DE X cn E a f) (hb : DE X cn E b g) : DE X cn E (.BinOp a .Mult b pos) (fOw2E c F f g) := by
  obtain ⟨fa, fd, M, bi, Fo⟩ := D.ex
  refine ⟨fun pins s σ H Q I h => ?_⟩
  refine wpAny_BinOp (binT ha hb I (lift_ow2E h) fun v u s2 x y H2 I2 rx ry q => ?_)
  obtain ⟨p1, dx, fs, p2, dy, gs, rfl, rfl, e1, e2, q⟩ := q
  cases rx
  cases ry
  obtain ⟨_, J⟩ := inst_of I2 e1
  obtain ⟨_, J2⟩ := inst_of I2 e2
  obtain ⟨m, fr⟩ := I2.fr
  exact PySem.W.binop_K fr I2.ok.mod.kin J J2.type sf M.at_ M.fn (wpAny_mono (run_fnS (E := E) (us := [.ref p1, .ref p2]) (vs := [.ref p1, .ref p2]) Fo hr bi (hx σ) I2 (.cons rfl (.cons rfl .nil)) q) (fun w s' ⟨z, H', I', rz, qz⟩ => SlX.cmpback rz ⟨z, H', I', rz, qz⟩) fun _ _ e => e)
end
end DM

/-! A list comprehension whose item may use what the maker's cells hold: [why(f) for f in asks], the asks lambdas of the maker. -/
namespace DM
open PySem PySem.Spec PyProof.Rows L2

/-! ### the block, with the maker's invariant at its start at hand -/
abbrev bkE (X : Cx) (sc : Scope) (s : Shared) : Env := compEnvC sc (cellsFrom (s.heap.objs.size + 1) sc.names (cloFrom X.env.cells sc.names [])) s.heap.objs.size X.env
abbrev BkX (X : Cx) (sc : Scope) (s : Shared) (H : Hp) (fp : List Addr) : Cx := X.blk s H sc (bkE X sc s) fp
abbrev bkS (sc : Scope) (s : Shared) : Shared := { s with heap := pushCells (s.heap.push { cls := .type "dict", data := .dict #[] }) sc.names }
/-- between two turns -/
def Lp (X : Cx) (sc : Scope) (vs : List Nat) (σ : L2.St) (fp : List Addr) (tn : Nat → Heap → Prop) (s0 : Shared) (H0 : Hp) (W : Nat → Nat → Hp → Prop) (n : Nat) (s : Shared) : Prop :=
  ∃ (i : Nat) (H : Hp), Inv (BkX X sc s0 H0 fp) [] (wipe σ vs) H s ∧ tn i s.heap ∧ (∀ b ∈ fp, H b = none) ∧ W i n H
/-- what a turn asks of the wish -/
def StepW (g : TG) (tt : TT) (te : TE) (vs : List Nat) (σ : L2.St) (D : Addr) (Q : VK) (J : It) (W : Nat → Nat → Hp → Prop) : Prop := ∀ i m H, W i m H →
  (J.stop i H ∧ Q (.ref D) H) ∨ (J.go i H ∧ ∃ Nx : Hp → Prop, (∀ H', Nx H' → ∃ m', m' < m ∧ W (i + 1) m' H') ∧ ∀ x H', J.yld i H x H' → g x (wipe σ vs) H' fun σ2 H2 => wipe σ2 vs = wipe σ vs ∧ tt σ2 H2 fun b H3 =>
    if b = true then te σ2 H3 fun y H4 => ∃ acc, H4 D = some (.lst acc) ∧ acc.length < sizeLine ∧ Nx (upd H4 D (.lst (acc ++ [y]))) else Nx H3)
section
variable {X : Cx} {pins : List (Addr × Obj)} {σ : L2.St} {s3 : Shared} {H3 : Hp} {sc : Scope} {own : List (Str × Nat)} {fp : List Addr} {tn : Nat → Heap → Prop} {J : It} {it D : Addr} {W : Nat → Nat → Hp → Prop} {g : TG} {tt : TT} {te : TE} {Q : VK} {elt tg iter : Expr} {pos : Pos}
theorem own_fp {fp : List Addr} {s0 : Shared} {H0 H' : Hp} {σ' : L2.St} {s' : Shared} (J : Inv (BkX X sc s0 H0 fp) [] σ' H' s') (n : ∀ b ∈ fp, H' b = none) (b : Addr) (hb : b ∈ fp) : FpOk (BkX X sc s0 H0 fp) [] H' b := by
  obtain ⟨e1, e2⟩ := J.ok.exf b hb
  exact ⟨n b hb, e1, J.ok.exfs b hb, Or.inl hb, fun x c h => e2 x c h, fun p hp => by cases hp⟩
/-- the loop is left: the maker's invariant is back -/
theorem out_of {s' : Shared} {H' : Hp} (I3 : Inv X pins σ H3 s3) (f3 : ∀ b ∈ fp, FpOk X pins H3 b) (J : Inv (BkX X sc s3 H3 fp) [] (wipe σ (own.map (·.2))) H' s') : Inv X pins σ H' s' ∧ FpOk X pins H' s3.heap.objs.size ∧ ∃ m, s'.heap.Ns s3.heap.objs.size m := by
  refine ⟨?_, I3.fpOk (Nat.le_refl _) J.free, ?_⟩
  · refine I3.call' (ch := fp) J.os J.base J.hok J.bare fun b hb => ?_
    have f := f3 b hb
    exact ⟨f.2.2.2.1, f.2.1, f.2.2.2.2.1, f.2.2.2.2.2⟩
  · obtain ⟨m, h, _⟩ := J.loc
    exact ⟨m, h⟩
/-- a turn has ended -/
theorem next_of {n i : Nat} {s7 s' : Shared} {H' : Hp} {σ8 : L2.St} {Nx : Hp → Prop} (T : Turn X.prog X.w X.K tg J fp it tn) (st : tn (i + 1) s7.heap) (hw : wipe σ8 (own.map (·.2)) = wipe σ (own.map (·.2)))
    (hN : ∀ H', Nx H' → ∃ m', m' < n ∧ W (i + 1) m' H') (I : Inv (BkX X sc s3 H3 fp) ([] ++ pinsAt fp s7.heap) σ8 H' s') (nx : Nx H') : ∃ m, m < n ∧ Lp X sc (own.map (·.2)) σ fp tn s3 H3 W m s' := by
  obtain ⟨m', hm, w'⟩ := hN H' nx
  have at_ : ∀ b ∈ fp, ∀ o, s7.heap.get? b = some o → s'.heap.get? b = some o ∧ H' b = none := fun b hb o e => by
    have z := I.pin (b, o) (by
      refine List.mem_append_right _ ?_
      rw [List.nil_append]
      exact mem_pinsAt hb e)
    exact ⟨z.1, z.2.1⟩
  refine ⟨m', hm, i + 1, H', ?_, ?_, ?_, w'⟩
  · refine I.unpinned.weak ?_ ?_
    · rw [← hw, wipe_length]
    · intro j v e
      rw [← hw] at e
      exact (wipe_some e).1
  · exact T.keep _ _ _ st fun b hb o e => (at_ b hb o e).1
  · intro b hb
    obtain ⟨o, e, _⟩ := T.obj _ _ st b hb
    exact (at_ b hb o e).2
/-- the block's run -/
theorem blk_run {R : Result → Shared → Prop} (hc : X.calm = true) (hN : X.N.Nodup) (I3 : Inv X pins σ H3 s3) (ok : BlkOk X.N X.env.scope sc own) (T : Turn X.prog X.w X.K tg J fp it tn) (t3 : tn 0 s3.heap) (f3 : ∀ b ∈ fp, FpOk X pins H3 b ∧ b < s3.heap.objs.size) {m0 : Nat} (w0 : W 0 m0 H3)
    (step : StepW g tt te (own.map (·.2)) σ D Q J W) (hg : PG (BkX X sc s3 H3 fp) tg g) (ht : PTs (BkX X sc s3 H3 fp) [] tt) (he : PE (BkX X sc s3 H3 fp) elt (fun σ2 H2 Q2 => wipe σ2 (own.map (·.2)) = wipe σ (own.map (·.2)) ∧ te σ2 H2 Q2))
    (fin : ∀ s' H', Inv X pins σ H' s' → Q (.ref D) H' → FpOk X pins H' s3.heap.objs.size → (∃ m, s'.heap.Ns s3.heap.objs.size m) → R (.ok .next) s') :
    codeAny (model X.prog X.w) X.A (.compStart (.ListComp elt [⟨tg, iter, [], 0⟩] sc pos) 0 (.ref it) (.ref D) (bkE X sc s3)) R (bkS sc s3) := by
  have start : Inv (BkX X sc s3 H3 fp) [] (wipe σ (own.map (·.2))) H3 (bkS sc s3) := block_start I3 ok hN f3
  have t4 : tn 0 (bkS sc s3).heap := T.keep _ _ _ t3 fun b _ o e => pushCells_keeps _ _ _ _ (Heap.get?_push_of_some _ e)
  have loop : codeAny (model X.prog X.w) X.A (.compLoop (.ListComp elt [⟨tg, iter, [], 0⟩] sc pos) 0 (.ref it) (.ref D) (bkE X sc s3)) R (bkS sc s3) := by
    refine compLoop_any (Lp X sc (own.map (·.2)) σ fp tn s3 H3 W) ?_ m0 ⟨0, H3, start, t4, fun b hb => (f3 b hb).1.1, w0⟩
    intro n s5 ⟨i, H5, I5, t5, n5, w5⟩
    rcases step i n H5 w5 with ⟨stop, q⟩ | ⟨go, Nx, hNx, one⟩
    · refine thnF (T.done (BkX X sc s3 H3 fp) rfl rfl rfl hc i [] s5 _ H5 (fun _ _ => False) I5 (own_fp I5 n5) t5 stop) ?_
      rintro _ s6 ⟨rfl, I6⟩
      obtain ⟨b1, b2, b3⟩ := out_of I3 (fun b hb => (f3 b hb).1) I6
      exact fin s6 H5 b1 q b2 b3
    · refine thnF (T.item (BkX X sc s3 H3 fp) rfl rfl rfl hc i [] s5 _ H5 (fun _ _ => False) I5 (own_fp I5 n5) t5 go) ?_
      rintro _ s6 ⟨u, rfl, h6⟩
      refine thnF h6 ?_
      rintro _ s7 ⟨x, H7, I7, rx, y7, t7, n7⟩
      have P7 := I7.pinned (own_fp I7 n7) (T.obj _ _ t7)
      refine thnF (hg.run _ s7 _ H7 x u _ P7 rx (one x H7 y7)) ?_
      rintro _ s8 ⟨σ8, H8, I8, hw, q8⟩
      refine thnF (ht.run _ s8 σ8 H8 _ I8 q8) ?_
      rintro b s9 ⟨H9, I9, q9⟩
      cases b with
      | false =>
        rw [if_neg Bool.false_ne_true] at q9 ⊢
        exact next_of T t7 hw hNx I9 q9
      | true =>
        rw [if_pos rfl] at q9 ⊢
        refine thnF (he.run _ s9 σ8 H9 _ I9 ⟨hw, q9⟩) ?_
        rintro z s10 ⟨y, H10, I10, ry, acc, hD, hz, nx⟩
        exact app_ok (X := BkX X sc s3 H3 fp) I10 hD hz ry fun s11 I11 => next_of T t7 hw hNx I11 nx
  exact codeAny_compStart_list loop (T.self X.A 0 _ _ _ t4 loop)
end
theorem pe_lcM {X : Cx} {elt tg iter : Expr} {sc : Scope} {own : List (Str × Nat)} {pos : Pos} {wi : TI} {g : TG} {tt : TT} {te : TE} (hc : X.calm = true) (hN : X.N.Nodup) (hi : PI X tg iter wi) (ok : BlkOk X.N X.env.scope sc own)
    (hg : ∀ (s : Shared) (H : Hp) (fp : List Addr), PG (BkX X sc s H fp) tg g)
    (ht : ∀ (s : Shared) (H : Hp) (fp : List Addr), PTs (BkX X sc s H fp) [] tt)
    (he : ∀ (pins : List (Addr × Obj)) (σ : L2.St) (s : Shared) (H : Hp) (fp : List Addr), Inv X pins σ H s → (∀ b ∈ fp, FpOk X pins H b) → PE (BkX X sc s H fp) elt (fun σ2 H2 Q2 => wipe σ2 (own.map (·.2)) = wipe σ (own.map (·.2)) ∧ te σ2 H2 Q2))
    (hs : ∀ x, foldedSetIterable iter X.env x = pure x := by intro _; rfl) : PE X (.ListComp elt [⟨tg, iter, [], 0⟩] sc pos) (tLc wi g tt te (own.map (·.2))) := ⟨fun pins s σ H Q I h => by
  rw [eval_ListComp]
  have clo : ∀ y ∈ sc.names, y.2 = .free → ∃ c, X.env.cells.lookup y.1 = some c := fun y hy e => I.ok.has _ (ok.free y hy e)
  refine wpAny_comprehension_free (use := none) rfl hs (closure_ok clo) ok.kind (fun y hy e => (ok.uniq y hy).trans (congrArg some e)) ?_
  refine L2.thn (hi.run pins s σ H _ I h) ?_
  intro xv s1 h1
  refine L2.thn h1 ?_
  rintro _ s2 ⟨it, fp, tn, J, H2, rfl, I2, T, t2, f2, q⟩
  refine wpAny_newObj_type (newEnv_comp ?_) (Nat.zero_le sizeLine)
  obtain ⟨W, ⟨m0, w0⟩, turn⟩ := q s2.heap.objs.size (I2.hok.fresh (Nat.le_refl _))
  have grown : ∀ b o, s2.heap.get? b = some o → (s2.heap.push { cls := .type "list", data := .seq ([] : List Value).toArray }).get? b = some o := fun b o e => Heap.get?_push_of_some _ e
  have I3 : Inv X pins σ (upd H2 s2.heap.objs.size (.lst [])) { s2 with heap := s2.heap.push { cls := .type "list", data := .seq ([] : List Value).toArray } } :=
    I2.laid (t' := s2.toks) grown (Nat.le_refl _) ⟨Nat.zero_le _, [], 0, .nil, Heap.get?_push_size _ rfl⟩
  have young : ∀ b ∈ fp, b < s2.heap.objs.size := fun b hb => by
    obtain ⟨o, e, _⟩ := T.obj _ _ t2 b hb
    exact Heap.lt_size e
  have fp3 : ∀ b ∈ fp, FpOk X pins (upd H2 s2.heap.objs.size (.lst [])) b := fun b hb => by
    refine ⟨?_, (f2 b hb).2⟩
    rw [upd_ne (Nat.ne_of_lt (young b hb))]
    exact (f2 b hb).1
  refine blk_run (own := own) hc hN I3 ok T (T.keep _ _ _ t2 fun b _ o e => grown b o e) (fun b hb => ⟨fp3 b hb, ?_⟩) w0 turn (hg _ _ fp) (ht _ _ fp) (he pins σ _ _ fp I3 fp3) fun s' H' I' qq f n => ?_
  · rw [Heap.size_push]
    exact Nat.lt_succ_of_lt (young b hb)
  · obtain ⟨m, hn⟩ := n
    obtain ⟨f0, f1, f2, f3, f4, f5⟩ := f
    exact ⟨m, hn, fun h'' sb => ⟨.ref s2.heap.objs.size, H', I'.turned (t' := s'.toks) (fun b o hb e => (sb.2 b hb).trans e) f0 f1 f3 f4 f5, rfl, qq⟩⟩⟩

/-! ### a lambda handed over, its maker's cells at hand -/
section
variable {cl : List (Str × Addr)} {fr : List Str} {ws : List (Option V)} {s : Shared} {H HZ : Hp} {h : Heap} {fs ex : List Addr}
theorem cells_unX (C : NdefX.CellsAt cl fr ws s.heap H) (un : Un fs ex H HZ s.heap h) (out : ∀ y c, cl.lookup y = some c → c ∉ ex) : NdefX.CellsAt cl fr ws h HZ := by
  have stays : ∀ {y : Str} {c : Addr} {v : Option Value}, cl.lookup y = some c → H c = none → s.heap.IsCell c v → h.IsCell c v := fun {y c v} hy n ⟨o, ho, hd⟩ => by
    obtain ⟨sl, q⟩ := un.any ho n (out y c hy)
    exact ⟨_, q, hd⟩
  refine ⟨C.len, fun y c e => ?_, C.inj, fun i y hy => ?_⟩
  · obtain ⟨h1, v, o, ho, hd⟩ := C.all y c e
    exact ⟨un.free c o ho h1 (out y c e), v, stays e h1 ⟨o, ho, hd⟩⟩
  · obtain ⟨c, hc, hv⟩ := C.has i y hy
    refine ⟨c, hc, fun v e => ?_⟩
    obtain ⟨u, ru, z⟩ := hv v e
    exact ⟨u, ru, stays hc (C.all y c hc).1 z⟩
end
theorem wipe_out {σ : L2.St} {i : Nat} : ∀ {vs : List Nat}, i ∉ vs → (wipe σ vs)[i]? = σ[i]?
  | [], _ => rfl
  | v :: vs, h => by
    unfold wipe
    rw [List.getElem?_set_ne (fun e => h (by rw [e]; exact List.mem_cons_self)), wipe_out fun z => h (List.mem_cons_of_mem _ z)]
theorem capV_wipe {cs vs : List Nat} {σ τ : L2.St} (h : wipe τ vs = wipe σ vs) (d : ∀ j ∈ cs, j ∉ vs) : capV cs τ = capV cs σ := by
  unfold capV
  refine List.map_congr_left fun i hi => ?_
  rw [← wipe_out (σ := τ) (d i hi), h, wipe_out (d i hi)]
section
variable {X : Cx} {cn : Str → Addr} {E : XKS} {tx : Nat → Option LamT} {n k kk : Nat} {P : Addr} {RR : Rs DM.D → Rs DM.D} {bs : Nat → Option LamD} {x : Str} {p pos : Pos} {e : Expr} {fe : Fe} {ev : Env} {Gd : L2.St → Prop}
theorem lam_slotsG {L : LamT} {B : LamD} {G : Gx} {H : Hp} {σ : L2.St} {δ : Sls} (l2 : B.cs.length = L.fr.length) (hl : L.ps.length = L.dvs.length) (r : RepAll G H B.dvs L.dvs) (en : EnvOk G H σ δ) : EnvOk G H (NdefX.startF (L.ps ++ L.fr) L.dvs (capV B.cs σ)) (lamSl B δ) := by
  have l1 := RepAll.length r
  have e : NdefX.startF (L.ps ++ L.fr) L.dvs (capV B.cs σ) = L.dvs.map some ++ capV B.cs σ := by
    unfold NdefX.startF capV
    have : (L.ps ++ L.fr).length - L.dvs.length - (B.cs.map fun i => (σ[i]?).join).length = 0 := by
      rw [List.length_append, List.length_map]
      omega
    rw [this, List.replicate_zero, List.append_nil]
  rw [e]
  unfold lamSl capV
  refine ⟨by simp [l1], fun j s hs => ?_⟩
  by_cases hj : j < B.dvs.length
  · rw [List.getElem?_append_left (by simpa using hj), List.getElem?_map] at hs
    rw [List.getElem?_append_left (by rw [List.length_map]; omega), List.getElem?_map]
    cases q : B.dvs[j]? with
    | none => rw [q] at hs; cases hs
    | some d =>
      rw [q] at hs
      cases hs
      obtain ⟨v, hv, rv⟩ := RepAll.getD r q
      exact ⟨some v, by rw [hv]; rfl, v, rfl, rv⟩
  · rw [List.getElem?_append_right (by simp; omega), List.length_map, List.getElem?_map] at hs
    rw [List.getElem?_append_right (by rw [List.length_map]; omega), List.length_map, List.getElem?_map]
    rw [l1]
    cases q : B.cs[j - B.dvs.length]? with
    | none => rw [q] at hs; cases hs
    | some i =>
      rw [q] at hs
      cases hs
      refine ⟨(σ[i]?).join, rfl, ?_⟩
      cases q2 : δ[i]? with
      | none =>
        show SlOk G H (δ.getD i .un) _
        rw [List.getD_eq_getElem?_getD, q2]
        exact trivial
      | some sl =>
        show SlOk G H (δ.getD i .un) _
        rw [List.getD_eq_getElem?_getD, q2]
        obtain ⟨v, h1, h2⟩ := en.sl i sl q2
        show SlOk G H sl _
        rw [h1]
        exact h2
/-- what is asked of a lambda where it is called, away from its maker -/
structure LamAw (X : Cx) (cn : Str → Addr) (ev : Env) (Gd : L2.St → Prop) (tx : Nat → Option LamT) (kk : Nat) (i : Nat) (B : LamD) : Prop where
  ex : ∃ L, tx i = some L ∧ LamB L ∧ B.cs.length = L.fr.length ∧ (∀ pins σ H s, Inv X pins σ H s → Gd σ → NdefX.CellsAt (lamC ev L) L.fr (capV B.cs σ) s.heap H) ∧ LamDE X.prog X.w X.K X.mg X.base cn kk L B.b ∧ ∀ π H, RepAll (Gx.at (gx X.K (c0 cn)) π) H B.dvs L.dvs
theorem pe_lamAw (F : LamFn X.prog X.w X.K X.mg X.base cn x k RR) (hr : Room (kk + k) X.A) (hbs : ∀ i B, bs i = some B → LamAw X cn ev Gd tx kk i B) (he : DE X ⟨cn, lamJ ev tx n P⟩ E e fe) (hg : Gl X x) (hdb : (x == ("__debug__" : Str)) = false)
    (hs : starEach [e] X.env = (false, eval e X.env) :: starEach [] X.env) (hpl : (backTo pos (starEach [] X.env)).any (·.1) = false) : PE X (.Call (.Name x p) [e] [] pos) (fun σ H Q => Gd σ ∧ tD (gx X.K ⟨cn, lamJ ev tx n P⟩) E (fLamFn RR bs fe) σ H Q) := by
  obtain ⟨g, hm, hk, gives⟩ := F.ex
  refine ⟨fun pins s σ H Q I ⟨hG, h⟩ => ?_⟩
  have arg : PA X [e] (tCons (tD (gx X.K ⟨cn, lamJ ev tx n P⟩) E fe) tNil) := pa_cons he pa_nil hs
  refine wpAny_Call_Name_kw (ld_glob I hg hm ?_ hdb)
  refine PySem.W.callWith_K (h₀ := X.base) I.ok.mod.kin hk (L2.thn (arg.run pos pins s σ H (fun vs H1 => ∃ (π1 : Wv) (δ : Sls) (m1 : Mir) (i : Nat) (B : LamD) (L : LamT) (f : Addr), vs = [.ref f] ∧ At (gx X.K ⟨cn, lamJ ev tx n P⟩) π1 σ H1 δ m1 ∧ bs i = some B ∧ tx i = some L ∧ LamAt (lamQ ev) (lamC ev L) L f H1 ∧
      Post (gx X.K ⟨cn, lamJ ev tx n P⟩) (E σ) π1 m1 H1 Q (match RR (B.b (lamSl B δ) m1) with
        | .ok r m2 => trimR m1.length r m2
        | _ => .bad)) I ?_) fun us s1 ⟨vs, H1, I1, rv, π1, δ, m1, i, B, L, f, ew, a1, hB, hL, la, po⟩ => ⟨I1.kIn, ?_⟩) hs hpl
  · obtain ⟨π, δ, m, a, po⟩ := h
    refine ⟨π, δ, m, a, ?_⟩
    unfold fLamFn at po
    cases hf : fe δ m with
    | bad => rw [hf] at po; exact po
    | exc y m1 => rw [hf] at po; exact po
    | ok d m1 =>
      rw [hf] at po
      intro π1 v H1 go rv
      simp only [Rs.bind] at po
      cases d with
      | lam i =>
        simp only at po
        cases hB : bs i with
        | none => rw [hB] at po; exact po.elim
        | some B =>
          rw [hB] at po
          have a1 := a.step go
          obtain ⟨f, rfl, hlm⟩ := rv
          have hlm : π1.lm.p i f (hid (lv π1 m1) H1) := hlm
          rw [a1.inv.1] at hlm
          obtain ⟨L, hL, la⟩ := hlm
          exact ⟨π1, δ, m1, i, B, L, f, rfl, a1, hB, hL, la.up hid_self, Post.from_ go po⟩
      | _ => exact po.elim
  subst ew
  cases rv with
  | cons r1 r2 =>
  cases r2
  obtain rfl : _ = Value.ref f := r1
  obtain ⟨L', hL', LBk, hl, ca, bd, dr⟩ := (hbs i B hB).ex
  rw [hL] at hL'
  cases hL'
  have en := lam_slotsG hl LBk.dl (dr π1 _) a1.env
  have at1 : At (gx X.K (c0 cn)) π1 (NdefX.startF (L.ps ++ L.fr) L.dvs (capV B.cs σ)) H1 (lamSl B δ) m1 := ⟨en, a1.mok.j0, trivial⟩
  have po1 : Post (gx X.K (c0 cn)) E0 π1 m1 H1 Q (RR (B.b (lamSl B δ) m1)) := by
    cases hR : RR (B.b (lamSl B δ) m1) with
    | ok r m2 =>
      rw [hR] at po
      exact fun π2 v H2 go rv => post_trimR a1.mok po π2 v H2 ⟨go.ex, ⟨go.ok.len, go.ok.nd, go.ok.al, go.ok.alb, go.ok.sep, go.ok.cel⟩⟩ rv
    | exc y m2 => rw [hR] at po; exact po.elim
    | bad => rw [hR] at po; exact po.elim
  have run := gives X.A X.stack s1 H1 f (lamQ ev) (lamC ev L) (capV B.cs σ) L B.b Q π1 (lamSl B δ) m1 kk hr I1.env0 LBk la (ca pins σ H1 s1 I1 hG) bd at1 po1
  refine wpAny_call (codeAny_mono run fun r s2 hq => ?_)
  cases r with
  | error y => exact (hq.choose_spec.choose_spec.choose_spec.choose_spec.choose_spec.2.2.2.2.2.2.2 : False).elim
  | ok fl =>
    cases fl with
    | ret u => exact I1.after hq
    | next => exact False.elim hq
    | brk => exact False.elim hq
    | cont => exact False.elim hq
/-- [why(f) for f in asks] -/
theorem de_asks {tg iter : Expr} {sc : Scope} (own : List (Str × Nat)) {cpos : Pos} {fi : Fi} {gt : TG} {t : Ftg} (hN : X.N.Nodup) (F : LamFn X.prog X.w X.K X.mg X.base cn x k RR) (hr : Room (kk + k) X.A) (hbs : ∀ i B, bs i = some B → LamFit X cn tx kk i B)
    (dis : ∀ i B, bs i = some B → ∀ j ∈ B.cs, j ∉ own.map (·.2)) (hi : DI X ⟨cn, lamJ X.env tx n P⟩ E tg iter fi) (ht : TgOk (gx X.K ⟨cn, lamJ X.env tx n P⟩) gt t (own.map (·.2)))
    (hg : ∀ (s : Shared) (H : Hp) (C : Addr) (cl : List (Str × Addr)) (fp : List Addr), PG (X.blk s H sc (compEnvC sc cl C X.env) fp) tg gt)
    (he : ∀ (s : Shared) (H : Hp) (C : Addr) (cl : List (Str × Addr)) (fp : List Addr), DE (X.blk s H sc (compEnvC sc cl C X.env) fp) ⟨cn, lamJ X.env tx n P⟩ ES0 e fe)
    (hgl : ∀ (s : Shared) (H : Hp) (C : Addr) (cl : List (Str × Addr)) (fp : List Addr), Gl (X.blk s H sc (compEnvC sc cl C X.env) fp) x := by intro _ _ _ _ _; rfl) (hdb : (x == ("__debug__" : Str)) = false := by decide)
    (hs : ∀ env : Env, starEach [e] env = (false, eval e env) :: starEach [] env := by intro _; rfl) (hpl : ∀ env : Env, (backTo cpos (starEach [] env)).any (·.1) = false := by intro _; rfl)
    (ok : blkC X.N X.env.scope sc own = true := by rfl) (hc : X.calm = true := by rfl) (hf : ∀ x, foldedSetIterable iter X.env x = pure x := by intro _; rfl) :
    DE X ⟨cn, lamJ X.env tx n P⟩ E (.ListComp (.Call (.Name x p) [e] [] cpos) [⟨tg, iter, [], 0⟩] sc pos) (fLc fi t fYes (fLamFn RR bs fe) (own.map (·.2))) := by
  refine PE.imp (pe_lcM (tt := tDT (gx X.K ⟨cn, lamJ X.env tx n P⟩) ES0 fYes) hc hN hi (blkOk_by ok) (fun s H fp => hg s H _ _ fp) (fun s H fp => dts_nil) (fun pins σ s H fp I hfp => ?_) hf) fun _ _ _ h => lift_lc ht h
  refine pe_lamAw (X := BkX X sc s H fp) (Gd := fun σ2 => wipe σ2 (own.map (·.2)) = wipe σ (own.map (·.2))) F hr (fun i B hB => ?_) (he s H _ _ fp) (hgl s H _ _ fp) hdb (hs _) (hpl _)
  obtain ⟨L, h1, h2, C, h4, h5⟩ := (hbs i B hB).ex
  refine ⟨L, h1, h2, C.len, fun pinsZ σ2 H2 s2 IZ hw => ?_, h4, h5⟩
  rw [capV_wipe hw (dis i B hB)]
  refine cells_unX (C.at I) IZ.base fun y c hy hx => ?_
  exact (hfp c hx).2.2.2.2.1 y c (lamC_look (C.has I.ok) hy) rfl
end
end DM

/-! == of an instance with an own == and a value of a built-in type. -/
namespace DM
open PySem PySem.Spec PyProof.Rows L2
def fOwP (c : Str) (F : Sls → Mir → Rs D) (f g : Fe) : Fe := fun δ m => (f δ m).bind fun x m1 => (g δ m1).bind fun y m2 => if isC c (view m2 x) = true then (match view m2 y with
  | some z => if z.plain = true then noX (F [.dat x, .dat y] m2) else .bad
  | none => .bad) else .bad
section
variable {G : Gx} {E : XKS} {σ : L2.St} {H : Hp} {Q : VK} {c : Str} {F : Sls → Mir → Rs D} {f g : Fe}
theorem lift_owP (h : tD G E (fOwP c F f g) σ H Q) : tOp (rOBp G.K (G.cn c) (spD G 2 F)) (tD G E f) (tD G E g) σ H Q := by
  obtain ⟨π, δ, m, a, p⟩ := h
  refine ⟨π, δ, m, a, ?_⟩
  unfold fOwP at p
  cases hf : f δ m with
  | bad => rw [hf] at p; exact p
  | exc x m1 => rw [hf] at p; exact p
  | ok x m1 =>
    rw [hf] at p
    intro π1 v H1 s1 rx
    have a1 := a.step s1
    refine ⟨π1, δ, m1, a1, ?_⟩
    replace p := Post.from_ s1 p
    simp only [Rs.bind] at p
    cases hg : g δ m1 with
    | bad => rw [hg] at p; exact p
    | exc x2 m2 => rw [hg] at p; exact p
    | ok y m2 =>
      rw [hg] at p
      intro π2 u H2 s2 ry
      simp only at p
      by_cases hc : isC c (view m2 x) = true
      · rw [if_pos hc] at p
        cases hv : view m2 y with
        | none => rw [hv] at p; exact False.elim p
        | some z =>
          rw [hv] at p
          simp only at p
          by_cases hz : z.plain = true
          · rw [if_pos hz] at p
            have rx2 := s2.ex.rep x rx
            obtain ⟨p1, dx, fs, rfl, e1⟩ := isC_view s2.ok rx2 hc
            exact ⟨p1, dx, fs, tyD z, rfl, e1, tyx_of (G := G.at π2) hz (view_rep s2.ok ry hv), notFirst_plain hz, rfl, π2, _, m2, (at_dats (ds := [x, y]) (vs := [.ref p1, u]) (a1.step s2) ⟨_, _, rfl, rx2, _, _, rfl, ry, rfl⟩).j0, (Post.noX (Post.from_ s2 p)).j0⟩
          · rw [if_neg hz] at p; exact False.elim p
      · rw [if_neg hc] at p; exact False.elim p
end
section
variable {X : Cx} {cn : Cn} {E : XKS} {c : Str} {k : Nat} {F : Sls → Mir → Rs DM.D} {a b : Expr} {f g : Fe} {pos : Pos}
theorem de_ownEqP {ps : List Str} (D : Md X.prog X.w X.K X.mg X.base (cn c) "__eq__" ps k (spD (gx X.K cn) 2 F)) (hr : Room k X.A) (ha : DE X cn E a f) (hb : DE X cn E b g) (hm : behindInMarks .Eq b = false := by first | exact nomark _ | rfl) : DE X cn E (.Compare a [.Eq] [b] pos) (fOwP c F f g) := by
  obtain ⟨fa, fd, M, bi, Fo⟩ := D.ex
  exact PE.imp (pe_cmpR (op_ownEqP M (Fo.raw bi .nil) hr) ha hb hm) fun σ H Q h => by simpa using lift_owP h
theorem dt_ownEqP {ps : List Str} (D : Md X.prog X.w X.K X.mg X.base (cn c) "__eq__" ps k (spD (gx X.K cn) 2 F)) (hr : Room k X.A) (ha : DE X cn E a f) (hb : DE X cn E b g) (hm : behindInMarks .Eq b = false := by first | exact nomark _ | rfl) :
    DT X cn E (.Compare a [.Eq] [b] pos) (fB (fOwP c F f g)) := by
  obtain ⟨fa, fd, M, bi, Fo⟩ := D.ex
  refine PT.imp (pt_cmpR (op_ownEqP M (Fo.raw bi .nil) hr) ha hb hm) fun σ H Q h => ?_
  have h2 := lift_owP (lift_b h)
  simpa using (show tTest (tOp _ _ _) σ H Q from h2)
end
end DM

/-! A list comprehension whose list may change later: it takes a place of the mirror. -/
namespace DM
open PySem PySem.Spec PyProof.Rows L2
def fNewLc (fi : Fi) (t : Ftg) (tt : Ft) (te : Fe) (vs : List Nat) : Fe := fun δ m => (fi δ m).bind fun dg m1 =>
  if dg.1.length < sizeLine then (match lcL t tt te (wipeD δ vs) dg.2 dg.1 m1 with
    | .ok ys m2 => .ok (.ref m2.length) (m2 ++ [some (.lst ys)])
    | _ => .bad) else .bad
section
variable {G : Gx} {E : XKS} {H : Hp}
/-- the heap without one object -/
def drp (H : Hp) (p : Addr) : Hp := fun a => if a = p then none else H a
theorem drp_ne {H : Hp} {p a : Addr} (h : a ≠ p) : drp H p a = H a := if_neg h
theorem drp_self {H : Hp} {p : Addr} : drp H p p = none := if_pos rfl
theorem drp_upd {H : Hp} {p : Addr} {o : HO} (h : H p = some o) : upd (drp H p) p o = H := by
  funext a
  by_cases z : a = p
  · rw [z, upd_same, h]
  · rw [upd_ne z, drp_ne z]
/-- a hidden list, new since then, takes the next place -/
theorem drop_new {π1 : Wv} {m1 mz : Mir} {H1 H' : Hp} {Dl : Addr} {q : List Addr} {acc : List V} {ys : List D} {X : XK} {Q : VK} (hb : π1.hb Dl = false) (hD : H1 Dl = none) (k1 : Ex π1 m1 H1 ⟨q, π1.hb, π1.lm⟩ mz H') (k2 : MOk G ⟨q, hide π1.hb Dl, π1.lm⟩ H' mz)
    (k3 : H' Dl = some (.lst acc)) (k4 : RepAll (G.at ⟨q, hide π1.hb Dl, π1.lm⟩) (hid (lv ⟨q, hide π1.hb Dl, π1.lm⟩ mz) H') ys acc) (p : Post G X π1 m1 H1 Q (.ok (.ref mz.length) (mz ++ [some (.lst ys)]))) : Q (.ref Dl) H' := by
  have ne : ∀ {a : Addr}, hide π1.hb Dl a = false → a ≠ Dl := fun {a} h => (hide_le h).2
  have sm : Same (hid (lv ⟨q, hide π1.hb Dl, π1.lm⟩ mz) H') (hid (lv ⟨q, π1.hb, π1.lm⟩ mz) (drp H' Dl)) := fun b o h => by
    obtain ⟨h1, h2⟩ := hid_some.mp h
    obtain ⟨h3, h4⟩ := lv_false.mp h1
    exact hid_some.mpr ⟨lv_false.mpr ⟨(hide_le h3).1, h4⟩, by rw [drp_ne (ne h3)]; exact h2⟩
  have ok : MOk G ⟨q, π1.hb, π1.lm⟩ (drp H' Dl) mz := by
    refine ⟨k2.len, k2.nd, fun a ha => ?_, fun a ha => ?_, fun a ha => (hide_le (k2.sep a ha)).1, fun n d a h1 h2 => ?_⟩
    · rw [drp_ne (ne (k2.sep a ha))]
      exact k2.al a ha
    · have z : a ≠ Dl := fun z => by
        rw [z] at ha
        have ha : π1.hb Dl = true := ha
        rw [hb] at ha
        cases ha
      rw [drp_ne z]
      exact k2.alb a (by show (π1.hb a || a == Dl) = true; rw [show π1.hb a = true from ha]; rfl)
    · have z : a ≠ Dl := ne (k2.sep a (List.mem_of_getElem? h2))
      exact Top.up (π := ⟨q, hide π1.hb Dl, π1.lm⟩) (π' := ⟨q, π1.hb, π1.lm⟩) ⟨List.prefix_refl _, rfl⟩ sm (fun o h => by rw [drp_ne z]; exact h) (k2.cel n d a h1 h2)
  have ex : Ex π1 m1 H1 ⟨q, π1.hb, π1.lm⟩ mz (drp H' Dl) := ⟨k1.pre, k1.hb, fun a o h1 h2 => by
    obtain ⟨h3, h4⟩ := k1.st a o h1 h2
    refine ⟨?_, h4⟩
    rw [drp_ne (fun z => by rw [z, hD] at h2; cases h2)]
    exact h3⟩
  have fin := new_lst (E := X) (Q := Q) ok (RepAll.mono sm ys k4) drp_self (Post.from_ ⟨ex, ok⟩ p)
  rw [drp_upd k3] at fin
  exact fin
theorem lift_newLc {σ : L2.St} {Q : VK} {fi : Fi} {tg : TG} {t : Ftg} {tt : Ft} {te : Fe} {vs : List Nat} (ht : TgOk G tg t vs) (h : tD G E (fNewLc fi t tt te vs) σ H Q) : tLc (tDI G E fi) tg (tDT G ES0 tt) (tD G ES0 te) vs σ H Q := by
  obtain ⟨π, δ, m, a, p⟩ := h
  refine ⟨π, δ, m, a, ?_⟩
  unfold fNewLc at p
  cases hf : fi δ m with
  | bad => rw [hf] at p; exact p
  | exc x m1 => rw [hf] at p; exact p
  | ok dg m1 =>
    obtain ⟨ds, gd⟩ := dg
    rw [hf] at p
    simp only [Rs.bind] at p
    intro π1 J H1 s1 wk Dl hD
    have a1 := a.step s1
    replace p := Post.from_ s1 p
    by_cases hsz : ds.length < sizeLine
    · rw [if_pos hsz] at p
      obtain ⟨Gv, Y, wlk, hG, hY⟩ := wk.ex
      have gok : ∀ {δ0 : Sls} {ds : List D} {m' : Mir} {zs : List D} {mz : Mir}, lcL t tt te δ0 gd ds m' = .ok zs mz → gdOk gd m' = true := by
        intro δ0 ds m' zs mz h
        cases q : gdOk gd m' with
        | true => rfl
        | false => cases ds <;> simp [lcL, q] at h
      generalize hδ0 : wipeD δ vs = δ0 at p
      cases hall : lcL t tt te δ0 gd ds m1 with
      | bad => rw [hall] at p; exact False.elim p
      | exc x m2 => rw [hall] at p; exact False.elim p
      | ok zs0 mz =>
        rw [hall] at p
        simp only at p
        have hDb : ∀ q, (⟨q, hide π1.hb Dl, π1.lm⟩ : Wv).hb Dl = true := fun q => hide_at
        refine lc_it wlk (fun i H' => ∃ acc ys m' q, Ex π1 m1 H1 ⟨q, π1.hb, π1.lm⟩ m' H' ∧ MOk G ⟨q, hide π1.hb Dl, π1.lm⟩ H' m' ∧ H' Dl = some (.lst acc) ∧ RepAll (G.at ⟨q, hide π1.hb Dl, π1.lm⟩) (hid (lv ⟨q, hide π1.hb Dl, π1.lm⟩ m') H') ys acc ∧ ys.length ≤ i ∧
          ∃ zs, lcL t tt te δ0 gd (ds.drop i) m' = .ok zs mz ∧ ys ++ zs = zs0) ?_ ?_ ?_ ?_
        · exact ⟨[], [], m1, π1.pi, Ex.of (same_new hD), MOk.hideNew s1.ok hD, upd_same, rfl, Nat.le_refl _, zs0, by simpa using hall, rfl⟩
        · rintro i H' _ ⟨acc, ys, m', q, k1, k2, _, _, _, zs, k6, _⟩
          exact hG ⟨q, π1.hb, π1.lm⟩ m' H' k1 k2.unhide (gok k6)
        · rintro i x H' H3 hi ⟨acc, ys, m', q, k1, k2, k3, k4, k5, zs, k6, k7⟩ y
          have hi' : i < ds.length := hi
          have ndl : mlv ⟨q, hide π1.hb Dl, π1.lm⟩ m' Dl = false := by
            cases z : mlv ⟨q, hide π1.hb Dl, π1.lm⟩ m' Dl with
            | false => rfl
            | true =>
              have := k2.sep Dl (mlv_mem z)
              rw [hDb q] at this
              cases this
          have sm0 : Same (hid (lv π1 m1) H1) (hid (lv ⟨q, hide π1.hb Dl, π1.lm⟩ m') H') := fun b o h => by
            obtain ⟨h1, h2⟩ := hid_some.mp h
            obtain ⟨h3, h4⟩ := hid_some.mp (k1.same b o h)
            obtain ⟨h5, h6⟩ := lv_false.mp h3
            exact hid_some.mpr ⟨lv_false.mpr ⟨hide_of h5 (ne_of_none h2 hD), h6⟩, h4⟩
          obtain ⟨sm, d, hdd, rd⟩ := hY i H' x H3 ⟨q, hide π1.hb Dl, π1.lm⟩ m' hi ⟨k1.pre.pre, rfl⟩ sm0 k2 (gok k6) y
          have hdrop : ds.drop i = d :: ds.drop (i + 1) := by
            obtain ⟨hlt, e⟩ := List.getElem?_eq_some_iff.mp hdd
            rw [List.drop_eq_getElem_cons hlt, e]
          have gk := gok k6
          rw [hdrop] at k6
          simp only [lcL, gk, if_pos] at k6
          have sm1 : Same (hid (lv ⟨q, hide π1.hb Dl, π1.lm⟩ m') H') (hid (lv ⟨q, hide π1.hb Dl, π1.lm⟩ m') H3) := hid_same fun b o _ h => sm b o h
          have e3 : EnvOk (G.at ⟨q, hide π1.hb Dl, π1.lm⟩) (hid (lv ⟨q, hide π1.hb Dl, π1.lm⟩ m') H3) (wipe σ vs) δ0 := by
            rw [← hδ0]
            exact EnvOk.wipe (a1.env.up (π2 := ⟨q, hide π1.hb Dl, π1.lm⟩) ⟨k1.pre.pre, rfl⟩ (fun b o h => sm1 b o (sm0 b o h))) vs
          have ok3 : MOk G ⟨q, hide π1.hb Dl, π1.lm⟩ H3 m' := k2.keep sm
          have inv3 : G.j.p ⟨q, hide π1.hb Dl, π1.lm⟩ (hid (lv ⟨q, hide π1.hb Dl, π1.lm⟩ m') H3) := G.j.up ⟨k1.pre.pre, rfl⟩ (fun b o h => sm1 b o (sm0 b o h)) a1.inv
          cases htd : t d δ0 with
          | none => rw [htd] at k6; cases k6
          | some δ1 =>
            rw [htd] at k6
            simp only at k6
            refine ht ⟨q, hide π1.hb Dl, π1.lm⟩ (lv ⟨q, hide π1.hb Dl, π1.lm⟩ m') (wipe σ vs) H3 δ0 δ1 d x _ e3 rd htd fun σ2 e2 w2 => ⟨by rw [w2, wipe_wipe σ vs vs fun _ h => h], ⟨q, hide π1.hb Dl, π1.lm⟩, δ1, m', ⟨e2, ok3, inv3⟩, ?_⟩
            cases htt : tt δ1 m' with
            | bad => rw [htt] at k6; cases k6
            | exc xx m3 => rw [htt] at k6; cases k6
            | ok b m3 =>
              rw [htt] at k6
              intro π4 H4 s4
              have h4b : π4 = ⟨π4.pi, hide π1.hb Dl, π1.lm⟩ := by
                have e1 := s4.ex.hb
                have e2 := s4.ex.pre.lm
                cases π4; cases e1; cases e2; rfl
              generalize π4.pi = q4 at h4b
              subst h4b
              have x4 : Ex π1 m1 H1 ⟨q4, π1.hb, π1.lm⟩ m3 H4 := k1.trans ⟨⟨s4.ex.pre.pre, rfl⟩, rfl, fun b o h1 h2 => s4.ex.st b o h1 (sm b o h2)⟩
              have d4 : H4 Dl = some (.lst acc) ∧ mlv ⟨q4, hide π1.hb Dl, π1.lm⟩ m3 Dl = false := s4.ex.st Dl _ ndl (sm _ _ k3)
              have r4 : RepAll (G.at ⟨q4, hide π1.hb Dl, π1.lm⟩) (hid (lv ⟨q4, hide π1.hb Dl, π1.lm⟩ m3) H4) ys acc := s4.ex.repAll ys (RepAll.mono sm1 ys k4)
              cases b with
              | false =>
                rw [if_neg Bool.false_ne_true]
                exact ⟨acc, ys, m3, q4, x4, s4.ok, d4.1, r4, Nat.le_succ_of_le k5, zs, k6, k7⟩
              | true =>
                rw [if_pos rfl]
                refine ⟨⟨q4, hide π1.hb Dl, π1.lm⟩, δ1, m3, (At.step ⟨e2, ok3, inv3⟩ s4), ?_⟩
                simp only at k6
                cases hte : te δ1 m3 with
                | bad => rw [hte] at k6; cases k6
                | exc xx m4 => rw [hte] at k6; cases k6
                | ok yd m4 =>
                  rw [hte] at k6
                  intro π5 v H5 s5 rv
                  have h5b : π5 = ⟨π5.pi, hide π1.hb Dl, π1.lm⟩ := by
                    have e1 := s5.ex.hb
                    have e2 := s5.ex.pre.lm
                    cases π5; cases e1; cases e2; rfl
                  generalize π5.pi = q5 at h5b
                  subst h5b
                  simp only [Rs.bind] at k6
                  have hlen : acc.length = ys.length := RepAll.length k4
                  have d5 := s5.ex.st Dl _ d4.2 d4.1
                  refine ⟨acc, d5.1, by omega, ?_⟩
                  cases hlc : lcL t tt te δ0 gd (ds.drop (i + 1)) m4 with
                  | bad => rw [hlc] at k6; cases k6
                  | exc xx m5 => rw [hlc] at k6; cases k6
                  | ok zs1 m5 =>
                    rw [hlc] at k6
                    simp only at k6
                    cases k6
                    have smu : Same (hid (lv ⟨q5, hide π1.hb Dl, π1.lm⟩ m4) H5) (hid (lv ⟨q5, hide π1.hb Dl, π1.lm⟩ m4) (upd H5 Dl (.lst (acc ++ [v])))) := hid_same fun b o h1 h2 => by
                      rw [upd_ne (hide_le (lv_false.mp h1).1).2]
                      exact h2
                    refine ⟨acc ++ [v], ys ++ [yd], m4, q5, ?_, s5.ok.updHid (hDb q5), upd_same, ?_, by rw [List.length_append]; simp; omega, zs1, hlc, by simpa using k7⟩
                    · refine ⟨⟨x4.pre.pre.trans s5.ex.pre.pre, rfl⟩, rfl, fun b o h1 h2 => ?_⟩
                      obtain ⟨h3, h4⟩ := x4.st b o h1 h2
                      rw [upd_ne (ne_of_none h2 hD)]
                      exact s5.ex.st b o h4 h3
                    · exact RepAll.append (RepAll.mono smu ys (s5.ex.repAll ys r4)) (RepAll.one (Rep.mono smu yd rv))
        · rintro H' ⟨acc, ys, m', q, k1, k2, k3, k4, k5, zs, k6, k7⟩
          have gk := gok k6
          rw [List.drop_length] at k6
          simp only [lcL, gk, if_pos] at k6
          cases k6
          rw [List.append_nil] at k7
          subst k7
          have ndl : mlv ⟨q, π1.hb, π1.lm⟩ mz Dl = false := by
            cases z : mlv ⟨q, π1.hb, π1.lm⟩ mz Dl with
            | false => rfl
            | true =>
              have := k2.sep Dl (mlv_mem z)
              rw [hDb q] at this
              cases this
          exact drop_new (lv_false.mp (a1.new Dl hD)).1 hD k1 k2 k3 k4 p
    · rw [if_neg hsz] at p
      exact False.elim p
end
section
variable {X : Cx} {cn : Cn} {E : XKS}
theorem de_newLc {elt tg iter : Expr} {ifs : List Expr} {scope : Scope} (own : List (Str × Nat)) {pos : Pos} {fi : Fi} {gt : TG} {t : Ftg} {tt : Ft} {te : Fe} (hN : X.N.Nodup) (hi : DI X cn E tg iter fi) (ht : TgOk (gx X.K cn) gt t (own.map (·.2)))
    (hg : ∀ (s : Shared) (H : Hp) (C : Addr) (cl : List (Str × Addr)) (fp : List Addr), PG (X.blk s H scope (compEnvC scope cl C X.env) fp) tg gt)
    (hts : ∀ (s : Shared) (H : Hp) (C : Addr) (cl : List (Str × Addr)) (fp : List Addr), PTs (X.blk s H scope (compEnvC scope cl C X.env) fp) ifs (tDT (gx X.K cn) ES0 tt))
    (he : ∀ (s : Shared) (H : Hp) (C : Addr) (cl : List (Str × Addr)) (fp : List Addr), DE (X.blk s H scope (compEnvC scope cl C X.env) fp) cn ES0 elt te)
    (ok : blkC X.N X.env.scope scope own = true := by rfl) (hc : X.calm = true := by rfl) (hs : ∀ x, foldedSetIterable iter X.env x = pure x := by intro _; rfl) :
    DE X cn E (.ListComp elt [⟨tg, iter, ifs, 0⟩] scope pos) (fNewLc fi t tt te (own.map (·.2))) :=
  PE.imp (pe_lc hc hN hi (blkOk_by ok) hg hts he hs) fun _ _ _ h => lift_newLc ht h
/-- list(xs), a copy that may change -/
def itemsLT : D → Option (List D)
  | .lst ds => some ds
  | .tup ds => some ds
  | _ => none
def fNewCp (g : Fa) : Fe := fun δ m => (g δ m).bind fun xs m1 => match xs with
  | [x] => (match (view m1 x).bind itemsLT with
    | some ds => .ok (.ref m1.length) (m1 ++ [some (.lst ds)])
    | none => .bad)
  | _ => .bad
theorem de_newCp {x : Str} {p pos : Pos} {e : Expr} {g : Fa} (hg : Gl X x) (hm : X.mg x = none) (hv : bootBuiltins x = some (.type "list")) (ha : DA X cn E [e] g)
    (hn : x ≠ "__name__" := by decide) (hdb : (x == ("__debug__" : Str)) = false := by decide) (he : starEach [e] X.env = (false, eval e X.env) :: starEach [] X.env := by rfl) (hpl : (backTo pos (starEach [] X.env)).any (·.1) = false := by rfl) :
    DE X cn E (.Call (.Name x p) [e] [] pos) (fNewCp g) := PE.imp (pe_callTy call_list_of hg hm hv ha hn hdb he hpl) fun σ H Q q => by
  obtain ⟨π, δ, m, a, po⟩ := q
  refine (show tDA _ E g σ H _ from ⟨π, δ, m, a, ?_⟩)
  unfold fNewCp at po
  cases hf : g δ m with
  | bad => rw [hf] at po; exact po
  | exc y m1 => rw [hf] at po; exact po
  | ok xs m1 =>
    rw [hf] at po
    intro π1 vs H1 s1 rv
    simp only [Rs.bind] at po
    match xs, rv, po with
    | [], _, po => exact po.elim
    | d1 :: d2 :: r, _, po => exact po.elim
    | [d], rv, po =>
      obtain ⟨v, rfl, rd⟩ := repAll1 rv
      simp only at po
      cases hv2 : view m1 d with
      | none => rw [hv2] at po; exact po.elim
      | some z =>
        rw [hv2] at po
        have rz := view_rep s1.ok rd hv2
        cases z with
        | lst ds =>
          obtain ⟨p1, ys, rfl, h1, h2⟩ := rz
          exact ⟨p1, ys, rfl, .inl (.inl (.inl h1)), fun l hl => new_lst s1.ok h2 hl (Post.from_ s1 po)⟩
        | tup ds =>
          obtain ⟨p1, ys, rfl, h1, h2⟩ := rz
          exact ⟨p1, ys, rfl, .inr (Same.sqT hid_self h1), fun l hl => new_lst s1.ok h2 hl (Post.from_ s1 po)⟩
        | _ => exact po.elim
/-- o.clear(), o a list at a place of the mirror -/
def fClr (f : Fe) : Fe := fun δ m => (f δ m).bind fun x m1 => match x with
  | .ref n => (match cell m1 n with
    | some (.lst _) => .ok .non (m1.set n (some (.lst [])))
    | _ => .bad)
  | _ => .bad
theorem de_clr {o : Expr} {apos cpos : Pos} {f : Fe} (ho : DE X cn E o f) (hbase : attributeBase o "clear" X.env (eval o X.env) = eval o X.env := by rfl) (hline : (apos.endLine == cpos.line) = true := by rfl) :
    DE X cn E (.Call (.Attribute o "clear" apos) [] [] cpos) (fClr f) := by
  refine PE.imp (pe_bm0 PySem.F.plainAttrs_list PySem.F.slot_list_clear PySem.F.type_list_clear mt_clear ho hbase hline) fun σ H Q h => ?_
  obtain ⟨π, δ, m, a, p⟩ := h
  refine (show tD _ E f σ H _ from ⟨π, δ, m, a, ?_⟩)
  unfold fClr at p
  cases hf : f δ m with
  | bad => rw [hf] at p; exact p
  | exc x m1 => rw [hf] at p; exact p
  | ok x m1 =>
    rw [hf] at p
    intro π1 v H1 s1 rx
    simp only [Rs.bind] at p
    cases x with
    | ref n =>
      simp only at p
      cases hc : cell m1 n with
      | none => rw [hc] at p; exact False.elim p
      | some c =>
        rw [hc] at p
        cases c with
        | lst ds =>
          simp only at p
          replace p := Post.from_ s1 p
          obtain ⟨q, rfl, hq⟩ := rx
          obtain ⟨xs, t1, t2⟩ := s1.ok.cel n _ q (cell_iff.mp hc) hq
          refine ⟨.inl ⟨rfl, xs, .inl (.inl t1)⟩, q, xs, rfl, rfl, t1, ?_⟩
          have g2 := s1.ok.put (o := .lst []) (d' := .lst []) (cell_iff.mp hc) hq ⟨[], upd_same, rfl⟩
          exact p _ _ _ g2 rfl
        | _ => exact False.elim p
    | _ => exact False.elim p
end
end DM

/-! text * int. -/
namespace DM
open PySem PySem.Spec PyProof.Rows L2
def strRep (z : Str) (n : Int) : Str := if n < 1 then Str.empty else if (n == 1 || z.length == 0) = true then z else ⟨(List.replicate n.toNat z.cps).foldl (· ++ ·) #[]⟩
def okRep (z : Str) (n : Int) : Prop := z.length ≤ 1000 ∧ -1000 ≤ n ∧ n ≤ 1000 ∧ (strRep z n).length ≤ 2000000
instance (z : Str) (n : Int) : Decidable (okRep z n) := by unfold okRep; infer_instance
def rMulS : R2 := fun x y H Q => ∃ z n, x = .str z ∧ y = .int n ∧ okRep z n ∧ Q (.str (strRep z n)) H
theorem op_mulS {X : Cx} : OpR X (binaryOp .Mult) rMulS := by
  rintro pins s σ H _ _ v u Q I rx ry ⟨z, n, rfl, rfl, ⟨hz, h1, h2, h3⟩, q⟩
  obtain ⟨t, rfl⟩ := (show ∃ t, v = Value.str z t from rx)
  obtain ⟨t2, rfl⟩ := (show ∃ t, u = Value.int n t from ry)
  have big : ¬ n < 1 → ¬ ((z.length : Int) > (2 ^ 63 - 1) / n) := fun hn hc => by
    have e : (2 ^ 63 - 1 : Int) / 1000 ≤ (2 ^ 63 - 1) / n := by
      refine Int.le_ediv_of_mul_le (by omega) ?_
      have : (2 ^ 63 - 1 : Int) / 1000 * n ≤ (2 ^ 63 - 1 : Int) / 1000 * 1000 := Int.mul_le_mul_of_nonneg_left h2 (by decide)
      have e2 : (2 ^ 63 - 1 : Int) / 1000 * 1000 ≤ 2 ^ 63 - 1 := by decide
      omega
    have e3 : (1000 : Int) ≤ (2 ^ 63 - 1 : Int) / 1000 := by decide
    omega
  refine PySem.P.mul_str (by rw [decide_eq_false (by omega), decide_eq_false (by omega)]; rfl) (fun hn _ => big hn) (fun hn _ => ?_) ?_
  · have : z.length * n.toNat ≤ 1000 * 1000 := Nat.mul_le_mul hz (by omega)
    unfold Builtin.Str.tooLong
    rw [sizeLine_eq]
    exact decide_eq_false (by omega)
  · unfold strRep at q h3
    by_cases hn : n < 1
    · rw [if_pos hn] at q ⊢
      exact ⟨by decide, .str Str.empty, H, I.tok _, ⟨_, rfl⟩, q⟩
    · rw [if_neg hn] at q h3 ⊢
      by_cases ho : (n == 1 || z.length == 0) = true
      · rw [if_pos ho] at q ⊢
        exact ⟨.str z, H, I, ⟨t, rfl⟩, q⟩
      · rw [if_neg ho] at q h3 ⊢
        exact ⟨by rw [sizeLine_eq]; omega, .str _, H, I.tok _, ⟨_, rfl⟩, q⟩
def oMulS : D → D → Option D
  | .str z, .int n => if okRep z n then some (.str (strRep z n)) else none
  | _, _ => none
theorem rd_mulS {G : Gx} : RD2 G rMulS oMulS := by
  intro π hd H x y d v u Q hn rx ry ho k
  cases x <;> cases y <;> simp only [oMulS] at ho <;> (try contradiction)
  rename_i z n
  obtain ⟨rfl, hz⟩ := rx
  obtain rfl : u = .int n := ry
  by_cases h : okRep z n
  · rw [if_pos h] at ho
    cases ho
    exact ⟨z, n, rfl, rfl, h, k _ H (Same.refl H) ⟨rfl, by have := h.2.2.2; rw [sizeLine_eq]; omega⟩⟩
  · rw [if_neg h] at ho
    cases ho
theorem de_mulS {X : Cx} {cn : Cn} {E : XKS} {a b : Expr} {f g : Fe} {pos : Pos} (ha : DE X cn E a f) (hb : DE X cn E b g) : DE X cn E (.BinOp a .Mult b pos) (f2 oMulS f g) := PE.imp (pe_op op_mulS ha hb) fun _ _ _ => lift2 rd_mulS
end DM

/-! A def, no law, that makes lambdas: its code table is a place of the mirror; no lambda is handed in or out. -/
namespace DM
open PySem PySem.Spec PyProof.Rows L2

/-! ### data without lambdas -/
mutual
def D.nl : D → Bool
  | .lst ds => D.nls ds
  | .tup ds => D.nls ds
  | .ins _ _ ds => D.nls ds
  | .dK _ ds => D.nls ds
  | .dT _ ds => D.nls ds
  | .lam _ => false
  | _ => true
def D.nls : List D → Bool
  | [] => true
  | d :: ds => D.nl d && D.nls ds
end
def nlS : Sl → Bool
  | .dat d => D.nl d
  | _ => true
def nlM : Mir → Bool
  | [] => true
  | none :: m => nlM m
  | some d :: m => D.nl d && nlM m
def nlSs : Sls → Bool
  | [] => true
  | s :: δ => nlS s && nlSs δ
theorem nlM_at : ∀ {m : Mir} {n : Nat} {d : D}, nlM m = true → m[n]? = some (some d) → D.nl d = true
  | [], _, _, _, e => by simp at e
  | none :: m, 0, _, _, e => by cases e
  | none :: m, n + 1, _, h, e => nlM_at (m := m) h e
  | some c :: m, 0, _, h, e => by
    cases e
    exact (Bool.and_eq_true_iff.mp (show (D.nl c && nlM m) = true from h)).1
  | some c :: m, n + 1, _, h, e => nlM_at (m := m) (Bool.and_eq_true_iff.mp (show (D.nl c && nlM m) = true from h)).2 e
theorem nlS_at : ∀ {δ : Sls} {n : Nat} {s : Sl}, nlSs δ = true → δ[n]? = some s → nlS s = true
  | [], _, _, _, e => by simp at e
  | c :: m, 0, _, h, e => by
    cases e
    exact (Bool.and_eq_true_iff.mp (show (nlS c && nlSs m) = true from h)).1
  | c :: m, n + 1, _, h, e => nlS_at (δ := m) (Bool.and_eq_true_iff.mp (show (nlS c && nlSs m) = true from h)).2 e
section
variable {G : Gx} {π π2 : Wv} {H : Hp}
mutual
theorem Rep.lm (hp : π2.pi = π.pi) : ∀ (d : D) {v : V}, D.nl d = true → Rep (G.at π2) H d v → Rep (G.at π) H d v
  | .non, _, _, h => h
  | .bl _, _, _, h => h
  | .int _, _, _, h => h
  | .str _, _, _, h => h
  | .lst ds, _, b, ⟨a, xs, h1, h2, h3⟩ => ⟨a, xs, h1, h2, RepAll.lm hp ds b h3⟩
  | .tup ds, _, b, ⟨a, xs, h1, h2, h3⟩ => ⟨a, xs, h1, h2, RepAll.lm hp ds b h3⟩
  | .ins c ns ds, _, b, ⟨a, dx, xs, h1, h2, h3⟩ => ⟨a, dx, xs, h1, h2, RepAll.lm hp ds b h3⟩
  | .dK ks ds, _, b, ⟨a, xs, h1, h2, h4, h3⟩ => ⟨a, xs, h1, h2, h4, RepAll.lm hp ds b h3⟩
  | .dT ks ds, _, b, ⟨a, xs, h1, h2, h4, h3⟩ => ⟨a, xs, h1, h2, h4, RepAll.lm hp ds b h3⟩
  | .ref n, _, _, ⟨a, h1, h2⟩ => ⟨a, h1, by
    have h2' : π2.pi[n]? = some a := h2
    rw [hp] at h2'
    exact h2'⟩
  | .lam i, _, b, _ => by cases b
  | .tbl _, _, _, h => h
theorem RepAll.lm (hp : π2.pi = π.pi) : ∀ (ds : List D) {vs : List V}, D.nls ds = true → RepAll (G.at π2) H ds vs → RepAll (G.at π) H ds vs
  | [], _, _, h => h
  | d :: ds, _, b, ⟨v, r, h1, h2, h3⟩ => by
    have b2 := Bool.and_eq_true_iff.mp (show (D.nl d && D.nls ds) = true from b)
    exact ⟨v, r, h1, Rep.lm hp d b2.1 h2, RepAll.lm hp ds b2.2 h3⟩
end
theorem Top.lm {Hh : Hp} {d : D} {a : Addr} (hp : π2.pi = π.pi) (b : D.nl d = true) (t : Top (G.at π2) H Hh d a) : Top (G.at π) H Hh d a := by
  cases d with
  | lst ds => obtain ⟨xs, h1, h2⟩ := t; exact ⟨xs, h1, RepAll.lm hp ds b h2⟩
  | ins c ns ds => obtain ⟨dx, xs, h1, h3, h2⟩ := t; exact ⟨dx, xs, h1, h3, RepAll.lm hp ds b h2⟩
  | dK ks ds => obtain ⟨xs, h1, h3, h2⟩ := t; exact ⟨xs, h1, h3, RepAll.lm hp ds b h2⟩
  | dT ks ds => obtain ⟨xs, h1, h3, h2⟩ := t; exact ⟨xs, h1, h3, RepAll.lm hp ds b h2⟩
  | _ => exact t
end
section
variable {G : Gx} {q : List Addr} {hb : Addr → Bool} {l l2 : Lm} {H : Hp} {m : Mir}
theorem MOk.lm (k : MOk G ⟨q, hb, l⟩ H m) (b : nlM m = true) : MOk G ⟨q, hb, l2⟩ H m :=
  ⟨k.len, k.nd, k.al, k.alb, k.sep, fun n d a h1 h2 => Top.lm (π2 := ⟨q, hb, l⟩) (π := ⟨q, hb, l2⟩) rfl (nlM_at b h1) (k.cel n d a h1 h2)⟩
theorem EnvOk.lm {σ : L2.St} {δ : Sls} (e : EnvOk (G.at ⟨q, hb, l⟩) H σ δ) (b : nlSs δ = true) : EnvOk (G.at ⟨q, hb, l2⟩) H σ δ := by
  refine ⟨e.len, fun i s hs => ?_⟩
  obtain ⟨v, h1, h2⟩ := e.sl i s hs
  refine ⟨v, h1, ?_⟩
  have bs := nlS_at b hs
  cases s with
  | un => exact trivial
  | dat d =>
    obtain ⟨x, h3, h4⟩ := h2
    exact ⟨x, h3, Rep.lm (π2 := ⟨q, hb, l⟩) (π := ⟨q, hb, l2⟩) rfl d bs h4⟩
theorem Post.lm {E : XK} {Q : VK} {d : D} {m2 : Mir} (p : Post G E ⟨q, hb, l⟩ m H Q (.ok d m2)) (b : D.nl d = true) (b2 : nlM m2 = true) : Post G E ⟨q, hb, l2⟩ m H Q (.ok d m2) := fun π2 v H2 go rv => by
  have e1 : π2.hb = hb := go.ex.hb
  refine p ⟨π2.pi, π2.hb, l⟩ v H2 ⟨⟨⟨go.ex.pre.pre, rfl⟩, go.ex.hb, fun a o h1 h2 => go.ex.st a o h1 h2⟩, MOk.lm (l := π2.lm) go.ok b2⟩ ?_
  exact Rep.lm (π2 := π2) (π := ⟨π2.pi, π2.hb, l⟩) rfl d b rv
end

/-! ### the promise -/
def tabJ (n : Nat) (P : Addr) : Jx := ⟨fun π _ => π.pi[n]? = some P, fun w _ h => pre_get w h⟩
/-- no lambda in, none out -/
def runL (n : Nat) (g : Fs) : Sls → Mir → Rs D := fun as m => if nlSs as = true ∧ nlM m = true then (match runF n g as m with
  | .ok d m2 => if D.nl d = true ∧ nlM m2 = true then .ok d m2 else .bad
  | _ => .bad) else .bad
def spT (K : PySem.W.Frag) (f : Str → Addr) (pl : Nat) (P : Addr) (n : Nat) (F : Sls → Mir → Rs D) : Sp := fun vs H Q E => vs.length = n ∧ ∃ π as m, At (gx K ⟨f, tabJ pl P⟩) π (vs.map some) H as m ∧ Post (gx K ⟨f, tabJ pl P⟩) E π m H Q (F as m)
theorem nlSs_un : ∀ (δ : Sls) (k : Nat), nlSs δ = true → nlSs (δ ++ List.replicate k .un) = true
  | [], k, _ => by
    induction k with
    | zero => rfl
    | succ k ih => exact ih
  | s :: δ, k, h => by
    obtain ⟨h1, h2⟩ := Bool.and_eq_true_iff.mp (show (nlS s && nlSs δ) = true from h)
    show (nlS s && nlSs (δ ++ List.replicate k .un)) = true
    rw [h1, nlSs_un δ k h2]
    rfl
theorem body_startL {K : PySem.W.Frag} {f : Str → Addr} {pl : Nat} {P : Addr} {env : Env} {tx : Nat → Option LamT} {E : XK} {H : Hp} {Q : VK} {N : List Str} {g : Fs} {vs : List V} {n : Nat} (h : spT K f pl P n (runL N.length g) vs H Q E) :
    tS (gx K ⟨f, lamJ env tx pl P⟩) (fun _ => E) g { nx := fun _ H' => Q .non H', rt := Q } (L2.start N vs) H := by
  obtain ⟨hl, ⟨q, hb, l⟩, as, m, a, p⟩ := h
  have hlen : as.length = vs.length := by have := a.env.len; simpa using this
  unfold runL at p
  by_cases hc : nlSs as = true ∧ nlM m = true
  · rw [if_pos hc] at p
    have mk : MOk (gx K ⟨f, lamJ env tx pl P⟩) ⟨q, hb, lmX env tx⟩ H m := MOk.lm (l := l) (l2 := lmX env tx) ⟨a.mok.len, a.mok.nd, a.mok.al, a.mok.alb, a.mok.sep, a.mok.cel⟩ hc.2
    have en : EnvOk ((gx K ⟨f, lamJ env tx pl P⟩).at ⟨q, hb, lmX env tx⟩) (hid (lv ⟨q, hb, lmX env tx⟩ m) H) (vs.map some) as := EnvOk.lm (l := l) (l2 := lmX env tx) a.env hc.1
    have po : Post (gx K ⟨f, lamJ env tx pl P⟩) E ⟨q, hb, lmX env tx⟩ m H Q (runF N.length g as m) := by
      cases hr : runF N.length g as m with
      | bad => rw [hr] at p; exact p.elim
      | exc x m2 => rw [hr] at p; exact p.elim
      | ok d m2 =>
        rw [hr] at p
        simp only at p
        by_cases hd : D.nl d = true ∧ nlM m2 = true
        · rw [if_pos hd] at p
          refine Post.lm (l := l) (G := gx K ⟨f, lamJ env tx pl P⟩) (fun π2 v H2 go rv => p π2 v H2 ⟨go.ex, ⟨go.ok.len, go.ok.nd, go.ok.al, go.ok.alb, go.ok.sep, go.ok.cel⟩⟩ rv) hd.1 hd.2
        · rw [if_neg hd] at p; exact p.elim
    refine ⟨⟨q, hb, lmX env tx⟩, as ++ List.replicate (N.length - as.length) .un, m, ⟨?_, mk, rfl, a.inv⟩, post_body mk po⟩
    have e := EnvOk.more en (N.length - vs.length)
    unfold L2.start
    rw [hlen]
    exact e
  · rw [if_neg hc] at p
    exact p.elim
section
variable {P : Program} {w : World} {K : PySem.W.Frag} {mg : Str → Option Value} {base : Heap} {f : Str → Addr} {x : Str} {st : Stmt} {N ps : List Str} {k pl : Nat} {g : Fs} {cT pT : Addr} {tx : Nat → Option LamT}
/-- as the top leaves such a def: its code object is at cT -/
structure DfC (K : PySem.W.Frag) (mg : Str → Option Value) (x : Str) (st : Stmt) (ps : List Str) (cT : Addr) : Prop where
  ex : ∃ (fa : Addr) (oc : Value) (od : Option Addr) (kV doc pm : Value) (an : Option Addr) (ct : Value) (osl : Array (Option Value)), mg x = some (.ref fa) ∧ K.lookup fa = some ⟨oc, od, .func (PySem.W.fnOf x x (defArgs st) (defBody st) (defScope st) .none kV doc pm an (.ref cT) ct), osl⟩ ∧ PySem.W.codeIn K (.ref cT) x = true ∧ PySem.W.keepIn K (.ref fa) = true ∧
    Binds K (PySem.W.fnOf x x (defArgs st) (defBody st) (defScope st) .none kV doc pm an (.ref cT) ct) ps []
theorem DfC.fd (D : DfC K mg x st ps cT) (S : FnScope N ps (defScope st))
    (hb : ∀ (fa : Addr) (A : Around) (outer : List Env) (s : Shared) (H : Hp) (E : XK), Room k (A.deeper (envOfC x (defScope st) s.heap.objs.size fa (.ref cT))) →
      PSs (cxOf (L2N.CX P w) P w K mg base N x (defScope st) fa (.ref cT) A outer s H E) (defBody st) (tS (gx K ⟨f, lamJ (envOfC x (defScope st) s.heap.objs.size fa (.ref cT)) tx pl pT⟩) (fun _ => E) g)) :
    Fd P w K mg base x ps (k + 1) (spT K f pl pT ps.length (runL N.length g)) := by
  obtain ⟨fa, oc, od, kV, doc, pm, an, ct, osl, hm, lk, hcd, hk, b⟩ := D.ex
  refine ⟨fa, _, hm, hk, b, fn_of lk hcd S (fun vs H Q E h => h.1) fun A outer s H vs Q E hr h => ⟨_, hb fa A outer s H E hr, body_startL h⟩, oc, od, osl, lk⟩
end
section
variable {X : Cx} {cn : Str → Addr} {pl : Nat} {P : Addr} {E : XKS}
theorem lift_callT {K : PySem.W.Frag} {n : Nat} {F : Sls → Mir → Rs DM.D} {g : Fa} {Q : VK} {σ : L2.St} {H : Hp} (h : tD (gx K ⟨cn, tabJ pl P⟩) E (fCallN n F g) σ H Q) : tCallS (spT K cn pl P n F) E (tDA (gx K ⟨cn, tabJ pl P⟩) E g) σ H Q := by
  obtain ⟨π, δ, m, at0, p⟩ := h
  refine ⟨π, δ, m, at0, ?_⟩
  unfold fCallN at p
  cases hf : g δ m with
  | bad => rw [hf] at p; exact p
  | exc x m1 => rw [hf] at p; exact p
  | ok ds m1 =>
    rw [hf] at p
    intro π1 vs H1 s1 rx
    simp only [Rs.bind] at p
    by_cases hn : ds.length = n
    · rw [if_pos hn] at p
      exact ⟨by rw [RepAll.length rx]; exact hn, π1, _, m1, at_dats (at0.step s1) rx, Post.from_ s1 p⟩
    · rw [if_neg hn] at p
      exact False.elim p
theorem de_fnT {x : Str} {ps : List Str} {k n : Nat} {F : Sls → Mir → Rs DM.D} {p pos : Pos} {e : Expr} {es : List Expr} {g : Fa} (D : Fd X.prog X.w X.K X.mg X.base x ps k (spT X.K cn pl P n F)) (hr : Room k X.A) (hx : Pas X E) (ha : DA X ⟨cn, tabJ pl P⟩ E (e :: es) g) (hg : Gl X x := by rfl)
    (hdb : (x == ("__debug__" : Str)) = false := by decide) (he : starEach (e :: es) X.env = (false, eval e X.env) :: starEach es X.env := by rfl) (hpl : (backTo pos (starEach es X.env)).any (·.1) = false := by rfl) : DE X ⟨cn, tabJ pl P⟩ E (.Call (.Name x p) (e :: es) [] pos) (fCallN n F g) := by
  obtain ⟨f, fd, hm, hk, hb, Fo, lk⟩ := D.ex
  exact PE.imp (pe_callS Fo hr hg hm hk hb hx ha hdb he hpl) fun _ _ _ => lift_callT
end
/-- the law behind its first statement where another def makes lambdas -/
theorem law_readC {K : PySem.W.Frag} {cn : Str → Addr} {N : List Str} {vs : List V} {H : Hp} {Q : VK} {E : XK} {g : Fs} {nx : L2.St → Hp → Prop} {ts : List (Addr × Str)} {n : Nat} {P : Addr} (hN : 2 ≤ N.length) (h : spLawT K ts vs H Q E)
    (hnd : (ts.map (·.1)).Nodup) (hn : (ts.map (·.1))[n]? = some P)
    (run : ∀ ns : List Int, ns.length ≤ 63 → ∃ m, g (.un :: .dat (.ref 0) :: List.replicate (N.length - 2) .un) (bag0T ns (ts.map (·.2))) = .rt (.bl true) m) :
    tSeq (tAsg (tCall (spBag K) [] E (tCons (tVar 0) tNil)) (gName 1)) (tS (gx K ⟨cn, tabJ (n + 1) P⟩) (fun _ => E) g) { nx := nx, rt := Q } (L2.start N vs) H := by
  obtain ⟨a, ns, rfl, hS, hl, hT, k⟩ := h
  refine ⟨.ref a, rfl, a, ns, rfl, hS, hl, fun b c H' hb hc hbc h1 h2 hs => ?_⟩
  obtain ⟨m, hm⟩ := run ns hl
  have e0 : (L2.start N [.ref a]).set 1 (some (.ref b)) = some (.ref a) :: some (.ref b) :: List.replicate (N.length - 2) none := by
    unfold L2.start
    have : N.length - [V.ref a].length = (N.length - 2) + 1 := by
      show N.length - 1 = _
      omega
    rw [this, List.replicate_succ]
    rfl
  show tS (gx K ⟨cn, tabJ (n + 1) P⟩) (fun _ => E) g { nx := nx, rt := Q } ((L2.start N [.ref a]).set 1 (some (.ref b))) H'
  rw [e0]
  have tabs : ∀ q, q ∈ ts.map (·.1) → H q = some (.tbl #[]) := fun q hq => by
    obtain ⟨p, hp, e⟩ := List.mem_map.mp hq
    rw [← e]
    exact hT p hp
  have nb : b ∉ ts.map (·.1) := fun z => by rw [tabs b z] at hb; cases hb
  have nc : c ∉ ts.map (·.1) := fun z => by rw [tabs c z] at hc; cases hc
  have hcl : lv ⟨b :: ts.map (·.1), fun _ => false, Lm.nil⟩ (bag0T ns (ts.map (·.2))) c = false := by
    refine lv_false.mpr ⟨rfl, ?_⟩
    cases z : mlv ⟨b :: ts.map (·.1), fun _ => false, Lm.nil⟩ (bag0T ns (ts.map (·.2))) c with
    | false => rfl
    | true =>
      rcases List.mem_cons.mp (mlv_mem z) with q | q
      · exact absurd q.symm hbc
      · exact absurd q nc
  refine ⟨⟨b :: ts.map (·.1), fun _ => false, Lm.nil⟩, .un :: .dat (.ref 0) :: List.replicate (N.length - 2) .un, bag0T ns (ts.map (·.2)), ⟨⟨by simp, fun i s hs => ?_⟩, ⟨by simp [bag0T], List.nodup_cons.mpr ⟨nb, hnd⟩, fun q hq => ?_, fun q hq => Bool.noConfusion (show false = true from hq), fun q _ => rfl, fun j d q e1 e2 => ?_⟩, show (b :: ts.map (·.1))[n + 1]? = some P by simpa using hn⟩, ?_⟩
  · match i with
    | 0 => cases hs; exact ⟨_, rfl, trivial⟩
    | 1 => cases hs; exact ⟨_, rfl, .ref b, rfl, b, rfl, rfl⟩
    | i + 2 =>
      have hs' : (List.replicate (N.length - 2) Sl.un)[i]? = some s := hs
      have hlt := (List.getElem?_eq_some_iff.mp hs').1
      rw [List.length_replicate] at hlt
      rw [List.getElem?_replicate_of_lt hlt] at hs'
      cases hs'
      refine ⟨none, ?_, trivial⟩
      show (List.replicate (N.length - 2) none)[i]? = some none
      rw [List.getElem?_replicate_of_lt hlt]
  · rcases List.mem_cons.mp hq with q' | q'
    · rw [q', h1]; simp
    · rw [hs _ _ (tabs q q')]; simp
  · match j with
    | 0 =>
      cases e2
      cases e1
      exact ⟨_, h1, _, _, rfl, ⟨c, _, rfl, hid_some.mpr ⟨hcl, h2⟩, rep_intl ns⟩, _, _, rfl, rfl, _, _, rfl, rfl, _, _, rfl, rfl, rfl⟩
    | j + 1 =>
      have e1' : ((ts.map (·.2)).map fun q => some (D.tbl q))[j]? = some (some d) := e1
      have e2' : (ts.map (·.1))[j]? = some q := e2
      rw [List.getElem?_map] at e1'
      cases hq : (ts.map (·.2))[j]? with
      | none => rw [hq] at e1'; cases e1'
      | some t =>
        rw [hq] at e1'
        cases e1'
        exact ⟨#[], hs _ _ (tabs q (List.mem_of_getElem? e2')), trivial, fun pos cv hcv => by simp [codeAmong] at hcv⟩
  · rw [hm]
    intro π2 v H2 _ rv
    obtain rfl : v = .bl true := rv
    exact k H2

/-! ### what a lambda captures, by reckoning -/
end DM

/-! bool(x) of an instance with an own __bool__. -/
namespace DM
open PySem PySem.Spec PyProof.Rows L2
theorem boolNew_eq (x : Value) : Builtin.«bool.__new__» ⟨[.type "bool", x], []⟩ = (truthy x >>= fun b => ret (.bool b)) := by
  have e1 : isType (.type "bool") = pure true := by rfl
  have e2 : someArgs "bool" 0 1 { pos := [x], kw := [] } = pure [x] := by rfl
  unfold Builtin.«bool.__new__»
  simp only [e1, pure_bind, F.conv_sub_bool, e2, Bool.not_true, Bool.false_eq_true, if_false]
theorem bool_inst {prog : Program} {w : World} {A : Around} {E : Value → Shared → Prop} {s : Shared} {x : Value} {Q : Value → Shared → Prop} (h : wpAny (model prog w) A.in1.in1 (truthy x) (fun b s' => Q (.bool b) s') E s) : wpAny (model prog w) A (call (.type "bool") [x]) Q E s :=
  callType_newIn (S := fun A' R s' => wpAny (model prog w) A'.in1 (truthy x) (fun b s'' => R (.ok (.ret (.bool b))) s'') (fun e s'' => R (.error e) s'') s') F.called_bool F.newNe_bool (F.typeCall_bool_1 x) (F.newCall_bool_1 x) (fun obj => F.args_object_init_2 obj x) F.entry_bool_new
    (fun A' R s' hs => by
      rw [boolNew_eq]
      exact wpAny_bind (wpAny_mono hs (fun b s'' hb => wpAny_pure hb) fun _ _ e => e))
    (wpAny_mono h (fun b s' hb => ⟨rfl, hb⟩) fun _ _ e => e)
section
variable {X : Cx} {C f : Addr} {k : Nat} {sp : Sp}
theorem call_ownBool (M : Meth X.K C "__bool__" f) (F : FnR X.prog X.w X.K X.mg X.base (L2N.CX X.prog X.w) k f sp) (hr : Room (k + 2) X.A) : CallR X (.type "bool") (fun xs H Q => ∃ a dx fs, xs = [V.ref a] ∧ H a = some (.ins C dx fs) ∧ sp [.ref a] H (fun v H1 => ∃ c, v = .bl c ∧ Q (.bl c) H1) E0) := by
  rintro pins s σ H _ us Q I r ⟨a, dx, fs, rfl, ha, q⟩
  obtain ⟨u, rfl, ru⟩ := r.one
  cases ru
  obtain ⟨_, J⟩ := inst_of I ha
  obtain ⟨m, fr⟩ := I.fr
  refine bool_inst (PySem.W.truthy_K fr I.ok.mod.kin J M.at_ M.fn (wpAny_mono (run_in (us := [.ref a]) (vs := [.ref a]) F hr.in1.in1 I.env0.in1.in1 I (.cons rfl .nil) q) (fun w s' z => ?_) fun _ _ e => e))
  obtain ⟨_, H', I', rz, c, rfl, qz⟩ := z
  cases rz
  exact ⟨.bl c, H', I', rfl, qz⟩
end
def boolD : Rs D → Rs D
  | .ok (.bl b) m => .ok (.bl b) m
  | _ => .bad
section
variable {X : Cx} {cn : Cn} {E : XKS} {c : Str} {k : Nat} {F : Sls → Mir → Rs DM.D} {e : Expr} {g : Fa} {x : Str} {p pos : Pos}
theorem de_ownBool {ps : List Str} (D : Md X.prog X.w X.K X.mg X.base (cn c) "__bool__" ps k (spD (gx X.K cn) 1 F)) (hr : Room (k + 2) X.A) (hg : Gl X "bool") (hm : X.mg "bool" = none) (hv : bootBuiltins "bool" = some (.type "bool")) (ha : DA X cn E [e] g)
    (hs : starEach [e] X.env = (false, eval e X.env) :: starEach [] X.env := by rfl) (hpl : (backTo pos (starEach [] X.env)).any (·.1) = false := by rfl) : DE X cn E (.Call (.Name "bool" p) [e] [] pos) (fOw1 boolD c F g) := by
  obtain ⟨fa, fd, M, bi, Fo⟩ := D.ex
  refine PE.imp (pe_callTy (call_ownBool M (Fo.raw bi .nil) hr) hg hm hv ha (by decide) (by decide) hs hpl) fun σ H Q h => ?_
  have := lift_ow1 (P := fun v Q H1 => ∃ b, v = .bl b ∧ Q (.bl b) H1) (fun _ _ => rfl) rfl (fun d m π m0 H1 p π2 v H2 s r => by
    cases d with
    | bl b => exact ⟨b, r, p π2 (.bl b) H2 s rfl⟩
    | _ => exact False.elim p) h
  exact this
end
end DM

/-! How the functions on data are run step by step, by rewriting: what comes first is looked at first. -/
namespace DM
open PySem PySem.Spec PyProof.Rows L2
section
variable {α β : Type} {δ δ' : Sls} {m m1 m2 : Mir} {a : α} {x : Exn} {b : Bool} {d e : D} {f g h : Fe} {t u : Ft} {ga gb : Fa} {gs hs : Fs} {i j n : Nat}
theorem bind_ok {k : α → Mir → Rs β} : Rs.bind (.ok a m) k = k a m := rfl
theorem bind_exc {k : α → Mir → Rs β} : Rs.bind (.exc x m) k = .exc x m := rfl
theorem bind_bad {k : α → Mir → Rs β} : Rs.bind (.bad : Rs α) k = .bad := rfl
theorem thn_ok {k : α → Mir → Fl} : DM.thn (.ok a m) δ k = k a m := rfl
theorem thn_exc {k : α → Mir → Fl} : DM.thn (.exc x m) δ k = .exc x δ m := rfl
theorem thn_bad {k : α → Mir → Fl} : DM.thn (.bad : Rs α) δ k = .bad := rfl
def seqK (r : Fl) (h : Fs) : Fl := match r with
  | .nx δ m => h δ m
  | r => r
theorem seqK_nx : seqK (.nx δ m) hs = hs δ m := rfl
theorem seqK_rt : seqK (.rt d m) hs = .rt d m := rfl
theorem seqK_bk : seqK (.bk δ m) hs = .bk δ m := rfl
theorem seqK_ct : seqK (.ct δ m) hs = .ct δ m := rfl
theorem seqK_exc : seqK (.exc x δ m) hs = .exc x δ m := rfl
theorem seqK_bad : seqK .bad hs = .bad := rfl
def selS (b : Bool) (g h : Fs) (δ : Sls) (m : Mir) : Fl := if b = true then g δ m else h δ m
theorem selS_t : selS true gs hs δ m = gs δ m := rfl
theorem selS_f : selS false gs hs δ m = hs δ m := rfl
def selE (b : Bool) (g h : Fe) (δ : Sls) (m : Mir) : Rs D := if b = true then g δ m else h δ m
theorem selE_t : selE true g h δ m = g δ m := rfl
theorem selE_f : selE false g h δ m = h δ m := rfl
def selT (b : Bool) (g h : Ft) (δ : Sls) (m : Mir) : Rs Bool := if b = true then g δ m else h δ m
theorem selT_t : selT true t u δ m = t δ m := rfl
theorem selT_f : selT false t u δ m = u δ m := rfl
def tYesK : Ft := fun _ m => .ok true m
def tNoK : Ft := fun _ m => .ok false m
theorem ap_yesK : tYesK δ m = .ok true m := rfl
theorem ap_noK : tNoK δ m = .ok false m := rfl
def ifS (r : Rs Bool) (δ : Sls) (g h : Fs) : Fl := match r with
  | .ok b m => selS b g h δ m
  | .exc x m => .exc x δ m
  | .bad => .bad
def ifE (r : Rs Bool) (δ : Sls) (g h : Fe) : Rs D := match r with
  | .ok b m => selE b g h δ m
  | .exc x m => .exc x m
  | .bad => .bad
def ifT (r : Rs Bool) (δ : Sls) (g h : Ft) : Rs Bool := match r with
  | .ok b m => selT b g h δ m
  | .exc x m => .exc x m
  | .bad => .bad
theorem ifS_ok : ifS (.ok b m) δ gs hs = selS b gs hs δ m := rfl
theorem ifS_exc : ifS (.exc x m) δ gs hs = .exc x δ m := rfl
theorem ifE_ok : ifE (.ok b m) δ g h = selE b g h δ m := rfl
theorem ifE_exc : ifE (.exc x m) δ g h = .exc x m := rfl
theorem ifT_ok : ifT (.ok b m) δ t u = selT b t u δ m := rfl
theorem ifT_exc : ifT (.exc x m) δ t u = .exc x m := rfl
/-- the rest of a chain of and, or by values -/
def andK (r : Rs D) (g : Fe) (δ : Sls) : Rs D := match r with
  | .ok (.bl b) m => selE b g (fC (.bl false)) δ m
  | .ok _ _ => .bad
  | .exc x m => .exc x m
  | .bad => .bad
def orK (r : Rs D) (g : Fe) (δ : Sls) : Rs D := match r with
  | .ok (.bl b) m => selE b (fC (.bl true)) g δ m
  | .ok _ _ => .bad
  | .exc x m => .exc x m
  | .bad => .bad
theorem andK_ok : andK (.ok (.bl b) m) g δ = selE b g (fC (.bl false)) δ m := rfl
theorem andK_exc : andK (.exc x m) g δ = .exc x m := rfl
theorem orK_ok : orK (.ok (.bl b) m) g δ = selE b (fC (.bl true)) g δ m := rfl
theorem orK_exc : orK (.exc x m) g δ = .exc x m := rfl
/-! what a construct does, at a state -/
theorem ap_seq : sSeq gs hs δ m = seqK (gs δ m) hs := rfl
theorem ap_if : sIf t gs hs δ m = ifS (t δ m) δ gs hs := by unfold sIf DM.thn ifS selS; cases t δ m <;> rfl
theorem ap_nx : sNx δ m = .nx δ m := rfl
theorem ap_bk : sBk δ m = .bk δ m := rfl
theorem ap_ct : sCt δ m = .ct δ m := rfl
def retK (d : D) (m : Mir) : Fl := .rt d m
theorem ap_ret : sRet f δ m = DM.thn (f δ m) δ retK := rfl
theorem ap_retN : sRetN δ m = .rt .non m := rfl
def setK (δ : Sls) (i : Nat) (d : D) (m : Mir) : Fl := .nx (δ.set i (.dat d)) m
theorem ap_set : sSet i f δ m = DM.thn (f δ m) δ (setK δ i) := rfl
def drpK (δ : Sls) (d : D) (m : Mir) : Fl := .nx δ m
theorem ap_drop : sDrop f δ m = DM.thn (f δ m) δ (drpK δ) := rfl
def asgK (r : Option Sls) (m : Mir) : Fl := match r with
  | some δ2 => .nx δ2 m
  | none => .bad
theorem asgK_some : asgK (some δ) m = .nx δ m := rfl
def asgT (tg : Ftg) (δ : Sls) (d : D) (m : Mir) : Fl := asgK (tg d δ) m
theorem ap_asg {tg : Ftg} : sAsg tg f δ m = DM.thn (f δ m) δ (asgT tg δ) := rfl
def parK (i j : Nat) (δ : Sls) (ds : List D) (m : Mir) : Fl := match ds with
  | [a, b] => .nx ((δ.set i (.dat a)).set j (.dat b)) m
  | _ => .bad
theorem parK_2 {a b : D} : parK i j δ [a, b] m = .nx ((δ.set i (.dat a)).set j (.dat b)) m := rfl
theorem ap_par : sPar i j ga δ m = DM.thn (ga δ m) δ (parK i j δ) := rfl
def forK (tg : Ftg) (gs : Fs) (δ : Sls) (dg : List D × Gd) (m : Mir) : Fl := forL tg gs dg.2 dg.1 δ m
theorem ap_for {fi : Fi} {tg : Ftg} : sFor fi tg gs δ m = DM.thn (fi δ m) δ (forK tg gs δ) := rfl
theorem ap_gN : gN i d δ = some (δ.set i (.dat d)) := rfl
theorem ap_gT {us : List D → Sls → Option Sls} {ds : List D} : gT us (.tup ds) δ = us ds δ := rfl
theorem ap_gTl {us : List D → Sls → Option Sls} {ds : List D} : gTl us (.lst ds) δ = us ds δ := rfl
theorem ap_gsNil : gsNil [] δ = some δ := rfl
theorem ap_gsCons {tg : Ftg} {us : List D → Sls → Option Sls} {ds : List D} : gsCons tg us (d :: ds) δ = (tg d δ).bind (us ds) := rfl
def getK (s : Option Sl) (m : Mir) : Rs D := match s with
  | some (.dat d) => .ok d m
  | _ => .bad
theorem getK_some : getK (some (.dat d)) m = .ok d m := rfl
theorem ap_var : fVar i δ m = getK δ[i]? m := rfl
theorem ap_c : fC d δ m = .ok d m := rfl
theorem ofO_some : ofO m (some d) = .ok d m := rfl
theorem ofO_none : ofO m none = .bad := rfl
def f1K (o : D → Option D) (x : D) (m1 : Mir) : Rs D := ofO m1 ((view m1 x).bind o)
theorem ap_f1 {o : D → Option D} : f1 o f δ m = (f δ m).bind (f1K o) := rfl
def op2 (o : D → D → Option D) : Option D → Option D → Option D
  | some x, some y => o x y
  | _, _ => none
theorem op2_ss {o : D → D → Option D} : op2 o (some d) (some e) = o d e := rfl
def f2K2 (o : D → D → Option D) (x y : D) (m2 : Mir) : Rs D := ofO m2 (op2 o (view m2 x) (view m2 y))
def f2K (o : D → D → Option D) (g : Fe) (δ : Sls) (x : D) (m1 : Mir) : Rs D := (g δ m1).bind (f2K2 o x)
theorem bind_op2 {o : D → D → Option D} (p q : Option D) : (p.bind fun x1 => q.bind fun y1 => o x1 y1) = op2 o p q := by cases p <;> cases q <;> rfl
theorem ap_f2 {o : D → D → Option D} : f2 o f g δ m = (f δ m).bind (f2K o g δ) := by
  unfold f2 f2K f2K2
  simp only [bind_op2]
def blK (r : Rs D) : Rs Bool := match r with
  | .ok (.bl b) m => .ok b m
  | .ok _ _ => .bad
  | .exc x m => .exc x m
  | .bad => .bad
theorem blK_ok : blK (.ok (.bl b) m) = .ok b m := rfl
theorem blK_exc : blK (.exc x m) = .exc x m := rfl
theorem ap_B : fB f δ m = blK (f δ m) := by unfold fB blK; cases f δ m with
  | ok d m => cases d <;> rfl
  | _ => rfl
def truK (o : Option Bool) (m : Mir) : Rs Bool := match o with
  | some b => .ok b m
  | none => .bad
theorem truK_some : truK (some b) m = .ok b m := rfl
def trK (x : D) (m : Mir) : Rs Bool := truK ((view m x).bind tru) m
theorem ap_Tr : fTr f δ m = (f δ m).bind trK := rfl
def notK (b : Bool) (m : Mir) : Rs Bool := .ok (!b) m
theorem ap_not : fNot t δ m = (t δ m).bind notK := rfl
theorem ap_and : fAnd t u δ m = ifT (t δ m) δ u tNoK := by unfold fAnd ifT selT; cases t δ m <;> rfl
theorem ap_or : fOr t u δ m = ifT (t δ m) δ tYesK u := by unfold fOr ifT selT; cases t δ m <;> rfl
theorem ap_ifE : fIf t f g δ m = ifE (t δ m) δ f g := by unfold fIf ifE selE; cases t δ m <;> rfl
def ntvK (b : Bool) (m : Mir) : Rs D := .ok (.bl (!b)) m
theorem ap_notV : fNotV f δ m = (blK (f δ m)).bind ntvK := by unfold fNotV blK; cases f δ m with
  | ok d m => cases d <;> rfl
  | _ => rfl
theorem ap_andV : fAndV f g δ m = andK (f δ m) g δ := by unfold fAndV andK selE; cases f δ m with
  | ok d m => cases d with
    | bl b => cases b <;> rfl
    | _ => rfl
  | _ => rfl
theorem ap_orV : fOrV f g δ m = orK (f δ m) g δ := by unfold fOrV orK selE; cases f δ m with
  | ok d m => cases d with
    | bl b => cases b <;> rfl
    | _ => rfl
  | _ => rfl
theorem ap_nil : fNil δ m = .ok [] m := rfl
def conK2 (x : D) (xs : List D) (m : Mir) : Rs (List D) := .ok (x :: xs) m
def conK (ga : Fa) (δ : Sls) (x : D) (m1 : Mir) : Rs (List D) := (ga δ m1).bind (conK2 x)
theorem ap_cons : fCons f ga δ m = (f δ m).bind (conK ga δ) := rfl
def tupK (xs : List D) (m : Mir) : Rs D := if xs.length ≤ sizeLine then .ok (.tup xs) m else .bad
def lstK (xs : List D) (m : Mir) : Rs D := if xs.length ≤ sizeLine then .ok (.lst xs) m else .bad
theorem le_line {n : Nat} (h : n ≤ 100000) : n ≤ sizeLine := by rw [sizeLine_eq]; omega
theorem lt_line {n : Nat} (h : n ≤ 100000) : n < sizeLine := by rw [sizeLine_eq]; omega
theorem tupK_ok {xs : List D} (h : xs.length ≤ 100000) : tupK xs m = .ok (.tup xs) m := if_pos (le_line h)
theorem lstK_ok {xs : List D} (h : xs.length ≤ 100000) : lstK xs m = .ok (.lst xs) m := if_pos (le_line h)
theorem ap_tup : fTup ga δ m = (ga δ m).bind tupK := rfl
theorem ap_lst : fLst ga δ m = (ga δ m).bind lstK := rfl
def cbK (o : List D → Option D) (xs : List D) (m : Mir) : Rs D := ofO m ((views m xs).bind o)
theorem ap_CB {o : List D → Option D} : fCB o ga δ m = (ga δ m).bind (cbK o) := rfl
def flp (o : List D → List D → Option D) (ys zs : List D) : Option D := o zs ys
def ckK2 (o : List D → List D → Option D) (xs ys : List D) (m : Mir) : Rs D := ofO m ((views m xs).bind (flp o ys))
def ckK (o : List D → List D → Option D) (gb : Fa) (δ : Sls) (xs : List D) (m1 : Mir) : Rs D := (gb δ m1).bind (ckK2 o xs)
theorem ap_CK {o : List D → List D → Option D} : fCK o ga gb δ m = (ga δ m).bind (ckK o gb δ) := rfl
/-- the second comparison of two in a row -/
def ch3 (o' : D → D → Option D) (y z : D) (m : Mir) : Rs D := ofO m (op2 o' (view m y) (view m z))
def ch2 (o' : D → D → Option D) (y : D) (h : Fe) : Fe := fun δ m => (h δ m).bind (ch3 o' y)
theorem ap_ch2 {o' : D → D → Option D} : ch2 o' d h δ m = (h δ m).bind (ch3 o' d) := rfl
def chnK (r : Option D) (o' : D → D → Option D) (y : D) (h : Fe) (δ : Sls) (m : Mir) : Rs D := match r with
  | some (.bl b) => selE b (ch2 o' y h) (fC (.bl false)) δ m
  | _ => .bad
theorem chnK_bl {o' : D → D → Option D} : chnK (some (.bl b)) o' d h δ m = selE b (ch2 o' d h) (fC (.bl false)) δ m := rfl
def chK2 (o o' : D → D → Option D) (h : Fe) (δ : Sls) (x y : D) (m : Mir) : Rs D := chnK (op2 o (view m x) (view m y)) o' y h δ m
def chK (o o' : D → D → Option D) (g h : Fe) (δ : Sls) (x : D) (m : Mir) : Rs D := (g δ m).bind (chK2 o o' h δ x)
theorem ap_chain {o o' : D → D → Option D} : fChain o o' f g h δ m = (f δ m).bind (chK o o' g h δ) := by
  unfold fChain chK chK2
  congr 1
  funext x m1
  congr 1
  funext y m2
  rw [bind_op2]
  cases op2 o (view m2 x) (view m2 y) with
  | none => rfl
  | some r => cases r with
    | bl b =>
      cases b
      · rfl
      · show _ = (h δ m2).bind (ch3 o' y)
        unfold ch3
        simp only [bind_op2]
    | _ => rfl
def tabK (tb : List (Str × D)) (x : D) (m : Mir) : Rs D := match x with
  | .str z => ofO m (tb.lookup z)
  | _ => .bad
theorem tabK_str {tb : List (Str × D)} {z : Str} : tabK tb (.str z) m = ofO m (tb.lookup z) := rfl
theorem ap_Tab {tb : List (Str × D)} : fTab tb f δ m = (f δ m).bind (tabK tb) := rfl
def s2K2 (o : Str → D → Option D) (z : Str) (y : D) (m : Mir) : Rs D := ofO m ((view m y).bind (o z))
def s2K (o : Str → D → Option D) (g : Fe) (δ : Sls) (x : D) (m : Mir) : Rs D := match x with
  | .str z => (g δ m).bind (s2K2 o z)
  | _ => .bad
theorem s2K_str {o : Str → D → Option D} {z : Str} : s2K o g δ (.str z) m = (g δ m).bind (s2K2 o z) := rfl
theorem ap_S2 {o : Str → D → Option D} : fS2 o f g δ m = (f δ m).bind (s2K o g δ) := rfl
def isK (Ts : List String) (o : Option D) (m : Mir) : Rs D := match o with
  | some y => if y.plain = true then .ok (.bl (Ts.any (isTy (tyD y)))) m else .bad
  | none => .bad
def isV (Ts : List String) (x : D) (m : Mir) : Rs D := isK Ts (view m x) m
theorem ap_Is {Ts : List String} : fIs Ts f δ m = (f δ m).bind (isV Ts) := rfl
theorem isK_non {Ts : List String} : isK Ts (some .non) m = .ok (.bl (Ts.any (isTy "NoneType"))) m := rfl
theorem isK_bl {Ts : List String} : isK Ts (some (.bl b)) m = .ok (.bl (Ts.any (isTy "bool"))) m := rfl
theorem isK_int {Ts : List String} {k : Int} : isK Ts (some (.int k)) m = .ok (.bl (Ts.any (isTy "int"))) m := rfl
theorem isK_str {Ts : List String} {z : Str} : isK Ts (some (.str z)) m = .ok (.bl (Ts.any (isTy "str"))) m := rfl
theorem isK_lst {Ts : List String} {ds : List D} : isK Ts (some (.lst ds)) m = .ok (.bl (Ts.any (isTy "list"))) m := rfl
theorem isK_tup {Ts : List String} {ds : List D} : isK Ts (some (.tup ds)) m = .ok (.bl (Ts.any (isTy "tuple"))) m := rfl
theorem ty_nn : isTy "NoneType" "bool" = false ∧ isTy "NoneType" "int" = false ∧ isTy "NoneType" "str" = false ∧ isTy "NoneType" "list" = false ∧ isTy "NoneType" "tuple" = false := by decide
theorem ty_bl : isTy "bool" "bool" = true ∧ isTy "bool" "int" = true ∧ isTy "bool" "str" = false ∧ isTy "bool" "list" = false ∧ isTy "bool" "tuple" = false := by decide
theorem ty_int : isTy "int" "bool" = false ∧ isTy "int" "int" = true ∧ isTy "int" "str" = false ∧ isTy "int" "list" = false ∧ isTy "int" "tuple" = false := by decide
theorem ty_str : isTy "str" "bool" = false ∧ isTy "str" "int" = false ∧ isTy "str" "str" = true ∧ isTy "str" "list" = false ∧ isTy "str" "tuple" = false := by decide
theorem ty_lst : isTy "list" "bool" = false ∧ isTy "list" "int" = false ∧ isTy "list" "str" = false ∧ isTy "list" "list" = true ∧ isTy "list" "tuple" = false := by decide
theorem ty_tup : isTy "tuple" "bool" = false ∧ isTy "tuple" "int" = false ∧ isTy "tuple" "str" = false ∧ isTy "tuple" "list" = false ∧ isTy "tuple" "tuple" = true := by decide
/-! calls -/
def calK (n : Nat) (F : Sls → Mir → Rs D) (ds : List D) (m : Mir) : Rs D := if ds.length = n then F (ds.map .dat) m else .bad
theorem calK_1 {F : Sls → Mir → Rs D} {a : D} : calK 1 F [a] m = F [.dat a] m := rfl
theorem calK_2 {F : Sls → Mir → Rs D} {a b : D} : calK 2 F [a, b] m = F [.dat a, .dat b] m := rfl
theorem calK_3 {F : Sls → Mir → Rs D} {a b c : D} : calK 3 F [a, b, c] m = F [.dat a, .dat b, .dat c] m := rfl
theorem calK_4 {F : Sls → Mir → Rs D} {a b c d : D} : calK 4 F [a, b, c, d] m = F [.dat a, .dat b, .dat c, .dat d] m := rfl
theorem calK_5 {F : Sls → Mir → Rs D} {a b c d e : D} : calK 5 F [a, b, c, d, e] m = F [.dat a, .dat b, .dat c, .dat d, .dat e] m := rfl
theorem ap_callN {F : Sls → Mir → Rs D} : fCallN n F ga δ m = (ga δ m).bind (calK n F) := rfl
def st2 (F : Sls → Mir → Rs D) (d : D) (m : Mir) : Rs D := F [.dat d] m
def staK (F : Sls → Mir → Rs D) (xs : List D) (m : Mir) : Rs D := (tupK xs m).bind (st2 F)
theorem ap_star {F : Sls → Mir → Rs D} : fStar F ga δ m = (ga δ m).bind (staK F) := by
  unfold fStar staK tupK st2
  congr 1
  funext xs m1
  by_cases h : xs.length ≤ sizeLine
  · rw [if_pos h, if_pos h]; rfl
  · rw [if_neg h, if_neg h]; rfl
def kwK (n : Nat) (π : List Nat) (F : Sls → Mir → Rs D) (ys : List D) (m : Mir) : Rs D := calK n F (perm π ys) m
theorem ap_kw {F : Sls → Mir → Rs D} {π : List Nat} : fKw n π F ga δ m = (ga δ m).bind (kwK n π F) := rfl
/-- an instance's class, its methods -/
def mthK (c p : Str) (o : Option D) (k : Rs D) : Rs D := match o.bind insOf with
  | some a => if (c == a.1) = true then (match lkD p a.2.1 a.2.2 with
    | none => k
    | some _ => .bad) else .bad
  | none => .bad
theorem mthK_ins {c c' p : Str} {ns : List Str} {ds : List D} {k : Rs D} (h1 : (c == c') = true) (h2 : lkD p ns ds = none) : mthK c p (some (.ins c' ns ds)) k = k := by
  unfold mthK
  show (if (c == c') = true then (match lkD p ns ds with
    | none => k
    | some _ => .bad) else .bad) = k
  rw [if_pos h1, h2]
def mthA (n : Nat) (F : Sls → Mir → Rs D) (x : D) (ys : List D) (m : Mir) : Rs D := calK n F (x :: ys) m
def mthT (n : Nat) (F : Sls → Mir → Rs D) (x : D) (ga : Fa) (δ : Sls) (m : Mir) : Rs D := (ga δ m).bind (mthA n F x)
def mthV (c p : Str) (n : Nat) (F : Sls → Mir → Rs D) (ga : Fa) (δ : Sls) (x : D) (m : Mir) : Rs D := mthK c p (view m x) (mthT n F x ga δ m)
theorem ap_mth {c p : Str} {F : Sls → Mir → Rs D} : fMth c p n F f ga δ m = (f δ m).bind (mthV c p n F ga δ) := rfl
/-! views -/
theorem vw_non : view m .non = some .non := rfl
theorem vw_bl : view m (.bl b) = some (.bl b) := rfl
theorem vw_int {k : Int} : view m (.int k) = some (.int k) := rfl
theorem vw_str {z : Str} : view m (.str z) = some (.str z) := rfl
theorem vw_lst {ds : List D} : view m (.lst ds) = some (.lst ds) := rfl
theorem vw_tup {ds : List D} : view m (.tup ds) = some (.tup ds) := rfl
theorem vw_ins {c : Str} {ns : List Str} {ds : List D} : view m (.ins c ns ds) = some (.ins c ns ds) := rfl
theorem vw_dK {ks : List Key} {ds : List D} : view m (.dK ks ds) = some (.dK ks ds) := rfl
theorem vw_dT {ks : List (List Key)} {ds : List D} : view m (.dT ks ds) = some (.dT ks ds) := rfl
def noTb (o : Option D) : Option D := match o with
  | some (.tbl _) => none
  | x => x
theorem vw_ref : view m (.ref n) = noTb (cell m n) := rfl
theorem noTb_lst {ds : List D} : noTb (some (.lst ds)) = some (.lst ds) := rfl
theorem noTb_ins {c : Str} {ns : List Str} {ds : List D} : noTb (some (.ins c ns ds)) = some (.ins c ns ds) := rfl
theorem noTb_dK {ks : List Key} {ds : List D} : noTb (some (.dK ks ds)) = some (.dK ks ds) := rfl
theorem noTb_dT {ks : List (List Key)} {ds : List D} : noTb (some (.dT ks ds)) = some (.dT ks ds) := rfl
theorem vws_nil : views m [] = some [] := rfl
def vwsK (ds : List D) (m : Mir) (x : D) : Option (List D) := (views m ds).bind fun xs => some (x :: xs)
theorem vws_cons {x : D} {ds : List D} : views m (x :: ds) = (view m x).bind (vwsK ds m) := rfl
def vwsC (x : D) (xs : List D) : Option (List D) := some (x :: xs)
theorem vwsK_ap {x : D} {ds : List D} : vwsK ds m x = (views m ds).bind (vwsC x) := rfl
theorem vwsC_ap {x : D} {xs : List D} : vwsC x xs = some (x :: xs) := rfl
theorem ob_some {k : α → Option β} : (some a).bind k = k a := rfl
/-! the mirror -/
theorem cell_app0 {c : Option D} {cs : Mir} : cell (m ++ c :: cs) m.length = c := by
  induction m with
  | nil => rfl
  | cons x m ih => exact ih
theorem cell_app {k : Nat} {c : Option D} {cs : Mir} : cell (m ++ c :: cs) (m.length + (k + 1)) = cell cs k := by
  induction m with
  | nil =>
    show cell (c :: cs) (0 + (k + 1)) = _
    rw [Nat.zero_add]
    rfl
  | cons x m ih =>
    rw [List.length_cons, Nat.add_right_comm]
    exact ih
theorem cell_0 {c : Option D} {cs : Mir} : cell (c :: cs) 0 = c := rfl
theorem cell_s {k : Nat} {c : Option D} {cs : Mir} : cell (c :: cs) (k + 1) = cell cs k := rfl
theorem set_app0 {c e : Option D} {cs : Mir} : (m ++ c :: cs).set m.length e = m ++ e :: cs := by
  induction m with
  | nil => rfl
  | cons x m ih =>
    show x :: (m ++ c :: cs).set m.length e = _
    rw [ih]
    rfl
theorem set_app {k : Nat} {c e : Option D} {cs : Mir} : (m ++ c :: cs).set (m.length + (k + 1)) e = m ++ c :: cs.set k e := by
  induction m with
  | nil =>
    show (c :: cs).set (0 + (k + 1)) e = _
    rw [Nat.zero_add]
    rfl
  | cons x m ih =>
    rw [List.length_cons, Nat.add_right_comm]
    show x :: ((m ++ c :: cs).set (m.length + (k + 1)) e) = _
    rw [ih]
    rfl
theorem len_app {cs : Mir} : (m ++ cs).length = m.length + cs.length := List.length_append
theorem app_app {cs es : Mir} : (m ++ cs) ++ es = m ++ (cs ++ es) := List.append_assoc _ _ _
/-! a def's end -/
def runK (k : Nat) (r : Fl) : Rs D := match r with
  | .rt d m1 => trimR k d m1
  | .nx _ m1 => trimR k .non m1
  | .exc x _ m1 => trimX k x m1
  | _ => .bad
theorem ap_run {as : Sls} : runF n gs as m = runK m.length (gs (as ++ List.replicate (n - as.length) .un) m) := by unfold runF runK; cases gs (as ++ List.replicate (n - as.length) .un) m <;> rfl
theorem runK_rt {k : Nat} : runK k (.rt d m) = trimR k d m := rfl
theorem runK_nx {k : Nat} : runK k (.nx δ m) = trimR k .non m := rfl
theorem runK_exc {k : Nat} : runK k (.exc x δ m) = trimX k x m := rfl
theorem trimR_same {k : Nat} (h : k = m.length) : trimR k d m = .ok d m := if_pos h.symm
theorem trimX_same {k : Nat} (h : k = m.length) : trimX k x m = .exc x m := if_pos h.symm
theorem below_app {k : Nat} {cs : Mir} : ∀ {m : Mir}, cellsBelow k m.length (m ++ cs) = cellsBelow k m.length m
  | [] => by cases cs <;> rfl
  | none :: m => below_app (m := m)
  | some d :: m => by
    show (D.low k d && cellsBelow k m.length (m ++ cs)) = (D.low k d && cellsBelow k m.length m)
    rw [below_app (m := m)]
theorem trimR_app {c : Option D} {cs : Mir} {k : Nat} (hk : k = m.length) (hm : Bag.Fm m) (hd : D.low m.length d = true) : trimR k d (m ++ c :: cs) = .ok d m := by
  subst hk
  unfold trimR
  have h : ¬ (m ++ c :: cs).length = m.length := by rw [List.length_append, List.length_cons]; omega
  rw [if_neg h, if_pos (by rw [below_app, hd, hm]; rfl), List.take_left']
  rfl
theorem trimX_app {c : Option D} {cs : Mir} {k : Nat} (hk : k = m.length) (hm : Bag.Fm m) (hd : D.lows m.length x.ds = true) : trimX k x (m ++ c :: cs) = .exc x m := by
  subst hk
  unfold trimX
  have h : ¬ (m ++ c :: cs).length = m.length := by rw [List.length_append, List.length_cons]; omega
  rw [if_neg h, if_pos (by rw [below_app, hd, hm]; rfl), List.take_left']
  rfl
/-! comprehensions -/
/-- one turn of a comprehension: nothing, or an item -/
def elK (tg : Ftg) (tt : Ft) (te : Fe) (δ0 : Sls) (d : D) (m : Mir) : Rs (Option D) := match tg d δ0 with
  | none => .bad
  | some δ1 => match tt δ1 m with
    | .ok true m1 => (match te δ1 m1 with
      | .ok y m2 => .ok (some y) m2
      | _ => .bad)
    | .ok false m1 => .ok none m1
    | _ => .bad
def elM (r : Rs D) : Rs (Option D) := match r with
  | .ok y m => .ok (some y) m
  | _ => .bad
theorem elM_ok : elM (.ok d m) = .ok (some d) m := rfl
def elS (b : Bool) (te : Fe) (δ : Sls) (m : Mir) : Rs (Option D) := if b = true then elM (te δ m) else .ok none m
theorem elS_t : elS true f δ m = elM (f δ m) := rfl
theorem elS_f : elS false f δ m = .ok none m := rfl
def elT (r : Rs Bool) (te : Fe) (δ : Sls) : Rs (Option D) := match r with
  | .ok b m => elS b te δ m
  | _ => .bad
theorem elT_ok : elT (.ok b m) f δ = elS b f δ m := rfl
def elO (o : Option Sls) (tt : Ft) (te : Fe) (m : Mir) : Rs (Option D) := match o with
  | some δ1 => elT (tt δ1 m) te δ1
  | none => .bad
theorem elO_some : elO (some δ) t f m = elT (t δ m) f δ := rfl
theorem ap_el {tg : Ftg} {tt : Ft} {te : Fe} : elK tg tt te δ d m = elO (tg d δ) tt te m := by
  unfold elK elO elT elS elM
  cases tg d δ with
  | none => rfl
  | some δ1 =>
    dsimp only
    cases tt δ1 m with
    | ok b m1 => cases b <;> rfl
    | _ => rfl
theorem ap_yes : fYes δ m = .ok true m := rfl
def lcR (tg : Ftg) (tt : Ft) (te : Fe) (δ0 : Sls) (gd : Gd) (ds : List D) (m : Mir) : Rs D := if ds.length < sizeLine then (match lcL tg tt te δ0 gd ds m with
  | .ok ys m2 => .ok (.lst ys) m2
  | _ => .bad) else .bad
def lcK (tg : Ftg) (tt : Ft) (te : Fe) (δ0 : Sls) (dg : List D × Gd) (m : Mir) : Rs D := lcR tg tt te δ0 dg.2 dg.1 m
theorem ap_lc {fi : Fi} {tg : Ftg} {tt : Ft} {te : Fe} {vs : List Nat} : fLc fi tg tt te vs δ m = (fi δ m).bind (lcK tg tt te (wipeD δ vs)) := rfl
theorem lcK_ap {tg : Ftg} {tt : Ft} {te : Fe} {ds : List D} {gd : Gd} : lcK tg tt te δ (ds, gd) m = lcR tg tt te δ gd ds m := rfl
theorem gd_none : gdOk none m = true := rfl
theorem lcL_step {tg : Ftg} {tt : Ft} {te : Fe} {gd : Gd} {ds : List D} {o : Option D} (hg : gdOk gd m = true) (h : elK tg tt te δ d m = .ok o m1) : lcL tg tt te δ gd (d :: ds) m = (lcL tg tt te δ gd ds m1).bind fun ys m3 => .ok (o.toList ++ ys) m3 := by
  unfold elK at h
  conv => lhs; unfold lcL
  rw [if_pos hg]
  cases e1 : tg d δ with
  | none => rw [e1] at h; cases h
  | some δ1 =>
    rw [e1] at h
    simp only at h ⊢
    cases e2 : tt δ1 m with
    | bad => rw [e2] at h; cases h
    | exc x m2 => rw [e2] at h; cases h
    | ok b m2 =>
      rw [e2] at h
      cases b with
      | false =>
        cases h
        simp only
        cases lcL tg tt te δ gd ds m1 <;> rfl
      | true =>
        simp only at h ⊢
        cases e3 : te δ1 m2 with
        | bad => rw [e3] at h; cases h
        | exc x m3 => rw [e3] at h; cases h
        | ok y m3 =>
          rw [e3] at h
          cases h
          rfl
theorem lcL_fm {tg : Ftg} {tt : Ft} {te : Fe} {gd : Gd} {a : β → D} {b : β → Option D} (hg : gdOk gd m = true) : ∀ (xs : List β), (∀ x ∈ xs, elK tg tt te δ (a x) m = .ok (b x) m) → lcL tg tt te δ gd (xs.map a) m = .ok (xs.filterMap b) m
  | [], _ => by
    show (if gdOk gd m = true then Rs.ok [] m else .bad) = _
    rw [if_pos hg]
    rfl
  | x :: xs, h => by
    have ih := lcL_fm hg xs fun y hy => h y (List.mem_cons_of_mem _ hy)
    rw [List.map_cons, lcL_step hg (h x List.mem_cons_self), ih]
    show Rs.ok ((b x).toList ++ xs.filterMap b) m = _
    rw [List.filterMap_cons]
    cases b x <;> rfl
theorem lc_fm {tg : Ftg} {tt : Ft} {te : Fe} {gd : Gd} (a : β → D) (b : β → Option D) (xs : List β) (hl : xs.length ≤ 100000) (hg : gdOk gd m = true) (h : ∀ x ∈ xs, elK tg tt te δ (a x) m = .ok (b x) m) : lcR tg tt te δ gd (xs.map a) m = .ok (.lst (xs.filterMap b)) m := by
  unfold lcR
  rw [if_pos (by rw [List.length_map]; exact lt_line hl), lcL_fm hg xs h]
theorem fm_some {γ : Type} (b : β → γ) : ∀ xs : List β, xs.filterMap (fun x => some (b x)) = xs.map b
  | [] => rfl
  | x :: xs => by rw [List.filterMap_cons, List.map_cons, fm_some b xs]
theorem lc_map {tg : Ftg} {tt : Ft} {te : Fe} {gd : Gd} (a b : β → D) (xs : List β) (hl : xs.length ≤ 100000) (hg : gdOk gd m = true) (h : ∀ x ∈ xs, elK tg tt te δ (a x) m = .ok (some (b x)) m) : lcR tg tt te δ gd (xs.map a) m = .ok (.lst (xs.map b)) m := by
  rw [lc_fm a (fun x => some (b x)) xs hl hg h, fm_some]
def lcA (o : Option D) (d : D) (m : Mir) : Rs D := match d with
  | .lst ys => .ok (.lst (o.toList ++ ys)) m
  | _ => .bad
theorem lcA_some {ys : List D} : lcA (some d) (.lst ys) m = .ok (.lst (d :: ys)) m := rfl
theorem lcA_none {ys : List D} : lcA none (.lst ys) m = .ok (.lst ys) m := rfl
def lcS (r : Rs (Option D)) (tg : Ftg) (tt : Ft) (te : Fe) (δ : Sls) (ds : List D) : Rs D := match r with
  | .ok o m => (lcR tg tt te δ none ds m).bind (lcA o)
  | _ => .bad
theorem lcS_ok {tg : Ftg} {tt : Ft} {te : Fe} {ds : List D} {o : Option D} : lcS (.ok o m) tg tt te δ ds = (lcR tg tt te δ none ds m).bind (lcA o) := rfl
theorem lcR_nil {tg : Ftg} {tt : Ft} {te : Fe} : lcR tg tt te δ none [] m = .ok (.lst []) m := if_pos (lt_line (by decide))
theorem lcL_bad {tg : Ftg} {tt : Ft} {te : Fe} {ds : List D} (h : ∀ o m1, elK tg tt te δ d m ≠ .ok o m1) : lcL tg tt te δ none (d :: ds) m = .bad := by
  unfold elK at h
  conv => lhs; unfold lcL
  rw [if_pos gd_none]
  cases e1 : tg d δ with
  | none => rfl
  | some δ1 =>
    rw [e1] at h
    dsimp only at h ⊢
    cases e2 : tt δ1 m with
    | bad => rfl
    | exc x m2 => rfl
    | ok b m2 =>
      rw [e2] at h
      cases b with
      | false => exact absurd rfl (h none m2)
      | true =>
        dsimp only at h ⊢
        cases e3 : te δ1 m2 with
        | bad => rfl
        | exc x m3 => rfl
        | ok y m3 =>
          rw [e3] at h
          exact absurd rfl (h (some y) m3)
theorem lcR_cons {tg : Ftg} {tt : Ft} {te : Fe} {ds : List D} (hl : ds.length ≤ 100000) : lcR tg tt te δ none (d :: ds) m = lcS (elK tg tt te δ d m) tg tt te δ ds := by
  cases e : elK tg tt te δ d m with
  | ok o m1 =>
    unfold lcS lcR
    dsimp only
    rw [if_pos (by rw [List.length_cons, sizeLine_eq]; omega), if_pos (lt_line hl), lcL_step rfl e]
    cases lcL tg tt te δ none ds m1 <;> rfl
  | exc x m1 =>
    unfold lcS lcR
    rw [if_pos (by rw [List.length_cons, sizeLine_eq]; omega), lcL_bad (by rw [e]; intro o m z; cases z)]
  | bad =>
    unfold lcS lcR
    rw [if_pos (by rw [List.length_cons, sizeLine_eq]; omega), lcL_bad (by rw [e]; intro o m z; cases z)]
/-- items drawn one by one -/
theorem lcL_dr {tg : Ftg} {tt : Ft} {te : Fe} (J : Mir → Prop) (R : D → Prop) : ∀ (ds : List D) (m : Mir), (∀ d ∈ ds, ∀ m, J m → ∃ y m2, elK tg tt te δ d m = .ok (some y) m2 ∧ R y ∧ J m2) → J m →
    ∃ ys m2, lcL tg tt te δ none ds m = .ok ys m2 ∧ ys.length = ds.length ∧ (∀ y ∈ ys, R y) ∧ J m2
  | [], m, _, h0 => ⟨[], m, rfl, rfl, (fun y hy => by cases hy), h0⟩
  | d :: ds, m, h, h0 => by
    obtain ⟨y, m2, e, hp, h2⟩ := h d List.mem_cons_self m h0
    obtain ⟨ys, m3, e4, hl, h3, h4⟩ := lcL_dr J R ds m2 (fun x hx => h x (List.mem_cons_of_mem _ hx)) h2
    refine ⟨y :: ys, m3, ?_, by simp [hl], fun z hz => ?_, h4⟩
    · rw [lcL_step rfl e, e4]; rfl
    · rcases List.mem_cons.mp hz with rfl | hz
      · exact hp
      · exact h3 z hz
theorem lc_dr {tg : Ftg} {tt : Ft} {te : Fe} {ds : List D} {r : Rs D} (e : lcR tg tt te δ none ds m = r) (J : Mir → Prop) (R : D → Prop) (hl : ds.length ≤ 100000) (h : ∀ d ∈ ds, ∀ m, J m → ∃ y m2, elK tg tt te δ d m = .ok (some y) m2 ∧ R y ∧ J m2) (h0 : J m) :
    ∃ ys m2, r = .ok (.lst ys) m2 ∧ ys.length = ds.length ∧ (∀ y ∈ ys, R y) ∧ J m2 := by
  obtain ⟨ys, m2, e1, h1, h2, h3⟩ := lcL_dr J R ds m h h0
  refine ⟨ys, m2, ?_, h1, h2, h3⟩
  rw [← e]
  unfold lcR
  rw [if_pos (lt_line hl), e1]
/-! loops -/
def ctN (r : Fl) : Fl := match r with
  | .ct δ m => .nx δ m
  | r => r
def trnK (o : Option Sls) (gs : Fs) (m : Mir) : Fl := match o with
  | some δ => ctN (gs δ m)
  | none => .bad
theorem trnK_some : trnK (some δ) gs m = ctN (gs δ m) := rfl
theorem ctN_nx : ctN (.nx δ m) = .nx δ m := rfl
theorem ctN_ct : ctN (.ct δ m) = .nx δ m := rfl
theorem ctN_bk : ctN (.bk δ m) = .bk δ m := rfl
theorem ctN_rt : ctN (.rt d m) = .rt d m := rfl
theorem ctN_exc : ctN (.exc x δ m) = .exc x δ m := rfl
/-- one turn of a loop -/
def trn (tg : Ftg) (gs : Fs) (d : D) (δ : Sls) (m : Mir) : Fl := trnK (tg d δ) gs m
def forR (r : Fl) (tg : Ftg) (gs : Fs) (gd : Gd) (ds : List D) : Fl := match r with
  | .nx δ m => forL tg gs gd ds δ m
  | .bk δ m => .nx δ m
  | .rt d m => .rt d m
  | .exc x δ m => .exc x δ m
  | _ => .bad
theorem forR_nx {tg : Ftg} {gd : Gd} {ds : List D} : forR (.nx δ m) tg gs gd ds = forL tg gs gd ds δ m := rfl
theorem forR_bk {tg : Ftg} {gd : Gd} {ds : List D} : forR (.bk δ m) tg gs gd ds = .nx δ m := rfl
theorem forR_rt {tg : Ftg} {gd : Gd} {ds : List D} : forR (.rt d m) tg gs gd ds = .rt d m := rfl
theorem forR_exc {tg : Ftg} {gd : Gd} {ds : List D} : forR (.exc x δ m) tg gs gd ds = .exc x δ m := rfl
theorem forL_nil {tg : Ftg} : forL tg gs none [] δ m = .nx δ m := rfl
theorem forL_nilG {tg : Ftg} {gd : Gd} (hg : gdOk gd m = true) : forL tg gs gd [] δ m = .nx δ m := if_pos hg
theorem forL_step {tg : Ftg} {gd : Gd} {ds : List D} (hg : gdOk gd m = true) : forL tg gs gd (d :: ds) δ m = forR (trn tg gs d δ m) tg gs gd ds := by
  conv => lhs; unfold forL
  rw [if_pos hg]
  unfold forR trn trnK ctN
  cases tg d δ with
  | none => rfl
  | some δ1 =>
    dsimp only
    cases gs δ1 m <;> rfl
theorem forL_cons' {tg : Ftg} {ds : List D} : forL tg gs none (d :: ds) δ m = forR (trn tg gs d δ m) tg gs none ds := forL_step rfl
/-- a loop as a fold -/
theorem for_fold {γ : Type} {tg : Ftg} (a : β → D) (S : γ → Sls) (M : γ → Mir) (F : γ → β → γ) (I : γ → Prop) : ∀ (xs : List β) (s : γ), I s → (∀ s x, x ∈ xs → I s → trn tg gs (a x) (S s) (M s) = .nx (S (F s x)) (M (F s x)) ∧ I (F s x)) →
    forL tg gs none (xs.map a) (S s) (M s) = .nx (S (xs.foldl F s)) (M (xs.foldl F s)) ∧ I (xs.foldl F s)
  | [], s, h0, _ => ⟨rfl, h0⟩
  | x :: xs, s, h0, h => by
    obtain ⟨h1, h2⟩ := h s x List.mem_cons_self h0
    rw [List.map_cons, forL_cons', h1, forR_nx]
    exact for_fold a S M F I xs _ h2 fun s y hy => h s y (List.mem_cons_of_mem _ hy)
/-- a loop that keeps what it keeps -/
theorem for_inv {tg : Ftg} (I : Sls → Mir → Prop) : ∀ (ds : List D) (δ : Sls) (m : Mir), (∀ d ∈ ds, ∀ δ m, I δ m → ∃ δ2 m2, trn tg gs d δ m = .nx δ2 m2 ∧ I δ2 m2) → I δ m → ∃ δ2 m2, forL tg gs none ds δ m = .nx δ2 m2 ∧ I δ2 m2
  | [], δ, m, _, h0 => ⟨δ, m, rfl, h0⟩
  | d :: ds, δ, m, h, h0 => by
    obtain ⟨δ2, m2, e2, h2⟩ := h d List.mem_cons_self δ m h0
    obtain ⟨δ3, m3, e3, h3⟩ := for_inv I ds δ2 m2 (fun x hx => h x (List.mem_cons_of_mem _ hx)) h2
    exact ⟨δ3, m3, by rw [forL_cons', e2, forR_nx, e3], h3⟩
/-- the same with the turn's number -/
theorem for_invN {tg : Ftg} (a : Nat → D) (I : Nat → Sls → Mir → Prop) : ∀ (n k : Nat) (δ : Sls) (m : Mir), (∀ i, k ≤ i → i < k + n → ∀ δ m, I i δ m → ∃ δ2 m2, trn tg gs (a i) δ m = .nx δ2 m2 ∧ I (i + 1) δ2 m2) → I k δ m → ∃ δ2 m2, forL tg gs none ((List.range' k n).map a) δ m = .nx δ2 m2 ∧ I (k + n) δ2 m2
  | 0, k, δ, m, _, h0 => ⟨δ, m, rfl, h0⟩
  | n + 1, k, δ, m, h, h0 => by
    obtain ⟨δ2, m2, e2, h2⟩ := h k (Nat.le_refl k) (by omega) δ m h0
    obtain ⟨δ3, m3, e3, h3⟩ := for_invN a I n (k + 1) δ2 m2 (fun i h1 h2 => h i (by omega) (by omega)) h2
    refine ⟨δ3, m3, ?_, by rw [show k + (n + 1) = k + 1 + n by omega]; exact h3⟩
    rw [List.range'_succ, List.map_cons, forL_cons', e2, forR_nx, e3]
/-! what is walked -/
def sqR (x : D) (m : Mir) : Rs (List D × Gd) := match x with
  | .ref n => (match cell m n with
    | some (.lst ds) => .ok (ds, some (n, ds)) m
    | _ => .bad)
  | x => match itemsOf x with
    | some ds => .ok (ds, none) m
    | none => .bad
theorem ap_sq : fSeq f δ m = (f δ m).bind sqR := rfl
theorem sqR_lst {ds : List D} : sqR (.lst ds) m = .ok (ds, none) m := rfl
theorem sqR_tup {ds : List D} : sqR (.tup ds) m = .ok (ds, none) m := rfl
theorem sqR_str {z : Str} : sqR (.str z) m = .ok (signsOf z, none) m := rfl
def sqC (n : Nat) (o : Option D) (m : Mir) : Rs (List D × Gd) := match o with
  | some (.lst ds) => .ok (ds, some (n, ds)) m
  | _ => .bad
theorem sqR_ref : sqR (.ref n) m = sqC n (cell m n) m := rfl
theorem sqC_lst {ds : List D} : sqC n (some (.lst ds)) m = .ok (ds, some (n, ds)) m := rfl
def rg1 (xs : List D) (m : Mir) : Rs (List D × Gd) := match xs with
  | [.int j] => if -(2 ^ 62) ≤ j ∧ j < 2 ^ 62 then .ok (rng 0 j.toNat, none) m else .bad
  | _ => .bad
theorem ap_rg1 : fRange1 ga δ m = (ga δ m).bind rg1 := rfl
theorem rg1_ok {j : Int} (h1 : -4611686018427387904 ≤ j) (h2 : j < 4611686018427387904) : rg1 [.int j] m = .ok (rng 0 j.toNat, none) m := if_pos ⟨by omega, by omega⟩
def rg2 (xs : List D) (m : Mir) : Rs (List D × Gd) := match xs with
  | [.int i, .int j] => if -(2 ^ 62) ≤ i ∧ i < 2 ^ 62 ∧ -(2 ^ 62) ≤ j ∧ j < 2 ^ 62 then .ok (rng i (j - i).toNat, none) m else .bad
  | _ => .bad
theorem ap_rg2 : fRange2 ga δ m = (ga δ m).bind rg2 := rfl
theorem rg2_ok {i j : Int} (h1 : -4611686018427387904 ≤ i) (h2 : i < 4611686018427387904) (h3 : -4611686018427387904 ≤ j) (h4 : j < 4611686018427387904) : rg2 [.int i, .int j] m = .ok (rng i (j - i).toNat, none) m := if_pos ⟨by omega, by omega, by omega, by omega⟩
theorem rng_nat0 {n : Nat} : rng 0 ((n : Int)).toNat = (List.range n).map fun (i : Nat) => D.int (i : Nat) := Bag.rng_nat n
def zpK (xs : List D) (m : Mir) : Rs (List D × Gd) := match xs with
  | [.lst a, .lst b] => .ok (zipD a b, none) m
  | [.tup a, .tup b] => .ok (zipD a b, none) m
  | _ => .bad
theorem ap_zip : fZip ga δ m = (ga δ m).bind zpK := rfl
theorem zpK_l {a b : List D} : zpK [.lst a, .lst b] m = .ok (zipD a b, none) m := rfl
theorem zpK_t {a b : List D} : zpK [.tup a, .tup b] m = .ok (zipD a b, none) m := rfl
def enK (xs : List D) (m : Mir) : Rs (List D × Gd) := match xs with
  | [.lst a] => .ok (enumD 0 a, none) m
  | _ => .bad
theorem ap_enum : fEnum ga δ m = (ga δ m).bind enK := rfl
theorem enK_l {a : List D} : enK [.lst a] m = .ok (enumD 0 a, none) m := rfl
def enT (xs : List D) (m : Mir) : Rs (List D × Gd) := match xs with
  | [.tup a] => .ok (enumD 0 a, none) m
  | _ => .bad
theorem ap_enumT : fEnumT ga δ m = (ga δ m).bind enT := rfl
theorem enT_t {a : List D} : enT [.tup a] m = .ok (enumD 0 a, none) m := rfl
/-! lists that change -/
def nwK (ds : List D) (m1 : Mir) : Rs D := if ds.length ≤ sizeLine then .ok (.ref m1.length) (m1 ++ [some (.lst ds)]) else .bad
theorem ap_newL : fNewL ga δ m = (ga δ m).bind nwK := rfl
theorem nwK_ok {ds : List D} (h : ds.length ≤ 100000) : nwK ds m = .ok (.ref m.length) (m ++ [some (.lst ds)]) := if_pos (le_line h)
def apP (n : Nat) (ds : List D) (y : D) (m2 : Mir) : Rs D := if ds.length < sizeLine then .ok .non (m2.set n (some (.lst (ds ++ [y])))) else .bad
theorem apP_ok {ds : List D} (h : ds.length ≤ 100000) : apP n ds d m = .ok .non (m.set n (some (.lst (ds ++ [d])))) := if_pos (lt_line h)
def apC (n : Nat) (o : Option D) (y : D) (m2 : Mir) : Rs D := match o with
  | some (.lst ds) => apP n ds y m2
  | _ => .bad
theorem apC_lst {ds : List D} : apC n (some (.lst ds)) d m = apP n ds d m := rfl
def ap2 (n : Nat) (y : D) (m2 : Mir) : Rs D := apC n (cell m2 n) y m2
def ap1 (n : Nat) (o : Option D) (g : Fe) (δ : Sls) (m1 : Mir) : Rs D := match o with
  | some (.lst _) => (g δ m1).bind (ap2 n)
  | _ => .bad
theorem ap1_lst {ds : List D} : ap1 n (some (.lst ds)) g δ m = (g δ m).bind (ap2 n) := rfl
def ap0 (g : Fe) (δ : Sls) (x : D) (m1 : Mir) : Rs D := match x with
  | .ref n => ap1 n (cell m1 n) g δ m1
  | _ => .bad
theorem ap0_ref : ap0 g δ (.ref n) m = ap1 n (cell m n) g δ m := rfl
theorem ap_app : fApp f g δ m = (f δ m).bind (ap0 g δ) := rfl
def exP (n : Nat) (ds es : List D) (m2 : Mir) : Rs D := if ds.length + es.length ≤ sizeLine then .ok .non (m2.set n (some (.lst (ds ++ es)))) else .bad
theorem exP_ok {ds es : List D} (h : ds.length + es.length ≤ 100000) : exP n ds es m = .ok .non (m.set n (some (.lst (ds ++ es)))) := if_pos (le_line h)
def exC (n : Nat) (o : Option D) (v : Option D) (m2 : Mir) : Rs D := match o with
  | some (.lst ds) => (match v with
    | some (.lst es) => exP n ds es m2
    | _ => .bad)
  | _ => .bad
theorem exC_lst {ds es : List D} : exC n (some (.lst ds)) (some (.lst es)) m = exP n ds es m := rfl
def ex2 (n : Nat) (y : D) (m2 : Mir) : Rs D := exC n (cell m2 n) (view m2 y) m2
def ex1 (n : Nat) (o : Option D) (g : Fe) (δ : Sls) (m1 : Mir) : Rs D := match o with
  | some (.lst _) => (g δ m1).bind (ex2 n)
  | _ => .bad
theorem ex1_lst {ds : List D} : ex1 n (some (.lst ds)) g δ m = (g δ m).bind (ex2 n) := rfl
def ex0 (g : Fe) (δ : Sls) (x : D) (m1 : Mir) : Rs D := match x with
  | .ref n => ex1 n (cell m1 n) g δ m1
  | _ => .bad
theorem ex0_ref : ex0 g δ (.ref n) m = ex1 n (cell m n) g δ m := rfl
theorem ap_ext : fExt f g δ m = (f δ m).bind (ex0 g δ) := rfl
def ppI (n : Nat) (ds : List D) (y : Option D) (m1 : Mir) : Rs D := match y with
  | some y => .ok y (m1.set n (some (.lst ds.dropLast)))
  | none => .bad
theorem ppI_some {ds : List D} : ppI n ds (some d) m = .ok d (m.set n (some (.lst ds.dropLast))) := rfl
def ppC (n : Nat) (o : Option D) (m1 : Mir) : Rs D := match o with
  | some (.lst ds) => ppI n ds ds[ds.length - 1]? m1
  | _ => .bad
theorem ppC_lst {ds : List D} : ppC n (some (.lst ds)) m = ppI n ds ds[ds.length - 1]? m := rfl
def pp0 (x : D) (m1 : Mir) : Rs D := match x with
  | .ref n => ppC n (cell m1 n) m1
  | _ => .bad
theorem pp0_ref : pp0 (.ref n) m = ppC n (cell m n) m := rfl
theorem ap_pop : fPop f δ m = (f δ m).bind pp0 := rfl
def clC (n : Nat) (o : Option D) (m1 : Mir) : Rs D := match o with
  | some (.lst _) => .ok .non (m1.set n (some (.lst [])))
  | _ => .bad
theorem clC_lst {ds : List D} : clC n (some (.lst ds)) m = .ok .non (m.set n (some (.lst []))) := rfl
def cl0 (x : D) (m1 : Mir) : Rs D := match x with
  | .ref n => clC n (cell m1 n) m1
  | _ => .bad
theorem cl0_ref : cl0 (.ref n) m = clC n (cell m n) m := rfl
theorem ap_clr : fClr f δ m = (f δ m).bind cl0 := rfl
/-! freezing -/
def fzO (o : Option (D × Mir)) : Rs D := match o with
  | some a => .ok a.1 a.2
  | none => .bad
theorem fzO_some : fzO (some (d, m)) = .ok d m := rfl
def fzK (d : D) (m : Mir) : Rs D := fzO (frzD 9 d m)
theorem ap_frz : fFrz f δ m = (f δ m).bind fzK := rfl
theorem frz_non {k : Nat} : frzD (k + 1) .non m = some (.non, m) := rfl
theorem frz_bl {k : Nat} : frzD (k + 1) (.bl b) m = some (.bl b, m) := rfl
theorem frz_int {k : Nat} {z : Int} : frzD (k + 1) (.int z) m = some (.int z, m) := rfl
theorem frz_str {k : Nat} {z : Str} : frzD (k + 1) (.str z) m = some (.str z, m) := rfl
theorem frz_tup {k : Nat} {ds : List D} : frzD (k + 1) (.tup ds) m = some (.tup ds, m) := rfl
theorem frz_lst {k : Nat} {ds : List D} : frzD (k + 1) (.lst ds) m = some (.lst ds, m) := rfl
theorem frz_ins {k : Nat} {c : Str} {ns : List Str} {ds : List D} : frzD (k + 1) (.ins c ns ds) m = some (.ins c ns ds, m) := rfl
def fz1 (k : Nat) (o : Option D) (m : Mir) : Option (D × Mir) := match o with
  | some (.lst ds) => (mapF (frzD k) ds m).bind fun a => some (.lst a.1, a.2)
  | some (.ins c ns ds) => (mapF (frzD k) ds m).bind fun a => some (.ins c ns a.1, a.2)
  | some (.dK ks ds) => (mapF (frzD k) ds m).bind fun a => if ks.length = a.1.length then some (.dK ks a.1, a.2) else none
  | some (.dT ks ds) => (mapF (frzD k) ds m).bind fun a => if ks.length = a.1.length then some (.dT ks a.1, a.2) else none
  | _ => none
theorem frz_ref {k : Nat} : frzD (k + 1) (.ref n) m = fz1 k (cell m n) (m.set n none) := by
  conv => lhs; unfold frzD
  unfold fz1
  cases cell m n with
  | none => rfl
  | some d => cases d <;> rfl
def fzL (a : List D × Mir) : Option (D × Mir) := some (.lst a.1, a.2)
def fzI (c : Str) (ns : List Str) (a : List D × Mir) : Option (D × Mir) := some (.ins c ns a.1, a.2)
theorem fzL_ap {a : List D × Mir} : fzL a = some (.lst a.1, a.2) := rfl
theorem fzI_ap {c : Str} {ns : List Str} {a : List D × Mir} : fzI c ns a = some (.ins c ns a.1, a.2) := rfl
theorem fz1_lst {k : Nat} {ds : List D} : fz1 k (some (.lst ds)) m = (mapF (frzD k) ds m).bind fzL := rfl
theorem fz1_ins {k : Nat} {c : Str} {ns : List Str} {ds : List D} : fz1 k (some (.ins c ns ds)) m = (mapF (frzD k) ds m).bind (fzI c ns) := rfl
theorem mapF_nil {k : D → Mir → Option (D × Mir)} : mapF k [] m = some ([], m) := rfl
def mfB (x : D) (b : List D × Mir) : Option (List D × Mir) := some (x :: b.1, b.2)
theorem mfB_ap {b : List D × Mir} : mfB d b = some (d :: b.1, b.2) := rfl
def mfA (k : D → Mir → Option (D × Mir)) (ds : List D) (a : D × Mir) : Option (List D × Mir) := (mapF k ds a.2).bind (mfB a.1)
theorem mfA_ap {k : D → Mir → Option (D × Mir)} {ds : List D} : mfA k ds (d, m) = (mapF k ds m).bind (mfB d) := rfl
theorem mapF_cons {k : D → Mir → Option (D × Mir)} {ds : List D} : mapF k (d :: ds) m = (k d m).bind (mfA k ds) := rfl
/-! texts -/
def jsP (fs : List Fe) (δ : Sls) (acc y : Str) (m1 : Mir) : Rs D := if (acc ++ y).length ≤ sizeLine then fJs fs (acc ++ y) δ m1 else .bad
theorem jsP_ok {fs : List Fe} {acc y : Str} (h : (acc ++ y).length ≤ 100000) : jsP fs δ acc y m = fJs fs (acc ++ y) δ m := if_pos (le_line h)
def jsK (fs : List Fe) (acc : Str) (δ : Sls) (d : D) (m1 : Mir) : Rs D := match d with
  | .str y => jsP fs δ acc y m1
  | _ => .bad
theorem jsK_str {fs : List Fe} {acc y : Str} : jsK fs acc δ (.str y) m = jsP fs δ acc y m := rfl
theorem js_nil {acc : Str} : fJs [] acc δ m = .ok (.str acc) m := by unfold fJs; rfl
theorem js_cons {fs : List Fe} {acc : Str} : fJs (f :: fs) acc δ m = (f δ m).bind (jsK fs acc δ) := by
  conv => lhs; unfold fJs
  rfl
def slK3 (x : D) (a : Option Int) (b : Option Int) (m3 : Mir) : Rs D := ofO m3 ((view m3 x).bind fun y => oSl y a b)
def slO (o : Option D) (a b : Option Int) (m : Mir) : Rs D := match o with
  | some y => ofO m (oSl y a b)
  | none => .bad
theorem slO_some {p q : Option Int} : slO (some d) p q m = ofO m (oSl d p q) := rfl
theorem slK3_ap {p q : Option Int} : slK3 d p q m = slO (view m d) p q m := by unfold slK3 slO; cases view m d <;> rfl
def slK2 (hi : Option Fe) (δ : Sls) (x : D) (a : Option Int) (m2 : Mir) : Rs D := (partS hi δ m2).bind (slK3 x a)
def slK (lo hi : Option Fe) (δ : Sls) (x : D) (m1 : Mir) : Rs D := (partS lo δ m1).bind (slK2 hi δ x)
theorem ap_sl {lo hi : Option Fe} : fSl f lo hi δ m = (f δ m).bind (slK lo hi δ) := rfl
theorem part_none : partS none δ m = .ok none m := rfl
def prK (d : D) (m1 : Mir) : Rs (Option Int) := match d with
  | .int i => .ok (some i) m1
  | _ => .bad
theorem prK_int {z : Int} : prK (.int z) m = .ok (some z) m := rfl
theorem part_some : partS (some f) δ m = (f δ m).bind prK := rfl
/-! raising -/
theorem ap_raise0 {c tag : Str} (h : tag.length ≤ 1000) : sRaise0 c tag δ m = .exc ⟨c, [Str.ofString "tag"], [.str tag]⟩ δ m := if_pos (le_line (by omega))
def rs1 (c tag fl : Str) (δ : Sls) (ds : List D) (m : Mir) : Fl := if ds.length = 1 ∧ tag.length ≤ sizeLine then .exc ⟨c, [fl, Str.ofString "tag"], ds ++ [.str tag]⟩ δ m else .bad
theorem rs1_ok {c tag fl : Str} (h : tag.length ≤ 1000) : rs1 c tag fl δ [d] m = .exc ⟨c, [fl, Str.ofString "tag"], [d, .str tag]⟩ δ m := if_pos ⟨rfl, le_line (by omega)⟩
theorem ap_raise1 {c tag fl : Str} : sRaise1 c tag fl ga δ m = DM.thn (ga δ m) δ (rs1 c tag fl δ) := by unfold sRaise1 rs1; cases ga δ m <;> rfl
/-! places behind a mirror of known length -/
theorem cell_i0 {c : Option D} {cs : Mir} (h : n = m.length) : cell (m ++ c :: cs) n = c := by rw [h]; exact cell_app0
theorem cell_i1 {c0 c : Option D} {cs : Mir} (h : n = m.length + 1) : cell (m ++ c0 :: c :: cs) n = c := by rw [h]; exact cell_app (k := 0)
theorem cell_i2 {c0 c1 c : Option D} {cs : Mir} (h : n = m.length + 2) : cell (m ++ c0 :: c1 :: c :: cs) n = c := by rw [h]; exact cell_app (k := 1)
theorem cell_i3 {c0 c1 c2 c : Option D} {cs : Mir} (h : n = m.length + 3) : cell (m ++ c0 :: c1 :: c2 :: c :: cs) n = c := by rw [h]; exact cell_app (k := 2)
theorem cell_i4 {c0 c1 c2 c3 c : Option D} {cs : Mir} (h : n = m.length + 4) : cell (m ++ c0 :: c1 :: c2 :: c3 :: c :: cs) n = c := by rw [h]; exact cell_app (k := 3)
theorem set_i0 {c e : Option D} {cs : Mir} (h : n = m.length) : (m ++ c :: cs).set n e = m ++ e :: cs := by rw [h]; exact set_app0
theorem set_i1 {c0 c e : Option D} {cs : Mir} (h : n = m.length + 1) : (m ++ c0 :: c :: cs).set n e = m ++ c0 :: e :: cs := by rw [h]; exact set_app (k := 0)
theorem set_i2 {c0 c1 c e : Option D} {cs : Mir} (h : n = m.length + 2) : (m ++ c0 :: c1 :: c :: cs).set n e = m ++ c0 :: c1 :: e :: cs := by rw [h]; exact set_app (k := 1)
theorem set_i3 {c0 c1 c2 c e : Option D} {cs : Mir} (h : n = m.length + 3) : (m ++ c0 :: c1 :: c2 :: c :: cs).set n e = m ++ c0 :: c1 :: c2 :: e :: cs := by rw [h]; exact set_app (k := 2)
theorem set_i4 {c0 c1 c2 c3 c e : Option D} {cs : Mir} (h : n = m.length + 4) : (m ++ c0 :: c1 :: c2 :: c3 :: c :: cs).set n e = m ++ c0 :: c1 :: c2 :: c3 :: e :: cs := by rw [h]; exact set_app (k := 3)
theorem cell_i5 {c0 c1 c2 c3 c4 c : Option D} {cs : Mir} (h : n = m.length + 5) : cell (m ++ c0 :: c1 :: c2 :: c3 :: c4 :: c :: cs) n = c := by rw [h]; exact cell_app (k := 4)
theorem set_i5 {c0 c1 c2 c3 c4 c e : Option D} {cs : Mir} (h : n = m.length + 5) : (m ++ c0 :: c1 :: c2 :: c3 :: c4 :: c :: cs).set n e = m ++ c0 :: c1 :: c2 :: c3 :: c4 :: e :: cs := by rw [h]; exact set_app (k := 4)
theorem cell_i6 {c0 c1 c2 c3 c4 c5 c : Option D} {cs : Mir} (h : n = m.length + 6) : cell (m ++ c0 :: c1 :: c2 :: c3 :: c4 :: c5 :: c :: cs) n = c := by rw [h]; exact cell_app (k := 5)
theorem set_i6 {c0 c1 c2 c3 c4 c5 c e : Option D} {cs : Mir} (h : n = m.length + 6) : (m ++ c0 :: c1 :: c2 :: c3 :: c4 :: c5 :: c :: cs).set n e = m ++ c0 :: c1 :: c2 :: c3 :: c4 :: c5 :: e :: cs := by rw [h]; exact set_app (k := 5)
theorem cell_i7 {c0 c1 c2 c3 c4 c5 c6 c : Option D} {cs : Mir} (h : n = m.length + 7) : cell (m ++ c0 :: c1 :: c2 :: c3 :: c4 :: c5 :: c6 :: c :: cs) n = c := by rw [h]; exact cell_app (k := 6)
theorem set_i7 {c0 c1 c2 c3 c4 c5 c6 c e : Option D} {cs : Mir} (h : n = m.length + 7) : (m ++ c0 :: c1 :: c2 :: c3 :: c4 :: c5 :: c6 :: c :: cs).set n e = m ++ c0 :: c1 :: c2 :: c3 :: c4 :: c5 :: c6 :: e :: cs := by rw [h]; exact set_app (k := 6)
theorem cell_i8 {c0 c1 c2 c3 c4 c5 c6 c7 c : Option D} {cs : Mir} (h : n = m.length + 8) : cell (m ++ c0 :: c1 :: c2 :: c3 :: c4 :: c5 :: c6 :: c7 :: c :: cs) n = c := by rw [h]; exact cell_app (k := 7)
theorem set_i8 {c0 c1 c2 c3 c4 c5 c6 c7 c e : Option D} {cs : Mir} (h : n = m.length + 8) : (m ++ c0 :: c1 :: c2 :: c3 :: c4 :: c5 :: c6 :: c7 :: c :: cs).set n e = m ++ c0 :: c1 :: c2 :: c3 :: c4 :: c5 :: c6 :: c7 :: e :: cs := by rw [h]; exact set_app (k := 7)
theorem cell_i9 {c0 c1 c2 c3 c4 c5 c6 c7 c8 c : Option D} {cs : Mir} (h : n = m.length + 9) : cell (m ++ c0 :: c1 :: c2 :: c3 :: c4 :: c5 :: c6 :: c7 :: c8 :: c :: cs) n = c := by rw [h]; exact cell_app (k := 8)
theorem set_i9 {c0 c1 c2 c3 c4 c5 c6 c7 c8 c e : Option D} {cs : Mir} (h : n = m.length + 9) : (m ++ c0 :: c1 :: c2 :: c3 :: c4 :: c5 :: c6 :: c7 :: c8 :: c :: cs).set n e = m ++ c0 :: c1 :: c2 :: c3 :: c4 :: c5 :: c6 :: c7 :: c8 :: e :: cs := by rw [h]; exact set_app (k := 8)
theorem cell_i10 {c0 c1 c2 c3 c4 c5 c6 c7 c8 c9 c : Option D} {cs : Mir} (h : n = m.length + 10) : cell (m ++ c0 :: c1 :: c2 :: c3 :: c4 :: c5 :: c6 :: c7 :: c8 :: c9 :: c :: cs) n = c := by rw [h]; exact cell_app (k := 9)
theorem set_i10 {c0 c1 c2 c3 c4 c5 c6 c7 c8 c9 c e : Option D} {cs : Mir} (h : n = m.length + 10) : (m ++ c0 :: c1 :: c2 :: c3 :: c4 :: c5 :: c6 :: c7 :: c8 :: c9 :: c :: cs).set n e = m ++ c0 :: c1 :: c2 :: c3 :: c4 :: c5 :: c6 :: c7 :: c8 :: c9 :: e :: cs := by rw [h]; exact set_app (k := 9)
theorem cell_i11 {c0 c1 c2 c3 c4 c5 c6 c7 c8 c9 c10 c : Option D} {cs : Mir} (h : n = m.length + 11) : cell (m ++ c0 :: c1 :: c2 :: c3 :: c4 :: c5 :: c6 :: c7 :: c8 :: c9 :: c10 :: c :: cs) n = c := by rw [h]; exact cell_app (k := 10)
theorem set_i11 {c0 c1 c2 c3 c4 c5 c6 c7 c8 c9 c10 c e : Option D} {cs : Mir} (h : n = m.length + 11) : (m ++ c0 :: c1 :: c2 :: c3 :: c4 :: c5 :: c6 :: c7 :: c8 :: c9 :: c10 :: c :: cs).set n e = m ++ c0 :: c1 :: c2 :: c3 :: c4 :: c5 :: c6 :: c7 :: c8 :: c9 :: c10 :: e :: cs := by rw [h]; exact set_app (k := 10)
/-! classes -/
def insE (p : Str) (k : Rs D) (o : Option D) (c : Str) : Rs D := match o with
  | some (.ins c' ns ds) => if (c == c') = true then k else .bad
  | _ => .bad
theorem insE_ins {p c c' : Str} {k : Rs D} {ns : List Str} {ds : List D} (h : (c == c') = true) : insE p k (some (.ins c' ns ds)) c = k := if_pos h
def nxK (r : Rs D) : Rs D := noX r
theorem nxK_ok : nxK (.ok d m) = .ok d m := rfl
def prV (c : Str) (F : Sls → Mir → Rs D) (x : D) (m : Mir) : Rs D := insE c (nxK (F [.dat x] m)) (view m x) c
theorem ap_prop {c : Str} {F : Sls → Mir → Rs D} : fProp c F f δ m = (f δ m).bind (prV c F) := by
  unfold fProp prV insE nxK
  congr 1
  funext x m1
  cases view m1 x with
  | none => rfl
  | some d => cases d <;> rfl
def mkD (n : Nat) (r : D) (m : Mir) : Rs D := if isNon r = true then .ok (.ref n) m else .bad
theorem mkD_non : mkD n .non m = .ok (.ref n) m := rfl
def mkR (n : Nat) (r : Rs D) : Rs D := r.bind (mkD n)
theorem mkR_ok : mkR n (.ok d m) = mkD n d m := rfl
theorem mkR_exc : mkR n (.exc x m) = .exc x m := rfl
def mkK (c : Str) (n : Nat) (F : Sls → Mir → Rs D) (ds : List D) (m1 : Mir) : Rs D := if ds.length + 1 = n then mkR m1.length (F (.dat (.ref m1.length) :: ds.map .dat) (m1 ++ [some (.ins c [] [])])) else .bad
theorem mkK_0 {c : Str} {F : Sls → Mir → Rs D} : mkK c 1 F [] m = mkR m.length (F [.dat (.ref m.length)] (m ++ [some (.ins c [] [])])) := rfl
theorem mkK_1 {c : Str} {F : Sls → Mir → Rs D} : mkK c 2 F [d] m = mkR m.length (F [.dat (.ref m.length), .dat d] (m ++ [some (.ins c [] [])])) := rfl
theorem mkK_2 {c : Str} {F : Sls → Mir → Rs D} : mkK c 3 F [d, e] m = mkR m.length (F [.dat (.ref m.length), .dat d, .dat e] (m ++ [some (.ins c [] [])])) := rfl
theorem mkK_3 {c : Str} {F : Sls → Mir → Rs D} {d3 : D} : mkK c 4 F [d, e, d3] m = mkR m.length (F [.dat (.ref m.length), .dat d, .dat e, .dat d3] (m ++ [some (.ins c [] [])])) := rfl
theorem mkK_4 {c : Str} {F : Sls → Mir → Rs D} {d3 d4 : D} : mkK c 5 F [d, e, d3, d4] m = mkR m.length (F [.dat (.ref m.length), .dat d, .dat e, .dat d3, .dat d4] (m ++ [some (.ins c [] [])])) := rfl
theorem ap_make {c : Str} {F : Sls → Mir → Rs D} : fMake c n F ga δ m = (ga δ m).bind (mkK c n F) := rfl
def fldP (cs : List Str) (p : Str) (n : Nat) (v : D) (δ : Sls) (c : Str) (ns : List Str) (ds : List D) (m : Mir) : Fl := if hasC c cs = true ∧ ns.length < 1000 then .nx δ (m.set n (some (.ins c (putN p ns) (putDs p v ns ds)))) else .bad
theorem fldP_ok {cs : List Str} {p c : Str} {ns : List Str} {ds : List D} (h : hasC c cs = true) (h2 : ns.length < 1000) : fldP cs p n d δ c ns ds m = .nx δ (m.set n (some (.ins c (putN p ns) (putDs p d ns ds)))) := if_pos ⟨h, h2⟩
def fldC (cs : List Str) (p : Str) (n : Nat) (v : D) (δ : Sls) (o : Option D) (m : Mir) : Fl := match o with
  | some (.ins c ns ds) => fldP cs p n v δ c ns ds m
  | _ => .bad
theorem fldC_ins {cs : List Str} {p c : Str} {ns : List Str} {ds : List D} : fldC cs p n d δ (some (.ins c ns ds)) m = fldP cs p n d δ c ns ds m := rfl
def fld2 (cs : List Str) (p : Str) (δ : Sls) (v o : D) (m2 : Mir) : Fl := match o with
  | .ref n => fldC cs p n v δ (cell m2 n) m2
  | _ => .bad
theorem fld2_ref {cs : List Str} {p : Str} : fld2 cs p δ d (.ref n) m = fldC cs p n d δ (cell m n) m := rfl
def fld1 (cs : List Str) (p : Str) (fo : Fe) (δ : Sls) (v : D) (m1 : Mir) : Fl := DM.thn (fo δ m1) δ (fld2 cs p δ v)
theorem ap_fld {cs : List Str} {p : Str} : sFld cs p f g δ m = DM.thn (g δ m) δ (fld1 cs p f δ) := rfl
theorem putN_nil {p : Str} : putN p [] = [p] := rfl
theorem putN_s {p q : Str} {ns : List Str} (h : q = p) : putN p (q :: ns) = q :: ns := if_pos h
theorem putN_n {p q : Str} {ns : List Str} (h : (q == p) = false) : putN p (q :: ns) = q :: putN p ns := if_neg (by intro z; rw [z] at h; simp at h)
theorem putD_nil {p : Str} : putDs p d [] [] = [d] := rfl
theorem putD_s {p q : Str} {ns : List Str} {ds : List D} (h : q = p) : putDs p d (q :: ns) (e :: ds) = d :: ds := if_pos h
theorem putD_n {p q : Str} {ns : List Str} {ds : List D} (h : (q == p) = false) : putDs p d (q :: ns) (e :: ds) = e :: putDs p d ns ds := if_neg (by intro z; rw [z] at h; simp at h)
theorem oFld_at {cs : List Str} {p c : Str} {ns : List Str} {ds : List D} (h : hasC c cs = true) : oFld cs p (.ins c ns ds) = lkD p ns ds := if_pos h
theorem lkD_s {p q : Str} {ns : List Str} {ds : List D} (h : (p == q) = true) : lkD p (q :: ns) (d :: ds) = some d := if_pos h
theorem lkD_n {p q : Str} {ns : List Str} {ds : List D} (h : (p == q) = false) : lkD p (q :: ns) (d :: ds) = lkD p ns ds := if_neg (by rw [h]; exact Bool.false_ne_true)
def isO (c : Str) (o : Option D) (k : Rs D) : Rs D := if isC c o = true then k else .bad
theorem isO_ins {c c' : Str} {ns : List Str} {ds : List D} {k : Rs D} (h : (c == c') = true) : isO c (some (.ins c' ns ds)) k = k := if_pos h
def ow2K2 (c : Str) (F : Sls → Mir → Rs D) (x y : D) (m2 : Mir) : Rs D := isO c (view m2 x) (isO c (view m2 y) (nxK (F [.dat x, .dat y] m2)))
def ow2K (c : Str) (F : Sls → Mir → Rs D) (g : Fe) (δ : Sls) (x : D) (m1 : Mir) : Rs D := (g δ m1).bind (ow2K2 c F x)
theorem ap_ow2 {c : Str} {F : Sls → Mir → Rs D} : fOw2 c F f g δ m = (f δ m).bind (ow2K c F g δ) := by
  unfold fOw2 ow2K ow2K2 isO nxK
  congr 1
  funext x m1
  congr 1
  funext y m2
  by_cases h1 : isC c (view m2 x) = true <;> by_cases h2 : isC c (view m2 y) = true <;> simp [h1, h2]
def ow2X2 (c : Str) (F : Sls → Mir → Rs D) (x y : D) (m2 : Mir) : Rs D := isO c (view m2 x) (isO c (view m2 y) (F [.dat x, .dat y] m2))
def ow2X (c : Str) (F : Sls → Mir → Rs D) (g : Fe) (δ : Sls) (x : D) (m1 : Mir) : Rs D := (g δ m1).bind (ow2X2 c F x)
theorem ap_ow2E {c : Str} {F : Sls → Mir → Rs D} : fOw2E c F f g δ m = (f δ m).bind (ow2X c F g δ) := by
  unfold fOw2E ow2X ow2X2 isO
  congr 1
  funext x m1
  congr 1
  funext y m2
  by_cases h1 : isC c (view m2 x) = true <;> by_cases h2 : isC c (view m2 y) = true <;> simp [h1, h2]
def ngK (r : Rs D) : Rs D := notD r
theorem ngK_ok : ngK (.ok (.bl b) m) = .ok (.bl (!b)) m := rfl
theorem ap_owN {c : Str} {F : Sls → Mir → Rs D} : fOwN c F f g δ m = ngK (fOw2 c F f g δ m) := rfl
def isP (c : Str) (o : Option D) (k : Rs D) : Rs D := if isC c o = true then k else .bad
def plE (o : Option D) (k : Rs D) : Rs D := match o with
  | some z => if z.plain = true then k else .bad
  | none => .bad
theorem plE_ok {k : Rs D} (h : d.plain = true) : plE (some d) k = k := if_pos h
def owPK2 (c : Str) (F : Sls → Mir → Rs D) (x y : D) (m2 : Mir) : Rs D := isO c (view m2 x) (plE (view m2 y) (nxK (F [.dat x, .dat y] m2)))
def owPK (c : Str) (F : Sls → Mir → Rs D) (g : Fe) (δ : Sls) (x : D) (m1 : Mir) : Rs D := (g δ m1).bind (owPK2 c F x)
theorem ap_owP {c : Str} {F : Sls → Mir → Rs D} : fOwP c F f g δ m = (f δ m).bind (owPK c F g δ) := rfl
def toK (r : Rs D) : Rs Bool := toB r
theorem toK_ok : toK (.ok (.bl b) m) = .ok b m := rfl
def isB (c : Str) (o : Option D) (k : Rs Bool) : Rs Bool := if isC c o = true then k else .bad
theorem isB_ins {c c' : Str} {ns : List Str} {ds : List D} {k : Rs Bool} (h : (c == c') = true) : isB c (some (.ins c' ns ds)) k = k := if_pos h
def owTK (c : Str) (F : Sls → Mir → Rs D) (x : D) (m1 : Mir) : Rs Bool := isB c (view m1 x) (toK (F [.dat x] m1))
theorem ap_owT {c : Str} {F : Sls → Mir → Rs D} : fOwT c F f δ m = (f δ m).bind (owTK c F) := rfl
def ow1K (k : Rs D → Rs D) (c : Str) (F : Sls → Mir → Rs D) (xs : List D) (m1 : Mir) : Rs D := match xs with
  | [x] => isO c (view m1 x) (k (F [.dat x] m1))
  | _ => .bad
theorem ow1K_1 {k : Rs D → Rs D} {c : Str} {F : Sls → Mir → Rs D} : ow1K k c F [d] m = isO c (view m d) (k (F [.dat d] m)) := rfl
theorem ap_ow1 {k : Rs D → Rs D} {c : Str} {F : Sls → Mir → Rs D} : fOw1 k c F ga δ m = (ga δ m).bind (ow1K k c F) := rfl
theorem strD_ok {z : Str} : strD (.ok (.str z) m) = .ok (.str z) m := rfl
theorem boolD_ok : boolD (.ok (.bl b) m) = .ok (.bl b) m := rfl
theorem lenD_ok {z : Int} (h : 0 ≤ z) (h2 : z < 9223372036854775808) : lenD (.ok (.int z) m) = .ok (.int z) m := if_pos ⟨h, by omega⟩
def isCK (c : Str) (o : Option D) (m : Mir) : Rs D := match o with
  | some y => if isC c (some y) = true then .ok (.bl true) m else if y.plain = true then .ok (.bl false) m else .bad
  | none => .bad
theorem isCK_ins {c c' : Str} {ns : List Str} {ds : List D} (h : (c == c') = true) : isCK c (some (.ins c' ns ds)) m = .ok (.bl true) m := if_pos h
theorem isCK_no (c : Str) (h : d.plain = true) : isCK c (some d) m = .ok (.bl false) m := by
  cases d <;> first | rfl | cases h
def isCV (c : Str) (x : D) (m : Mir) : Rs D := isCK c (view m x) m
theorem ap_isC {c : Str} : fIsC c f δ m = (f δ m).bind (isCV c) := rfl
def mkwA (n : Nat) (π : List Nat) (F : Sls → Mir → Rs D) (x : D) (ys : List D) (m : Mir) : Rs D := calK n F (x :: perm π ys) m
def mkwT (n : Nat) (π : List Nat) (F : Sls → Mir → Rs D) (x : D) (ga : Fa) (δ : Sls) (m : Mir) : Rs D := (ga δ m).bind (mkwA n π F x)
def mkwV (c p : Str) (n : Nat) (π : List Nat) (F : Sls → Mir → Rs D) (ga : Fa) (δ : Sls) (x : D) (m : Mir) : Rs D := mthK c p (view m x) (mkwT n π F x ga δ m)
theorem ap_mthKw {c p : Str} {π : List Nat} {F : Sls → Mir → Rs D} : fMthKw c p n π F f ga δ m = (f δ m).bind (mkwV c p n π F ga δ) := rfl
theorem perm_nil {γ : Type} {xs : List γ} : perm [] xs = [] := rfl
theorem perm_cons {γ : Type} {xs : List γ} {π : List Nat} {y : γ} (h : xs[i]? = some y) : perm (i :: π) xs = y :: perm π xs := by
  unfold perm
  rw [List.filterMap_cons, h]
theorem perm_1 {γ : Type} {y : γ} : perm [0] [y] = [y] := rfl
theorem perm_01 {γ : Type} {y z : γ} : perm [0, 1] [y, z] = [y, z] := rfl
theorem perm_10 {γ : Type} {y z : γ} : perm [1, 0] [y, z] = [z, y] := rfl
/-! lambdas -/
def trO (k : Nat) (r : Rs D) : Rs D := match r with
  | .ok r m2 => trimR k r m2
  | _ => .bad
theorem trO_ok {k : Nat} : trO k (.ok d m) = trimR k d m := rfl
def lmB (RR : Rs D → Rs D) (o : Option LamD) (δ : Sls) (m : Mir) : Rs D := match o with
  | some B => trO m.length (RR (B.b (lamSl B δ) m))
  | none => .bad
theorem lmB_some {RR : Rs D → Rs D} {B : LamD} : lmB RR (some B) δ m = trO m.length (RR (B.b (lamSl B δ) m)) := rfl
def lmK (RR : Rs D → Rs D) (bs : Nat → Option LamD) (δ : Sls) (d : D) (m : Mir) : Rs D := match d with
  | .lam i => lmB RR (bs i) δ m
  | _ => .bad
theorem lmK_lam {RR : Rs D → Rs D} {bs : Nat → Option LamD} : lmK RR bs δ (.lam i) m = lmB RR (bs i) δ m := rfl
theorem ap_lamFn {RR : Rs D → Rs D} {bs : Nat → Option LamD} : fLamFn RR bs f δ m = (f δ m).bind (lmK RR bs δ) := rfl
theorem why_ok {cs fs : List Str} {fn : Str → Option Str} : whyR cs fs fn (.ok d m) = .ok (.tup [.str "", .non]) m := rfl
theorem got_ok {cs fs : List Str} {fn : Str → Option Str} : gotR cs fs fn (.ok d m) = .ok (.tup [.str "value", d]) m := rfl
def cpI (ds : Option (List D)) (m1 : Mir) : Rs D := match ds with
  | some ds => .ok (.ref m1.length) (m1 ++ [some (.lst ds)])
  | none => .bad
theorem cpI_some {ds : List D} : cpI (some ds) m = .ok (.ref m.length) (m ++ [some (.lst ds)]) := rfl
def cpK (xs : List D) (m1 : Mir) : Rs D := match xs with
  | [x] => cpI ((view m1 x).bind itemsLT) m1
  | _ => .bad
theorem cpK_1 : cpK [d] m = cpI ((view m d).bind itemsLT) m := rfl
theorem ap_newCp : fNewCp ga δ m = (ga δ m).bind cpK := rfl
def lnR (tg : Ftg) (tt : Ft) (te : Fe) (δ0 : Sls) (gd : Gd) (ds : List D) (m : Mir) : Rs D := if ds.length < sizeLine then (match lcL tg tt te δ0 gd ds m with
  | .ok ys m2 => .ok (.ref m2.length) (m2 ++ [some (.lst ys)])
  | _ => .bad) else .bad
def lnK (tg : Ftg) (tt : Ft) (te : Fe) (δ0 : Sls) (dg : List D × Gd) (m : Mir) : Rs D := lnR tg tt te δ0 dg.2 dg.1 m
theorem ap_newLc {fi : Fi} {tg : Ftg} {tt : Ft} {te : Fe} {vs : List Nat} : fNewLc fi tg tt te vs δ m = (fi δ m).bind (lnK tg tt te (wipeD δ vs)) := rfl
theorem lnK_ap {tg : Ftg} {tt : Ft} {te : Fe} {ds : List D} {gd : Gd} : lnK tg tt te δ (ds, gd) m = lnR tg tt te δ gd ds m := rfl
theorem ln_fm {tg : Ftg} {tt : Ft} {te : Fe} {gd : Gd} (a : β → D) (b : β → Option D) (xs : List β) (hl : xs.length ≤ 100000) (hg : gdOk gd m = true) (h : ∀ x ∈ xs, elK tg tt te δ (a x) m = .ok (b x) m) : lnR tg tt te δ gd (xs.map a) m = .ok (.ref m.length) (m ++ [some (.lst (xs.filterMap b))]) := by
  unfold lnR
  rw [if_pos (by rw [List.length_map]; exact lt_line hl), lcL_fm hg xs h]
theorem ln_map {tg : Ftg} {tt : Ft} {te : Fe} {gd : Gd} (a b : β → D) (xs : List β) (hl : xs.length ≤ 100000) (hg : gdOk gd m = true) (h : ∀ x ∈ xs, elK tg tt te δ (a x) m = .ok (some (b x)) m) : lnR tg tt te δ gd (xs.map a) m = .ok (.ref m.length) (m ++ [some (.lst (xs.map b))]) := by
  rw [ln_fm a (fun x => some (b x)) xs hl hg h, fm_some]
/-! stores -/
def putI (n : Nat) (ds : List D) (v : D) (δ : Sls) (j : Option Nat) (m : Mir) : Fl := match j with
  | some j => .nx δ (m.set n (some (.lst (ds.set j v))))
  | none => .bad
theorem putI_some {ds : List D} : putI n ds d δ (some j) m = .nx δ (m.set n (some (.lst (ds.set j d)))) := rfl
def putC (n : Nat) (k : Int) (v : D) (δ : Sls) (o : Option D) (m : Mir) : Fl := match o with
  | some (.lst ds) => putI n ds v δ (ixN ds.length k) m
  | _ => .bad
theorem putC_lst {k : Int} {ds : List D} : putC n k d δ (some (.lst ds)) m = putI n ds d δ (ixN ds.length k) m := rfl
def put3 (δ : Sls) (v o i : D) (m3 : Mir) : Fl := match o, i with
  | .ref n, .int k => putC n k v δ (cell m3 n) m3
  | _, _ => .bad
theorem put3_ap {k : Int} : put3 δ d (.ref n) (.int k) m = putC n k d δ (cell m n) m := rfl
def put2 (fi : Fe) (δ : Sls) (v o : D) (m2 : Mir) : Fl := DM.thn (fi δ m2) δ (put3 δ v o)
def put1 (fo fi : Fe) (δ : Sls) (v : D) (m1 : Mir) : Fl := DM.thn (fo δ m1) δ (put2 fi δ v)
theorem ap_putL : sPutL f g h δ m = DM.thn (h δ m) δ (put1 f g δ) := rfl
def rlK (r : Rs D) : Rs D := match r with
  | .ok d m2 => if D.nl d = true ∧ nlM m2 = true then .ok d m2 else .bad
  | _ => .bad
theorem rlK_ok (h : D.nl d = true) (h2 : nlM m = true) : rlK (.ok d m) = .ok d m := if_pos ⟨h, h2⟩
theorem runL_ap {as : Sls} (h1 : nlSs as = true) (h2 : nlM m = true) : runL n gs as m = rlK (runF n gs as m) := if_pos ⟨h1, h2⟩
theorem nlM_app : ∀ {m cs : Mir}, nlM (m ++ cs) = (nlM m && nlM cs)
  | [], _ => rfl
  | none :: m, cs => nlM_app (m := m)
  | some d :: m, cs => by
    show (D.nl d && nlM (m ++ cs)) = (D.nl d && nlM m && nlM cs)
    rw [nlM_app (m := m), Bool.and_assoc]
theorem mul_r {i j : Int} (h1 : -18446744073709551616 < j) (h2 : j < 18446744073709551616) : oMul (.int i) (.int j) = some (.int (i * j)) := if_pos (.inr ⟨by omega, by omega⟩)
theorem mul_l {i j : Int} (h1 : -18446744073709551616 < i) (h2 : i < 18446744073709551616) : oMul (.int i) (.int j) = some (.int (i * j)) := if_pos (.inl ⟨by omega, by omega⟩)
theorem mod_ii {i j : Int} (h : 0 < j) : oMod (.int i) (.int j) = some (.int (i % j)) := if_pos h
theorem fdv_ii {i j : Int} (h : 0 < j) (h2 : j < 1073741824) : oFdiv (.int i) (.int j) = some (.int (i / j)) := if_pos ⟨h, h2⟩
theorem add_ii {i j : Int} : oAdd (.int i) (.int j) = some (.int (i + j)) := rfl
theorem add_ll {a b : List D} (h : a.length + b.length ≤ 100000) : oAdd (.lst a) (.lst b) = some (.lst (a ++ b)) := if_pos (le_line h)
theorem add_tt {a b : List D} (h : a.length + b.length ≤ 100000) : oAdd (.tup a) (.tup b) = some (.tup (a ++ b)) := if_pos (le_line h)
theorem add_ss {a b : Str} (h : a.length + b.length ≤ 100000) : oAdd (.str a) (.str b) = some (.str (a ++ b)) := if_pos (le_line h)
/-! operators on data -/
theorem sub_ii {i j : Int} : oSub (.int i) (.int j) = some (.int (i - j)) := rfl
theorem lt_ii {i j : Int} : oLt (.int i) (.int j) = some (.bl (decide (i < j))) := rfl
theorem le_ii {i j : Int} : oLe (.int i) (.int j) = some (.bl (decide (i ≤ j))) := rfl
theorem gt_ii {i j : Int} : oGt (.int i) (.int j) = some (.bl (decide (j < i))) := rfl
theorem ge_ii {i j : Int} : oGe (.int i) (.int j) = some (.bl (decide (j ≤ i))) := rfl
theorem neg_i {i : Int} : oNeg (.int i) = some (.int (-i)) := rfl
theorem len_l {ds : List D} : oLen [.lst ds] = some (.int ds.length) := rfl
theorem len_t {ds : List D} : oLen [.tup ds] = some (.int ds.length) := rfl
theorem len_s {z : Str} : oLen [.str z] = some (.int z.length) := rfl
theorem int_i {i : Int} : oInt [.int i] = some (.int i) := rfl
theorem is2_non : oIs2 .non .non = some (.bl true) := rfl
theorem is2_bl : oIs2 (.bl b) .non = some (.bl false) := rfl
theorem is2_int {i : Int} : oIs2 (.int i) .non = some (.bl false) := rfl
theorem is2_str {z : Str} : oIs2 (.str z) .non = some (.bl false) := rfl
theorem is2_lst {ds : List D} : oIs2 (.lst ds) .non = some (.bl false) := rfl
theorem is2_tup {ds : List D} : oIs2 (.tup ds) .non = some (.bl false) := rfl
theorem ni2_non : oNotIs2 .non .non = some (.bl false) := rfl
theorem ni2_bl : oNotIs2 (.bl b) .non = some (.bl true) := rfl
theorem ni2_int {i : Int} : oNotIs2 (.int i) .non = some (.bl true) := rfl
theorem ni2_str {z : Str} : oNotIs2 (.str z) .non = some (.bl true) := rfl
theorem ni2_lst {ds : List D} : oNotIs2 (.lst ds) .non = some (.bl true) := rfl
theorem ni2_tup {ds : List D} : oNotIs2 (.tup ds) .non = some (.bl true) := rfl
theorem tru_bl : tru (.bl b) = some b := rfl
theorem tru_int {i : Int} : tru (.int i) = some (i != 0) := rfl
theorem tru_non : tru .non = some false := rfl
theorem tup_l {ds : List D} : oTuple [.lst ds] = some (.tup ds) := rfl
theorem tup_t {ds : List D} : oTuple [.tup ds] = some (.tup ds) := rfl
theorem list_l {ds : List D} : oListS [.lst ds] = some (.lst ds) := rfl
theorem list_t {ds : List D} : oListS [.tup ds] = some (.lst ds) := rfl
theorem list_s {z : Str} : oListS [.str z] = some (.lst (signsOf z)) := rfl
theorem rev_l {ds : List D} : oRev (.lst ds) = some (.lst ds.reverse) := rfl
theorem eq_ii {i j : Int} : oEq (.int i) (.int j) = some (.bl (i == j)) := rfl
theorem eq_bb {p q : Bool} : oEq (.bl p) (.bl q) = some (.bl (p == q)) := by cases p <;> cases q <;> rfl
theorem ne_bb {p q : Bool} : oNe (.bl p) (.bl q) = some (.bl (!(p == q))) := by cases p <;> cases q <;> rfl
theorem ne_ii {i j : Int} : oNe (.int i) (.int j) = some (.bl (!(i == j))) := rfl
theorem sl_l {ds : List D} {p q : Option Int} : oSl (.lst ds) p q = some (.lst (cutD ds p q)) := rfl
theorem sl_t {ds : List D} {p q : Option Int} : oSl (.tup ds) p q = some (.tup (cutD ds p q)) := rfl
theorem itLT_l {ds : List D} : itemsLT (.lst ds) = some ds := rfl
theorem itLT_t {ds : List D} : itemsLT (.tup ds) = some ds := rfl
end
end DM

/-! Draws, as steps: what a draw answers, where it stands. -/
namespace Bag
open PySem PySem.Spec PyProof.Rows L2 DM
section
variable {tb : List Str} {m cs : Mir} {r : Rs D}
theorem nl_ints : ∀ ns : List Int, D.nls (ns.map D.int) = true
  | [] => rfl
  | _ :: ns => nl_ints ns
theorem nlM_bag {ns : List Int} {i k z : Int} {rest : Mir} : nlM (some (bagL ns i k z) :: rest) = nlM rest := by
  show (D.nl (bagL ns i k z) && nlM rest) = nlM rest
  have : D.nl (bagL ns i k z) = true := by
    show (D.nls (ns.map D.int) && true) = true
    rw [nl_ints]; rfl
  rw [this]; rfl
/-- _law_pull(bag, n) -/
theorem pull_r (h : Ok tb m) {n : Int} (e : pull [.dat (.ref 0), .dat (.int n)] (m ++ cs) = r) (h0 : 0 < n) (hn : n < 1073741824) :
    ∃ (d : Nat) (m' : Mir), r = .ok (.int d) (m' ++ cs) ∧ (d : Int) < n ∧ Ok tb m' ∧ m'.length = m.length ∧ nlM m' = nlM m := by
  obtain ⟨ns, i, k, z, rest, rfl, hf, h1, h2, h3⟩ := h.ex
  obtain ⟨s, i1, k1, z1, e1, a1, a2, a3⟩ := p1_ok (ns := ns) (i := i) (k := k) (r := z) (rest := (tbs tb ++ rest) ++ cs) n h1 h2 h3
  obtain ⟨d, i2, k2, z2, e2, b1, b2, b3, b4, b5⟩ := p2_ok (ns := ns) (i := i1) (k := k1) (r := z1) (rest := (tbs tb ++ rest) ++ cs) (s := s) n h0 hn a1 a2 a3
  refine ⟨d.toNat, some (bagL ns i2 k2 z2) :: (tbs tb ++ rest), ?_, by omega, ⟨ns, i2, k2, z2, rest, rfl, hf, b3, b4, b5⟩, rfl, by rw [nlM_bag, nlM_bag]⟩
  rw [← e, Int.toNat_of_nonneg b1]
  refine run_len (m1 := some (bagL ns i2 k2 z2) :: ((tbs tb ++ rest) ++ cs)) ?_ rfl
  show pullG [.dat (.ref 0), .dat (.int n), .un, .un, .un] (some (bagL ns i k z) :: ((tbs tb ++ rest) ++ cs)) = _
  rw [pull_eq]
  exact (ev_seq e1).trans e2
theorem pull_r0 (h : Ok tb m) {n : Int} (e : pull [.dat (.ref 0), .dat (.int n)] m = r) (h0 : 0 < n) (hn : n < 1073741824) :
    ∃ (d : Nat) (m' : Mir), r = .ok (.int d) m' ∧ (d : Int) < n ∧ Ok tb m' ∧ m'.length = m.length ∧ nlM m' = nlM m := by
  have := pull_r (cs := []) h (r := r) (n := n) (by rw [List.append_nil]; exact e) h0 hn
  simpa only [List.append_nil] using this
/-- _law_of(bag, x) -/
theorem of_any (h : Ok tb m) {x : D} {c : Nat} (R : D → Prop) (e : of [.dat (.ref 0), .dat x] (m ++ cs) = r) (hv : ∀ m, view m x = some x) (hc : oLen [x] = some (.int c)) (h0 : 0 < c) (hn : c < 1000000) (hi : ∀ i : Nat, i < c → ∃ y, oIx x (.int i) = some y ∧ R y) :
    ∃ (y : D) (m' : Mir), r = .ok y (m' ++ cs) ∧ R y ∧ Ok tb m' ∧ m'.length = m.length ∧ nlM m' = nlM m := by
  obtain ⟨d, m', e1, b, g, hl, hx⟩ := pull_r h (cs := cs) (n := (c : Int)) rfl (by omega) (by omega)
  obtain ⟨y, e2, ry⟩ := hi d (by omega)
  refine ⟨y, m', ?_, ry, g, hl, hx⟩
  rw [← e]
  refine run_len (m1 := m' ++ cs) ?_ (by rw [List.length_append, List.length_append, hl])
  show ofG [.dat (.ref 0), .dat x] (m ++ cs) = _
  unfold ofG
  have vs : views (m ++ cs) [x] = some [x] := by
    show (view (m ++ cs) x).bind _ = _
    rw [hv]
    rfl
  exact ev_ret (ev_f2 rfl (ev_callN (as := [.ref 0, .int c]) (m1 := m ++ cs) (ev_cons rfl (ev_one (ev_CB (ev_one rfl) vs hc))) rfl e1) (hv _) rfl e2)
theorem of_l (h : Ok tb m) {ds : List D} (e : of [.dat (.ref 0), .dat (.lst ds)] (m ++ cs) = r) (h0 : 0 < ds.length) (hn : ds.length < 1000000) :
    ∃ (y : D) (m' : Mir), r = .ok y (m' ++ cs) ∧ y ∈ ds ∧ Ok tb m' ∧ m'.length = m.length ∧ nlM m' = nlM m :=
  of_any h (fun y => y ∈ ds) e (fun _ => rfl) rfl h0 hn fun i hi => ⟨ds[i], by
    show atI ds (i : Int) = _
    rw [atI_nat _ _ hi, List.getElem?_eq_getElem hi], List.getElem_mem hi⟩
theorem of_t (h : Ok tb m) {ds : List D} (e : of [.dat (.ref 0), .dat (.tup ds)] (m ++ cs) = r) (h0 : 0 < ds.length) (hn : ds.length < 1000000) :
    ∃ (y : D) (m' : Mir), r = .ok y (m' ++ cs) ∧ y ∈ ds ∧ Ok tb m' ∧ m'.length = m.length ∧ nlM m' = nlM m :=
  of_any h (fun y => y ∈ ds) e (fun _ => rfl) rfl h0 hn fun i hi => ⟨ds[i], by
    show atI ds (i : Int) = _
    rw [atI_nat _ _ hi, List.getElem?_eq_getElem hi], List.getElem_mem hi⟩
theorem of_s (h : Ok tb m) {z : Str} (e : of [.dat (.ref 0), .dat (.str z)] (m ++ cs) = r) (h0 : 0 < z.cps.toList.length) (hn : z.cps.toList.length < 1000000) :
    ∃ (c : Nat) (m' : Mir), r = .ok (.str ⟨#[c]⟩) (m' ++ cs) ∧ c ∈ z.cps.toList ∧ Ok tb m' ∧ m'.length = m.length ∧ nlM m' = nlM m := by
  obtain ⟨y, m', e1, ⟨c, rfl, hc⟩, h1⟩ := of_any h (x := .str z) (c := z.cps.toList.length) (fun y => ∃ c, y = .str ⟨#[c]⟩ ∧ c ∈ z.cps.toList) e (fun _ => rfl) (by show some (D.int (z.cps.size : Nat)) = _; rw [Array.length_toList]) h0 hn fun i hi => ⟨.str ⟨#[z.cps.toList[i]]⟩, by
    show (atI z.cps.toList (i : Int)).map _ = _
    rw [atI_nat _ _ hi, List.getElem?_eq_getElem hi]
    rfl, _, rfl, List.getElem_mem hi⟩
  exact ⟨c, m', e1, hc, h1⟩
theorem of_l0 (h : Ok tb m) {ds : List D} (e : of [.dat (.ref 0), .dat (.lst ds)] m = r) (h0 : 0 < ds.length) (hn : ds.length < 1000000) :
    ∃ (y : D) (m' : Mir), r = .ok y m' ∧ y ∈ ds ∧ Ok tb m' ∧ m'.length = m.length ∧ nlM m' = nlM m := by
  have := of_l (cs := []) h (r := r) (ds := ds) (by rw [List.append_nil]; exact e) h0 hn
  simpa only [List.append_nil] using this
theorem of_t0 (h : Ok tb m) {ds : List D} (e : of [.dat (.ref 0), .dat (.tup ds)] m = r) (h0 : 0 < ds.length) (hn : ds.length < 1000000) :
    ∃ (y : D) (m' : Mir), r = .ok y m' ∧ y ∈ ds ∧ Ok tb m' ∧ m'.length = m.length ∧ nlM m' = nlM m := by
  have := of_t (cs := []) h (r := r) (ds := ds) (by rw [List.append_nil]; exact e) h0 hn
  simpa only [List.append_nil] using this
theorem of_s0 (h : Ok tb m) {z : Str} (e : of [.dat (.ref 0), .dat (.str z)] m = r) (h0 : 0 < z.cps.toList.length) (hn : z.cps.toList.length < 1000000) :
    ∃ (c : Nat) (m' : Mir), r = .ok (.str ⟨#[c]⟩) m' ∧ c ∈ z.cps.toList ∧ Ok tb m' ∧ m'.length = m.length ∧ nlM m' = nlM m := by
  have := of_s (cs := []) h (r := r) (z := z) (by rw [List.append_nil]; exact e) h0 hn
  simpa only [List.append_nil] using this
theorem Ok.app (h : Ok tb m) : ∀ {cs : Mir}, (∀ d, some d ∈ cs → ∀ k, D.low k d = true) → Ok tb (m ++ cs) := by
  intro cs
  induction cs generalizing m with
  | nil => intro _; rw [List.append_nil]; exact h
  | cons c cs ih =>
    intro hc
    have h1 : Ok tb (m ++ [c]) := by
      cases c with
      | none => exact h.snoc
      | some d => exact h.snocD (hc d List.mem_cons_self)
    have := ih h1 fun d hd => hc d (List.mem_cons_of_mem _ hd)
    rwa [List.append_assoc] at this
/-! cells that look at no place -/
mutual
theorem low_up : ∀ (d : D) (k : Nat), D.low 0 d = true → D.low k d = true
  | .non, _, _ => rfl
  | .bl _, _, _ => rfl
  | .int _, _, _ => rfl
  | .str _, _, _ => rfl
  | .lst ds, k, h => lows_up ds k h
  | .tup ds, k, h => lows_up ds k h
  | .ins _ _ ds, k, h => lows_up ds k h
  | .dK _ ds, k, h => lows_up ds k h
  | .dT _ ds, k, h => lows_up ds k h
  | .ref n, k, h => by
    have h : Nat.blt n 0 = true := h
    simp [Nat.blt_eq] at h
  | .lam _, _, _ => rfl
  | .tbl _, _, _ => rfl
theorem lows_up : ∀ (ds : List D) (k : Nat), D.lows 0 ds = true → D.lows k ds = true
  | [], _, _ => rfl
  | d :: ds, k, h => by
    have h : (D.low 0 d && D.lows 0 ds) = true := h
    obtain ⟨h1, h2⟩ := Bool.and_eq_true_iff.mp h
    show (D.low k d && D.lows k ds) = true
    rw [low_up d k h1, lows_up ds k h2]
    rfl
end
inductive Flat : Mir → Prop where
  | nil : Flat []
  | none {cs : Mir} : Flat cs → Flat (none :: cs)
  | some {d : D} {cs : Mir} : D.low 0 d = true → Flat cs → Flat (some d :: cs)
theorem Flat.mem {cs : Mir} (h : Flat cs) : ∀ d, Option.some d ∈ cs → ∀ k, D.low k d = true := by
  induction h with
  | nil => intro d hd; cases hd
  | none _ ih =>
    intro d hd
    rcases List.mem_cons.mp hd with e | hd
    · cases e
    · exact ih d hd
  | some h _ ih =>
    intro d hd
    rcases List.mem_cons.mp hd with e | hd
    · cases e
      exact fun k => low_up _ k h
    · exact ih d hd
theorem Flat.ok {tb : List Str} {m cs : Mir} (h : Flat cs) (g : Ok tb m) : Ok tb (m ++ cs) := g.app h.mem
theorem fm_app {m cs : Mir} (g : Fm m) (h : Flat cs) : Fm (m ++ cs) := by
  induction h generalizing m with
  | nil => rw [List.append_nil]; exact g
  | none _ ih =>
    have := ih (m := m ++ [Option.none]) g.snoc
    rwa [List.append_assoc] at this
  | @some d cs h _ ih =>
    have := ih (m := m ++ [Option.some d]) (fm_snocD (fun k => low_up _ k h) g)
    rwa [List.append_assoc] at this
theorem low0_map {α : Type} {a : α → D} (h : ∀ x, D.low 0 (a x) = true) (xs : List α) : D.lows 0 (xs.map a) = true := low_map h xs
/-! plain data -/
theorem okn_l {k : Nat} {ds : List D} (h : ds.length ≤ 100000) (h2 : ∀ d ∈ ds, okN k d = true) : okN (k + 1) (.lst ds) = true := by
  show (decide (ds.length < sizeLine) && ds.all (okN k)) = true
  rw [decide_eq_true (lt_line h), Bool.true_and]
  exact List.all_eq_true.mpr h2
theorem okn_t {k : Nat} {ds : List D} (h : ds.length ≤ 100000) (h2 : ∀ d ∈ ds, okN k d = true) : okN (k + 1) (.tup ds) = true := by
  show (decide (ds.length < sizeLine) && ds.all (okN k)) = true
  rw [decide_eq_true (lt_line h), Bool.true_and]
  exact List.all_eq_true.mpr h2
theorem okn_s {k : Nat} {z : Str} (h : PyData.strOk z = true) : okN (k + 1) (.str z) = true := h
theorem okn_i {k : Nat} {i : Int} : okN (k + 1) (.int i) = true := rfl
theorem okn_b {k : Nat} {b : Bool} : okN (k + 1) (.bl b) = true := rfl
theorem okn_n {k : Nat} : okN (k + 1) .non = true := rfl
theorem okn_nil {k : Nat} : ∀ d ∈ ([] : List D), okN k d = true := fun d h => by cases h
theorem okn_cons {k : Nat} {d : D} {ds : List D} (h : okN k d = true) (h2 : ∀ d ∈ ds, okN k d = true) : ∀ x ∈ d :: ds, okN k x = true := fun x hx => by
  rcases List.mem_cons.mp hx with rfl | hx
  · exact h
  · exact h2 x hx
theorem strOk_iff {z : Str} : PyData.strOk z = true ↔ ∀ c ∈ z.cps.toList, c < 1114112 := by
  unfold PyData.strOk
  rw [Array.all_eq_true_iff_forall_mem]
  simp [Array.mem_toList_iff]
theorem strOk_app {a b : Str} (h1 : PyData.strOk a = true) (h2 : PyData.strOk b = true) : PyData.strOk (a ++ b) = true := by
  rw [strOk_iff] at h1 h2 ⊢
  intro c hc
  have e : (a ++ b).cps.toList = a.cps.toList ++ b.cps.toList := by
    show (a.cps ++ b.cps).toList = _
    rw [Array.toList_append]
  rw [e] at hc
  rcases List.mem_append.mp hc with hc | hc
  · exact h1 c hc
  · exact h2 c hc
theorem strOk_join {a : Str} (h1 : PyData.strOk a = true) : ∀ ys : List Str, (∀ y ∈ ys, PyData.strOk y = true) → PyData.strOk (Txt.join a ys) = true := by
  intro ys h
  rw [TL.join_eq]
  match ys, h with
  | [], _ => show PyData.strOk Str.empty = true; decide +kernel
  | [x], h => exact h x (by simp)
  | x :: z :: r, h =>
    have := strOk_join h1 (z :: r) fun y hy => h y (List.mem_cons_of_mem _ hy)
    rw [TL.join_eq] at this
    exact strOk_app (strOk_app (h x (by simp)) h1) this
  termination_by ys => ys.length
end
end Bag

namespace K17
open PySem PySem.Spec PyProof.Rows L2 DM
/-! ### the text by places -/
def top (i : Nat) : Stmt := PySem.Challenge.pw_neverdry_k17_tables_told.main.body.getD i (.Pass ⟨0, 0, 0, 0⟩)
def k_GRADES : D := (.str "aseudwx")
def k_GRADE_OF : List (Str × D) := [("a", (.int 0)), ("s", (.int 1)), ("e", (.int 2)), ("u", (.int 3)), ("d", (.int 4)), ("w", (.int 5)), ("x", (.int 6))]
def k_JOINED : D := (.tup [(.tup [(.int 0), (.int 0), (.int 0), (.int 0), (.int 0), (.int 5), (.int 6)]), (.tup [(.int 0), (.int 1), (.int 1), (.int 1), (.int 4), (.int 5), (.int 6)]), (.tup [(.int 0), (.int 1), (.int 2), (.int 3), (.int 4), (.int 5), (.int 6)]), (.tup [(.int 0), (.int 1), (.int 3), (.int 3), (.int 4), (.int 5), (.int 6)]), (.tup [(.int 0), (.int 4), (.int 4), (.int 4), (.int 4), (.int 5), (.int 6)]), (.tup [(.int 5), (.int 5), (.int 5), (.int 5), (.int 5), (.int 5), (.int 6)]), (.tup [(.int 6), (.int 6), (.int 6), (.int 6), (.int 6), (.int 6), (.int 6)])])
def k_NONE : D := (.int 6)
def k_NOTHING : D := (.int 2)
def k_Map_PLACES : D := (.int 6)
def errs : List Str := ["InvalidNumber", "InvalidTable"]
def flds : List Str := ["tag", "given"]
/-! ### what the top leaves -/
structure Txt (P : Program) (K : PySem.W.Frag) (w : World) (mg : Str → Option Value) (cn : Str → Addr) : Prop where
  c_GRADES : Gc K mg cn "GRADES" k_GRADES
  c_GRADE_OF : Tc K w mg cn "GRADE_OF" k_GRADE_OF
  c_JOINED : Gc K mg cn "JOINED" k_JOINED
  c_NONE : Gc K mg cn "NONE" k_NONE
  c_NOTHING : Gc K mg cn "NOTHING" k_NOTHING
  b_abs : mg "abs" = none
  b_all : mg "all" = none
  b_bool : mg "bool" = none
  b_int : mg "int" = none
  b_isinstance : mg "isinstance" = none
  b_len : mg "len" = none
  b_list : mg "list" = none
  b_min : mg "min" = none
  b_range : mg "range" = none
  b_repr : mg "repr" = none
  b_str : mg "str" = none
  b_tuple : mg "tuple" = none
  b_zip : mg "zip" = none
  d_is_integer : Df K mg "is_integer" (top 16) ["value"]
  d_is_within : Df K mg "is_within" (top 17) ["value", "low", "high"]
  d_product_of : Df K mg "product_of" (top 28) ["one", "other"]
  d_identity_rows : Df K mg "identity_rows" (top 30) ["places"]
  d_texts_of : Df K mg "texts_of" (top 33) ["rows"]
  d_is_row : Df K mg "is_row" (top 34) ["value", "places"]
  d_law_pull : Df K mg "_law_pull" (top 37) ["_law_bag_here", "_law_sides"]
  d_law_of : Df K mg "_law_of" (top 38) ["_law_bag_here", "_law_some"]
  d_law_same : Df K mg "_law_same" (top 39) ["_law_found", "_law_due"]
  d_law_bag : Df K mg "_law_bag" (top 40) ["_law_script"]
  d_law_field : Df K mg "_law_field" (top 41) ["_law_one"]
  d_law_place : Df K mg "_law_place" (top 42) ["_law_one"]
  d_law_why : Df K mg "_law_why" (top 43) ["_law_ask"]
  d_law_joined : Df K mg "_law_joined" (top 44) ["_law_one", "_law_other"]
  d_law_best : Df K mg "_law_best" (top 45) ["_law_some"]
  d_law_times : Df K mg "_law_times" (top 46) ["_law_one", "_law_other"]
  d_law_identity : Df K mg "_law_identity" (top 47) ["_law_many"]
  d_law_drawn_rows : Df K mg "_law_drawn_rows" (top 48) ["_law_bag_here", "_law_many"]
  d_law_table_refused : DfC K mg "_law_table_refused" (top 49) ["_law_bag_here", "_law_table", "_law_rows_here"] (cn "#_law_table_refused")
  d_Table___init : Dk K mg "Table" (cn "Table") "Table.__init__" (inClass (top 35) 0) ["self", "rows"]
  d_Table_identity : Ds K mg "Table" (cn "Table") "identity" "Table.identity" (inClass (top 35) 1) ["places"]
  d_Table_places : Dp K (cn "Table") "places" "Table.places" (inClass (top 35) 3)
  d_Table_rows : Dm K (cn "Table") "rows" "Table.rows" (inClass (top 35) 4) ["self"]
  d_Table_value : Dm K (cn "Table") "value" "Table.value" (inClass (top 35) 5) ["self", "origin", "goal"]
  d_Table___eq : Dm K (cn "Table") "__eq__" "Table.__eq__" (inClass (top 35) 10) ["self", "other"]
  d_Table___bool : Dm K (cn "Table") "__bool__" "Table.__bool__" (inClass (top 35) 11) ["self"]
  d_Table___repr : Dm K (cn "Table") "__repr__" "Table.__repr__" (inClass (top 35) 12) ["self"]
  m_DryError : mg "DryError" = some (.ref (cn "DryError"))
  m_Missing : mg "Missing" = some (.ref (cn "Missing"))
  m_NothingLeft : mg "NothingLeft" = some (.ref (cn "NothingLeft"))
  e_InvalidNumber : ErT P K mg "InvalidNumber" (cn "InvalidNumber") "InvalidNumber.__init__" (inClass (top 6) 0) ["self", "given"]
  g_InvalidNumber : PySem.W.findIn K (.ref (cn "InvalidNumber")) "given" = some none
  e_InvalidTable : ErT P K mg "InvalidTable" (cn "InvalidTable") "InvalidTable.__init__" (inClass (top 10) 0) ["self"]
  erf : ErF K cn (cn "DryError") (cn "Missing") (cn "NothingLeft") errs flds
  c_Table : Cls K (cn "Table")
  m_Table : mg "Table" = some (.ref (cn "Table"))
  i_Table : IsC K (cn "Table")
  f_grades : FldOk K cn ["Table"] "grades"
  v_Map_PLACES : Cv K mg cn "Map" "PLACES" k_Map_PLACES
section
variable {P : Program} {w : World} {K : PySem.W.Frag} {mg : Str → Option Value} {base : Heap} {cn : Str → Addr}
theorem scn_InvalidNumber : NdefX.NScope ["self", "given", "__class__"] ["self", "given"] ["__class__"] (defScope (inClass (top 6) 0)) := NdefX.nscope_by (by decide +kernel)
theorem err_InvalidNumber (T : Txt P K w mg cn) : ErC P w K mg base "InvalidNumber" (cn "InvalidNumber") 1 1 "InvalidNumber" (fs1 "InvalidNumber" "given") := ErT.er1 T.e_InvalidNumber rfl scn_InvalidNumber T.g_InvalidNumber rfl rfl rfl rfl rfl (fun _ _ _ _ => rfl) (fun _ _ _ _ => rfl) (fun _ _ _ _ => rfl) (fun _ => rfl) fun _ => rfl
theorem scn_InvalidTable : NdefX.NScope ["self", "__class__"] ["self"] ["__class__"] (defScope (inClass (top 10) 0)) := NdefX.nscope_by (by decide +kernel)
theorem err_InvalidTable (T : Txt P K w mg cn) : ErC P w K mg base "InvalidTable" (cn "InvalidTable") 0 1 "InvalidTable" (fs0 "InvalidTable") := ErT.er0 T.e_InvalidTable rfl scn_InvalidTable rfl rfl (fun _ _ _ _ => rfl) (fun _ _ _ _ => rfl) (fun _ => rfl) fun _ => rfl
/-! ### the defs -/
theorem sc_is_integer : FnScope ["value"] ["value"] (defScope (top 16)) := ⟨rfl, rfl, rfl, by decide +kernel, rfl, by decide +kernel, by decide +kernel⟩
def g_is_integer : Fs :=
  sRet (fAndV (fIs ["int"] (fVar 0)) (fNotV (fIs ["bool"] (fVar 0))))
def F_is_integer : Sls → Mir → Rs D := runF 1 g_is_integer
theorem fd_is_integer (T : Txt P K w mg cn) : Fd P w K mg base "is_integer" ["value"] 1 (spD (gx K (c0 cn)) 1 F_is_integer) := by
  have hnd := sc_is_integer.nd
  refine Df.fd (N := ["value"]) T.d_is_integer sc_is_integer fun f cdv A outer s H E hr => ?_
  unfold g_is_integer
  exact ds_last (ds_ret (de_and (de_isi rfl T.b_isinstance (by decide +kernel) rfl T.b_int (by decide +kernel) (by decide +kernel) (de_var 0)) (de_one (de_not (de_isi rfl T.b_isinstance (by decide +kernel) rfl T.b_bool (by decide +kernel) (by decide +kernel) (de_var 0))))))
theorem sc_product_of : FnScope ["one", "other", "columns", "row", "column", "left", "right"] ["one", "other"] (defScope (top 28)) := ⟨rfl, rfl, rfl, by decide +kernel, rfl, by decide +kernel, by decide +kernel⟩
def g_product_of : Fs :=
  sSeq (sSet 2 (f1 oLZ (fVar 1))) (sRet (fCB oTuple (fCons (fLc (fSeq (fVar 0)) (gN 3) (fYes) (fCB oTuple (fCons (fLc (fSeq (fVar 2)) (gN 4) (fYes) (fCB oMin (fCons (fLc (fZip (fCons (fVar 3) (fCons (fVar 4) (fNil)))) (gT (gsCons (gN 5) (gsCons (gN 6) (gsNil)))) (fYes) (f2 oIx (f2 oIx (fC k_JOINED) (fVar 5)) (fVar 6)) [5, 6]) (fNil))) [4]) (fNil))) [3]) (fNil))))
def F_product_of : Sls → Mir → Rs D := runF 7 g_product_of
theorem fd_product_of (T : Txt P K w mg cn) : Fd P w K mg base "product_of" ["one", "other"] 1 (spD (gx K (c0 cn)) 2 F_product_of) := by
  have hnd := sc_product_of.nd
  refine Df.fd (N := ["one", "other", "columns", "row", "column", "left", "right"]) T.d_product_of sc_product_of fun f cdv A outer s H E hr => ?_
  unfold g_product_of
  exact ds_cons (ds_set 2 (de_lz rfl T.b_list rfl T.b_zip (de_var 1)) hnd) (ds_last (ds_ret (de_ty bf_tuple rfl T.b_tuple (by decide +kernel) (da_cons (de_lc [("row", 3)] hnd (di_seq (de_var 0)) (tg_name) (fun _ _ _ _ _ => pg_name (i := 3) hnd rfl (by first | exact Or.inl rfl | exact Or.inr rfl)) (fun _ _ _ _ _ => dts_nil) (fun _ _ _ _ _ => de_ty bf_tuple rfl T.b_tuple (by decide +kernel) (da_cons (de_lc [("column", 4)] hnd (di_seq (de_var 2)) (tg_name) (fun _ _ _ _ _ => pg_name (i := 4) hnd rfl (by first | exact Or.inl rfl | exact Or.inr rfl)) (fun _ _ _ _ _ => dts_nil) (fun _ _ _ _ _ => de_bi (bf_min rfl) rfl T.b_min (by decide +kernel) (da_cons (de_lc [("left", 5), ("right", 6)] hnd (di_zip rfl T.b_zip (da_cons (de_var 3) (da_cons (de_var 4) (da_nil)))) (pyLen_ok (gsCons_len (gsCons_len (gsNil_len))) (tgs_cons tg_name (tgs_cons tg_name (tgs_nil)))) (fun _ _ _ _ _ => pg_tup rfl (pgs_cons (pg_name (i := 5) hnd rfl (by first | exact Or.inl rfl | exact Or.inr rfl)) (pgs_cons (pg_name (i := 6) hnd rfl (by first | exact Or.inl rfl | exact Or.inr rfl)) (pgs_nil)))) (fun _ _ _ _ _ => dts_nil) (fun _ _ _ _ _ => de_ix (de_ix (de_gc T.c_JOINED rfl) (de_var 5)) (de_var 6))) (da_nil)))) (da_nil)))) (da_nil)))))
theorem sc_identity_rows : FnScope ["places", "place", "at"] ["places"] (defScope (top 30)) := ⟨rfl, rfl, rfl, by decide +kernel, rfl, by decide +kernel, by decide +kernel⟩
def g_identity_rows : Fs :=
  sRet (fCB oTuple (fCons (fLc (fRange1 (fCons (fVar 0) (fNil))) (gN 1) (fYes) (fCB oTuple (fCons (fLc (fRange1 (fCons (fVar 0) (fNil))) (gN 2) (fYes) (fIf (fB (f2 oEq (fVar 2) (fVar 1))) (fC k_NOTHING) (fC k_NONE)) [2]) (fNil))) [1]) (fNil)))
def F_identity_rows : Sls → Mir → Rs D := runF 3 g_identity_rows
theorem fd_identity_rows (T : Txt P K w mg cn) : Fd P w K mg base "identity_rows" ["places"] 1 (spD (gx K (c0 cn)) 1 F_identity_rows) := by
  have hnd := sc_identity_rows.nd
  refine Df.fd (N := ["places", "place", "at"]) T.d_identity_rows sc_identity_rows fun f cdv A outer s H E hr => ?_
  unfold g_identity_rows
  exact ds_last (ds_ret (de_ty bf_tuple rfl T.b_tuple (by decide +kernel) (da_cons (de_lc [("place", 1)] hnd (di_range1 rfl T.b_range (da_cons (de_var 0) (da_nil))) (tg_name) (fun _ _ _ _ _ => pg_name (i := 1) hnd rfl (by first | exact Or.inl rfl | exact Or.inr rfl)) (fun _ _ _ _ _ => dts_nil) (fun _ _ _ _ _ => de_ty bf_tuple rfl T.b_tuple (by decide +kernel) (da_cons (de_lc [("at", 2)] hnd (di_range1 rfl T.b_range (da_cons (de_var 0) (da_nil))) (tg_name) (fun _ _ _ _ _ => pg_name (i := 2) hnd rfl (by first | exact Or.inl rfl | exact Or.inr rfl)) (fun _ _ _ _ _ => dts_nil) (fun _ _ _ _ _ => de_if (dt_cmp (cm_eq hr) (de_var 2) (de_var 1)) (de_gc T.c_NOTHING rfl) (de_gc T.c_NONE rfl))) (da_nil)))) (da_nil))))
theorem sc_texts_of : FnScope ["rows", "row", "grade"] ["rows"] (defScope (top 33)) := ⟨rfl, rfl, rfl, by decide +kernel, rfl, by decide +kernel, by decide +kernel⟩
def g_texts_of : Fs :=
  sRet (fNewLc (fSeq (fVar 0)) (gN 1) (fYes) (fS2 oJoin (fC (.str "")) (fLc (fSeq (fVar 1)) (gN 2) (fYes) (f2 oIx (fC k_GRADES) (fVar 2)) [2])) [1])
def F_texts_of : Sls → Mir → Rs D := runF 3 g_texts_of
theorem fd_texts_of (T : Txt P K w mg cn) : Fd P w K mg base "texts_of" ["rows"] 1 (spD (gx K (c0 cn)) 1 F_texts_of) := by
  have hnd := sc_texts_of.nd
  refine Df.fd (N := ["rows", "row", "grade"]) T.d_texts_of sc_texts_of fun f cdv A outer s H E hr => ?_
  unfold g_texts_of
  exact ds_last (ds_ret (de_newLc [("row", 1)] hnd (di_seq (de_var 0)) (tg_name) (fun _ _ _ _ _ => pg_name (i := 1) hnd rfl (by first | exact Or.inl rfl | exact Or.inr rfl)) (fun _ _ _ _ _ => dts_nil) (fun _ _ _ _ _ => de_join (de_str) (de_lc [("grade", 2)] hnd (di_seq (de_var 1)) (tg_name) (fun _ _ _ _ _ => pg_name (i := 2) hnd rfl (by first | exact Or.inl rfl | exact Or.inr rfl)) (fun _ _ _ _ _ => dts_nil) (fun _ _ _ _ _ => de_ix (de_gc T.c_GRADES rfl) (de_var 2))))))
theorem sc_is_row : FnScope ["value", "places", "sign"] ["value", "places"] (defScope (top 34)) := ⟨rfl, rfl, rfl, by decide +kernel, rfl, by decide +kernel, by decide +kernel⟩
def g_is_row : Fs :=
  sRet (fAndV (fIs ["str"] (fVar 0)) (fAndV (f2 oEq (fCB oLen (fCons (fVar 0) (fNil))) (fVar 1)) (fCB oAll (fCons (fLc (fSeq (fVar 0)) (gN 2) (fYes) (f2 oIn (fVar 2) (fC k_GRADES)) [2]) (fNil)))))
def F_is_row : Sls → Mir → Rs D := runF 3 g_is_row
theorem fd_is_row (T : Txt P K w mg cn) : Fd P w K mg base "is_row" ["value", "places"] 1 (spD (gx K (c0 cn)) 2 F_is_row) := by
  have hnd := sc_is_row.nd
  refine Df.fd (N := ["value", "places", "sign"]) T.d_is_row sc_is_row fun f cdv A outer s H E hr => ?_
  unfold g_is_row
  exact ds_last (ds_ret (de_and (de_isi rfl T.b_isinstance (by decide +kernel) rfl T.b_str (by decide +kernel) (by decide +kernel) (de_var 0)) (de_and (de_cmp (cm_eq hr) (de_bi bf_len rfl T.b_len (by decide +kernel) (da_cons (de_var 0) (da_nil))) (de_var 1)) (de_one (de_bi (bf_all rfl) rfl T.b_all (by decide +kernel) (da_cons (de_lc [("sign", 2)] hnd (di_seq (de_var 0)) (tg_name) (fun _ _ _ _ _ => pg_name (i := 2) hnd rfl (by first | exact Or.inl rfl | exact Or.inr rfl)) (fun _ _ _ _ _ => dts_nil) (fun _ _ _ _ _ => de_cmp cm_in (de_var 2) (de_gc T.c_GRADES rfl))) (da_nil)))))))
theorem sc_law_pull : FnScope ["_law_bag_here", "_law_sides", "_law_cell", "_law_digit", "_law_twice"] ["_law_bag_here", "_law_sides"] (defScope (top 37)) := ⟨rfl, rfl, rfl, by decide +kernel, rfl, by decide +kernel, by decide +kernel⟩
def g_law_pull : Fs :=
  sSeq (sIf (fAnd (fB (f2 oEq (f2 oIx (fVar 0) (fC (.int 2))) (fC (.int 0)))) (fB (f2 oLt (f2 oIx (fVar 0) (fC (.int 1))) (fCB oLen (fCons (f2 oIx (fVar 0) (fC (.int 0))) (fNil)))))) (sSeq (sSet 2 (f2 oIx (f2 oIx (fVar 0) (fC (.int 0))) (f2 oIx (fVar 0) (fC (.int 1))))) (sSeq (sPutL (fVar 0) (fC (.int 1)) (f2 oAdd (f2 oIx (fVar 0) (fC (.int 1))) (fC (.int 1)))) (sIf (fB (f2 oGe (fCB oAbs (fCons (fVar 2) (fNil))) (f2 oPow (fC (.int 10)) (fC (.int 18))))) (sPutL (fVar 0) (fC (.int 2)) (fCB oAbs (fCons (fVar 2) (fNil)))) (sPutL (fVar 0) (fC (.int 3)) (f2 oMod (fCB oInt (fCons (f2 oAdd (f2 oAdd (f2 oMul (f2 oIx (fVar 0) (fC (.int 3))) (fC (.int 48271))) (f2 oMul (f2 oMod (fCB oInt (fCons (fVar 2) (fNil))) (fC (.int 1000003))) (fC (.int 911)))) (fC (.int 7))) (fNil))) (fC (.int 2147483647))))))) (sNx)) (sSeq (sIf (fB (f2 oGt (f2 oIx (fVar 0) (fC (.int 2))) (fC (.int 0)))) (sSeq (sSet 3 (f2 oMod (fCB oInt (fCons (f2 oIx (fVar 0) (fC (.int 2))) (fNil))) (fVar 1))) (sSeq (sPutL (fVar 0) (fC (.int 2)) (f2 oFdiv (f2 oIx (fVar 0) (fC (.int 2))) (fVar 1))) (sRet (fVar 3)))) (sNx)) (sSeq (sSet 4 (f2 oMod (fCB oInt (fCons (f2 oMul (f2 oIx (fVar 0) (fC (.int 3))) (f2 oIx (fVar 0) (fC (.int 3)))) (fNil))) (fC (.int 2147483629)))) (sSeq (sPutL (fVar 0) (fC (.int 3)) (f2 oMod (fCB oInt (fCons (f2 oAdd (f2 oAdd (f2 oMul (fVar 4) (fC (.int 16807))) (f2 oMul (f2 oIx (fVar 0) (fC (.int 3))) (fC (.int 40692)))) (fC (.int 12345))) (fNil))) (fC (.int 2147483647)))) (sRet (f2 oMod (fCB oInt (fCons (f2 oFdiv (f2 oIx (fVar 0) (fC (.int 3))) (fC (.int 64))) (fNil))) (fVar 1))))))
def F_law_pull : Sls → Mir → Rs D := runF 5 g_law_pull
theorem fd_law_pull (T : Txt P K w mg cn) : Fd P w K mg base "_law_pull" ["_law_bag_here", "_law_sides"] 1 (spD (gx K (c0 cn)) 2 F_law_pull) := by
  have hnd := sc_law_pull.nd
  refine Df.fd (N := ["_law_bag_here", "_law_sides", "_law_cell", "_law_digit", "_law_twice"]) T.d_law_pull sc_law_pull fun f cdv A outer s H E hr => ?_
  unfold g_law_pull
  exact ds_cons (ds_if (dt_w (dw_and (dt_cmp (cm_eq hr) (de_ix (de_var 0) (de_int)) (de_int)) (dw_and1 (dt_cmp cm_lt (de_ix (de_var 0) (de_int)) (de_bi bf_len rfl T.b_len (by decide +kernel) (da_cons (de_ix (de_var 0) (de_int)) (da_nil))))))) (ds_cons (ds_set 2 (de_ix (de_ix (de_var 0) (de_int)) (de_ix (de_var 0) (de_int))) hnd) (ds_cons (ds_putL (de_var 0) (de_int) (de_add (de_ix (de_var 0) (de_int)) (de_int))) (ds_last (ds_if (dt_cmp cm_ge (de_bi bf_abs rfl T.b_abs (by decide +kernel) (da_cons (de_var 2) (da_nil))) (de_pow (de_int) (de_int))) (ds_last (ds_putL (de_var 0) (de_int) (de_bi bf_abs rfl T.b_abs (by decide +kernel) (da_cons (de_var 2) (da_nil))))) (ds_last (ds_putL (de_var 0) (de_int) (de_mod (de_ty bf_int rfl T.b_int (by decide +kernel) (da_cons (de_add (de_add (de_mul (de_ix (de_var 0) (de_int)) (de_int)) (de_mul (de_mod (de_ty bf_int rfl T.b_int (by decide +kernel) (da_cons (de_var 2) (da_nil))) (de_int)) (de_int))) (de_int)) (da_nil))) (de_int)))))))) (ds_nil)) (ds_cons (ds_if (dt_cmp cm_gt (de_ix (de_var 0) (de_int)) (de_int)) (ds_cons (ds_set 3 (de_mod (de_ty bf_int rfl T.b_int (by decide +kernel) (da_cons (de_ix (de_var 0) (de_int)) (da_nil))) (de_var 1)) hnd) (ds_cons (ds_putL (de_var 0) (de_int) (de_fdiv (de_ix (de_var 0) (de_int)) (de_var 1))) (ds_last (ds_ret (de_var 3))))) (ds_nil)) (ds_cons (ds_set 4 (de_mod (de_ty bf_int rfl T.b_int (by decide +kernel) (da_cons (de_mul (de_ix (de_var 0) (de_int)) (de_ix (de_var 0) (de_int))) (da_nil))) (de_int)) hnd) (ds_cons (ds_putL (de_var 0) (de_int) (de_mod (de_ty bf_int rfl T.b_int (by decide +kernel) (da_cons (de_add (de_add (de_mul (de_var 4) (de_int)) (de_mul (de_ix (de_var 0) (de_int)) (de_int))) (de_int)) (da_nil))) (de_int))) (ds_last (ds_ret (de_mod (de_ty bf_int rfl T.b_int (by decide +kernel) (da_cons (de_fdiv (de_ix (de_var 0) (de_int)) (de_int)) (da_nil))) (de_var 1)))))))
theorem sc_law_same : FnScope ["_law_found", "_law_due", "_law_a", "_law_b"] ["_law_found", "_law_due"] (defScope (top 39)) := ⟨rfl, rfl, rfl, by decide +kernel, rfl, by decide +kernel, by decide +kernel⟩
def g_law_same (Fr : Sls → Mir → Rs D) : Fs :=
  sSeq (sIf (fOr (fB (f2 oIs2 (fVar 1) (fC .non))) (fB (f2 oIs2 (fVar 0) (fC .non)))) (sRet (fAndV (f2 oIs2 (fVar 1) (fC .non)) (f2 oIs2 (fVar 0) (fC .non)))) (sNx)) (sSeq (sIf (fOr (fB (fIs ["bool"] (fVar 1))) (fB (fIs ["bool"] (fVar 0)))) (sRet (fAndV (fIs ["bool"] (fVar 1)) (fAndV (fIs ["bool"] (fVar 0)) (f2 oEq (fVar 0) (fVar 1))))) (sNx)) (sSeq (sIf (fOr (fB (fIs ["list", "tuple"] (fVar 1))) (fB (fIs ["list", "tuple"] (fVar 0)))) (sSeq (sIf (fOr (fB (f2 oNe (fIs ["list"] (fVar 1)) (fIs ["list"] (fVar 0)))) (fB (f2 oNe (fIs ["tuple"] (fVar 1)) (fIs ["tuple"] (fVar 0))))) (sRet (fC (.bl false))) (sNx)) (sRet (fAndV (f2 oEq (fCB oLen (fCons (fVar 0) (fNil))) (fCB oLen (fCons (fVar 1) (fNil)))) (fCB oAll (fCons (fLc (fZip (fCons (fVar 0) (fCons (fVar 1) (fNil)))) (gT (gsCons (gN 2) (gsCons (gN 3) (gsNil)))) (fYes) (fCallN 2 Fr (fCons (fVar 2) (fCons (fVar 3) (fNil)))) [2, 3]) (fNil)))))) (sNx)) (sSeq (sIf (fOr (fB (f2 oNe (fIs ["int"] (fVar 1)) (fIs ["int"] (fVar 0)))) (fB (f2 oNe (fIs ["str"] (fVar 1)) (fIs ["str"] (fVar 0))))) (sRet (fC (.bl false))) (sNx)) (sRet (f2 oEq (fVar 0) (fVar 1))))))
def F_law_same : Nat → Sls → Mir → Rs D
  | 0 => fun _ _ => .bad
  | n + 1 => runF 4 (g_law_same (F_law_same n))
theorem fd_law_same (T : Txt P K w mg cn) : ∀ n, Fd P w K mg base "_law_same" ["_law_found", "_law_due"] (1 + n) (spD (gx K (c0 cn)) 2 (F_law_same n))
  | 0 => Df.bad T.d_law_same sc_law_same
  | n + 1 => by
    have Dr := fd_law_same T n
    have hnd := sc_law_same.nd
    refine Df.fd (N := ["_law_found", "_law_due", "_law_a", "_law_b"]) T.d_law_same sc_law_same fun f cdv A outer s H E hr => ?_
    unfold g_law_same
    exact ds_cons (ds_if (dt_w (dw_or (dt_cmp cm_is (de_var 1) (de_non)) (dw_or1 (dt_cmp cm_is (de_var 0) (de_non))))) (ds_last (ds_ret (de_and (de_cmp cm_is (de_var 1) (de_non)) (de_one (de_cmp cm_is (de_var 0) (de_non)))))) (ds_nil)) (ds_cons (ds_if (dt_w (dw_or (dt_val (de_isi rfl T.b_isinstance (by decide +kernel) rfl T.b_bool (by decide +kernel) (by decide +kernel) (de_var 1))) (dw_or1 (dt_val (de_isi rfl T.b_isinstance (by decide +kernel) rfl T.b_bool (by decide +kernel) (by decide +kernel) (de_var 0)))))) (ds_last (ds_ret (de_and (de_isi rfl T.b_isinstance (by decide +kernel) rfl T.b_bool (by decide +kernel) (by decide +kernel) (de_var 1)) (de_and (de_isi rfl T.b_isinstance (by decide +kernel) rfl T.b_bool (by decide +kernel) (by decide +kernel) (de_var 0)) (de_one (de_cmp (cm_eq hr) (de_var 0) (de_var 1))))))) (ds_nil)) (ds_cons (ds_if (dt_w (dw_or (dt_val (de_isi2 rfl T.b_isinstance (by decide +kernel) rfl T.b_list (by decide +kernel) (by decide +kernel) rfl T.b_tuple (by decide +kernel) (by decide +kernel) (de_var 1))) (dw_or1 (dt_val (de_isi2 rfl T.b_isinstance (by decide +kernel) rfl T.b_list (by decide +kernel) (by decide +kernel) rfl T.b_tuple (by decide +kernel) (by decide +kernel) (de_var 0)))))) (ds_cons (ds_if (dt_w (dw_or (dt_cmp (cm_ne hr) (de_isi rfl T.b_isinstance (by decide +kernel) rfl T.b_list (by decide +kernel) (by decide +kernel) (de_var 1)) (de_isi rfl T.b_isinstance (by decide +kernel) rfl T.b_list (by decide +kernel) (by decide +kernel) (de_var 0))) (dw_or1 (dt_cmp (cm_ne hr) (de_isi rfl T.b_isinstance (by decide +kernel) rfl T.b_tuple (by decide +kernel) (by decide +kernel) (de_var 1)) (de_isi rfl T.b_isinstance (by decide +kernel) rfl T.b_tuple (by decide +kernel) (by decide +kernel) (de_var 0)))))) (ds_last (ds_ret (de_bl))) (ds_nil)) (ds_last (ds_ret (de_and (de_cmp (cm_eq hr) (de_bi bf_len rfl T.b_len (by decide +kernel) (da_cons (de_var 0) (da_nil))) (de_bi bf_len rfl T.b_len (by decide +kernel) (da_cons (de_var 1) (da_nil)))) (de_one (de_bi (bf_all rfl) rfl T.b_all (by decide +kernel) (da_cons (de_lc [("_law_a", 2), ("_law_b", 3)] hnd (di_zip rfl T.b_zip (da_cons (de_var 0) (da_cons (de_var 1) (da_nil)))) (pyLen_ok (gsCons_len (gsCons_len (gsNil_len))) (tgs_cons tg_name (tgs_cons tg_name (tgs_nil)))) (fun _ _ _ _ _ => pg_tup rfl (pgs_cons (pg_name (i := 2) hnd rfl (by first | exact Or.inl rfl | exact Or.inr rfl)) (pgs_cons (pg_name (i := 3) hnd rfl (by first | exact Or.inl rfl | exact Or.inr rfl)) (pgs_nil)))) (fun _ _ _ _ _ => dts_nil) (fun _ _ _ _ _ => de_fn Dr hr (pas_of passN) (da_cons (de_var 2) (da_cons (de_var 3) (da_nil))))) (da_nil)))))))) (ds_nil)) (ds_cons (ds_if (dt_w (dw_or (dt_cmp (cm_ne hr) (de_isi rfl T.b_isinstance (by decide +kernel) rfl T.b_int (by decide +kernel) (by decide +kernel) (de_var 1)) (de_isi rfl T.b_isinstance (by decide +kernel) rfl T.b_int (by decide +kernel) (by decide +kernel) (de_var 0))) (dw_or1 (dt_cmp (cm_ne hr) (de_isi rfl T.b_isinstance (by decide +kernel) rfl T.b_str (by decide +kernel) (by decide +kernel) (de_var 1)) (de_isi rfl T.b_isinstance (by decide +kernel) rfl T.b_str (by decide +kernel) (by decide +kernel) (de_var 0)))))) (ds_last (ds_ret (de_bl))) (ds_nil)) (ds_last (ds_ret (de_cmp (cm_eq hr) (de_var 0) (de_var 1)))))))
theorem sc_law_place : FnScope ["_law_one"] ["_law_one"] (defScope (top 42)) := ⟨rfl, rfl, rfl, by decide +kernel, rfl, by decide +kernel, by decide +kernel⟩
theorem fd_law_place (T : Txt P K w mg cn) : Fx P w K mg base "_law_place" 1 placeN := by
  refine Df.fx (N := ["_law_one"]) T.d_law_place sc_law_place (fun _ => rfl) fun Z a oe cls d fs t f cdv A outer s H hZ hot hc hz hr => ?_
  subst hZ
  exact (show PSs _ _ (tFd _ a cls d 0 fs t (placeN t)) from fd_if (ps_tagIf (pt_tag (fc := cn) cm_eqT (pe_ha hot hz rfl (Or.inl rfl) rfl rfl rfl) de_str (fun _ _ => rfl) (fun _ => rfl) rfl rfl) (pe_ha hot hz rfl (Or.inl rfl) rfl rfl rfl)) (fd_if (ps_tagIf (pt_tag (fc := cn) cm_eqT (pe_ha hot hz rfl (Or.inl rfl) rfl rfl rfl) de_str (fun _ _ => rfl) (fun _ => rfl) rfl rfl) (pe_ha hot hz rfl (Or.inl rfl) rfl rfl rfl)) (fd_ret (fe_ifx (pt_tag (fc := cn) cm_eqT (pe_ha hot hz rfl (Or.inl rfl) rfl rfl rfl) de_str (fun _ _ => rfl) (fun _ => rfl) rfl rfl) (pe_ha hot hz rfl (Or.inl rfl) rfl rfl rfl)))))
theorem sc_law_joined : FnScope ["_law_one", "_law_other"] ["_law_one", "_law_other"] (defScope (top 44)) := ⟨rfl, rfl, rfl, by decide +kernel, rfl, by decide +kernel, by decide +kernel⟩
def g_law_joined : Fs :=
  sRet (fIf (fB (f2 oGt (fS2 oIndex (fC (.str "eusdawx")) (fVar 0)) (fS2 oIndex (fC (.str "eusdawx")) (fVar 1)))) (fVar 0) (fVar 1))
def F_law_joined : Sls → Mir → Rs D := runF 2 g_law_joined
theorem fd_law_joined (T : Txt P K w mg cn) : Fd P w K mg base "_law_joined" ["_law_one", "_law_other"] 1 (spD (gx K (c0 cn)) 2 F_law_joined) := by
  have hnd := sc_law_joined.nd
  refine Df.fd (N := ["_law_one", "_law_other"]) T.d_law_joined sc_law_joined fun f cdv A outer s H E hr => ?_
  unfold g_law_joined
  exact ds_last (ds_ret (de_if (dt_cmp cm_gt (de_index (de_str) (de_var 0)) (de_index (de_str) (de_var 1))) (de_var 0) (de_var 1)))
theorem sc_law_best : FnScope ["_law_some", "_law_found", "_law_value"] ["_law_some"] (defScope (top 45)) := ⟨rfl, rfl, rfl, by decide +kernel, rfl, by decide +kernel, by decide +kernel⟩
def b_law_best_1 : Fs :=
  sIf (fB (f2 oLt (fS2 oIndex (fC (.str "aseudwx")) (fVar 2)) (fS2 oIndex (fC (.str "aseudwx")) (fVar 1)))) (sSet 1 (fVar 2)) (sNx)
def g_law_best : Fs :=
  sSeq (sSet 1 (fC (.str "x"))) (sSeq (sFor (fSeq (fVar 0)) (gN 2) (b_law_best_1)) (sRet (fVar 1)))
def F_law_best : Sls → Mir → Rs D := runF 3 g_law_best
theorem fd_law_best (T : Txt P K w mg cn) : Fd P w K mg base "_law_best" ["_law_some"] 1 (spD (gx K (c0 cn)) 1 F_law_best) := by
  have hnd := sc_law_best.nd
  refine Df.fd (N := ["_law_some", "_law_found", "_law_value"]) T.d_law_best sc_law_best fun f cdv A outer s H E hr => ?_
  unfold g_law_best
  exact ds_cons (ds_set 1 (de_str) hnd) (ds_cons (ds_for (di_seq (de_var 0)) (pg_name (i := 2) hnd rfl (by first | exact Or.inl rfl | exact Or.inr rfl)) (tg_name) (ds_last (ds_if (dt_cmp cm_lt (de_index (de_str) (de_var 2)) (de_index (de_str) (de_var 1))) (ds_last (ds_set 1 (de_var 2) hnd)) (ds_nil))) (passes_of rfl)) (ds_last (ds_ret (de_var 1))))
theorem sc_law_identity : FnScope ["_law_many", "_law_i", "_law_j"] ["_law_many"] (defScope (top 47)) := ⟨rfl, rfl, rfl, by decide +kernel, rfl, by decide +kernel, by decide +kernel⟩
def g_law_identity : Fs :=
  sRet (fLc (fRange1 (fCons (fVar 0) (fNil))) (gN 1) (fYes) (fS2 oJoin (fC (.str "")) (fLc (fRange1 (fCons (fVar 0) (fNil))) (gN 2) (fYes) (fIf (fB (f2 oEq (fVar 1) (fVar 2))) (fC (.str "e")) (fC (.str "x"))) [2])) [1])
def F_law_identity : Sls → Mir → Rs D := runF 3 g_law_identity
theorem fd_law_identity (T : Txt P K w mg cn) : Fd P w K mg base "_law_identity" ["_law_many"] 1 (spD (gx K (c0 cn)) 1 F_law_identity) := by
  have hnd := sc_law_identity.nd
  refine Df.fd (N := ["_law_many", "_law_i", "_law_j"]) T.d_law_identity sc_law_identity fun f cdv A outer s H E hr => ?_
  unfold g_law_identity
  exact ds_last (ds_ret (de_lc [("_law_i", 1)] hnd (di_range1 rfl T.b_range (da_cons (de_var 0) (da_nil))) (tg_name) (fun _ _ _ _ _ => pg_name (i := 1) hnd rfl (by first | exact Or.inl rfl | exact Or.inr rfl)) (fun _ _ _ _ _ => dts_nil) (fun _ _ _ _ _ => de_join (de_str) (de_lc [("_law_j", 2)] hnd (di_range1 rfl T.b_range (da_cons (de_var 0) (da_nil))) (tg_name) (fun _ _ _ _ _ => pg_name (i := 2) hnd rfl (by first | exact Or.inl rfl | exact Or.inr rfl)) (fun _ _ _ _ _ => dts_nil) (fun _ _ _ _ _ => de_if (dt_cmp (cm_eq hr) (de_var 1) (de_var 2)) (de_str) (de_str))))))
theorem sc_Table_places : FnScope ["self"] ["self"] (defScope (inClass (top 35) 3)) := ⟨rfl, rfl, rfl, by decide +kernel, rfl, by decide +kernel, by decide +kernel⟩
def g_Table_places : Fs :=
  sRet (fCB oLen (fCons (f1 (oFld ["Table"] "grades") (fVar 0)) (fNil)))
def F_Table_places : Sls → Mir → Rs D := runF 1 g_Table_places
theorem fd_Table_places (T : Txt P K w mg cn) : Pd P w K mg base (cn "Table") "places" 1 (spD (gx K (c0 cn)) 1 F_Table_places) := by
  have hnd := sc_Table_places.nd
  refine Dp.pd (N := ["self"]) T.d_Table_places sc_Table_places fun f cdv A outer s H E hr => ?_
  unfold g_Table_places
  exact ds_last (ds_ret (de_bi bf_len rfl T.b_len (by decide +kernel) (da_cons (de_fld T.f_grades (de_var 0)) (da_nil))))
theorem sc_Table___eq : FnScope ["self", "other"] ["self", "other"] (defScope (inClass (top 35) 10)) := ⟨rfl, rfl, rfl, by decide +kernel, rfl, by decide +kernel, by decide +kernel⟩
def g_Table___eq : Fs :=
  sRet (fAndV (fIsC "Table" (fVar 1)) (f2 oEq (f1 (oFld ["Table"] "grades") (fVar 0)) (f1 (oFld ["Table"] "grades") (fVar 1))))
def F_Table___eq : Sls → Mir → Rs D := runF 2 g_Table___eq
theorem fd_Table___eq (T : Txt P K w mg cn) : Md P w K mg base (cn "Table") "__eq__" ["self", "other"] 1 (spD (gx K (c0 cn)) 2 F_Table___eq) := by
  have hnd := sc_Table___eq.nd
  refine Dm.md (N := ["self", "other"]) T.d_Table___eq sc_Table___eq fun f cdv A outer s H E hr => ?_
  unfold g_Table___eq
  exact ds_last (ds_ret (de_and (de_isC T.i_Table rfl T.b_isinstance (by decide +kernel) rfl T.m_Table (de_var 1)) (de_one (de_cmp (cm_eq hr) (de_fld T.f_grades (de_var 0)) (de_fld T.f_grades (de_var 1))))))
theorem sc_law_bag : FnScope ["_law_script"] ["_law_script"] (defScope (top 40)) := ⟨rfl, rfl, rfl, by decide +kernel, rfl, by decide +kernel, by decide +kernel⟩
theorem fd_law_bag (T : Txt P K w mg cn) : Fd P w K mg base "_law_bag" ["_law_script"] 1 (spBag K) :=
  Df.raw T.d_law_bag sc_law_bag bag_len fun f cdv A outer s H vs Q E hr h => ⟨_, pss_one (ps_ret (pe_lst (pa_cons (pe_callTy call_list_of (by rfl) T.b_list boot_list (pa_cons (pe_slice sl_list (pv 0) po_none (po_some pe_int)) pa_nil)) (pa_cons pe_int (pa_cons pe_int (pa_cons pe_int pa_nil)))))), bag_read h⟩
theorem sc_is_within : FnScope ["value", "low", "high"] ["value", "low", "high"] (defScope (top 17)) := ⟨rfl, rfl, rfl, by decide +kernel, rfl, by decide +kernel, by decide +kernel⟩
def g_is_within : Fs :=
  sRet (fAndV (fCallN 1 F_is_integer (fCons (fVar 0) (fNil))) (fChain oLe oLe (fVar 1) (fVar 0) (fVar 2)))
def F_is_within : Sls → Mir → Rs D := runF 3 g_is_within
theorem fd_is_within (T : Txt P K w mg cn) : Fd P w K mg base "is_within" ["value", "low", "high"] 2 (spD (gx K (c0 cn)) 3 F_is_within) := by
  have hnd := sc_is_within.nd
  have D_is_integer := fd_is_integer (P := P) (base := base) T
  refine Df.fd (N := ["value", "low", "high"]) T.d_is_within sc_is_within fun f cdv A outer s H E hr => ?_
  unfold g_is_within
  exact ds_last (ds_ret (de_and (de_fn D_is_integer (hr.mono (by decide)) (pas_of (L2N.passes_call (L2N.takes_of rfl rfl rfl rfl) fun _ _ _ _ h => h)) (da_cons (de_var 0) (da_nil))) (de_one (de_chain cm_le cm_le (de_var 1) (de_var 0) (de_var 2)))))
theorem sc_Table___bool : FnScope ["self"] ["self"] (defScope (inClass (top 35) 11)) := ⟨rfl, rfl, rfl, by decide +kernel, rfl, by decide +kernel, by decide +kernel⟩
def g_Table___bool : Fs :=
  sRet (fCB oBool (fCons (f2 oEq (fCallN 2 F_product_of (fCons (f1 (oFld ["Table"] "grades") (fVar 0)) (fCons (f1 (oFld ["Table"] "grades") (fVar 0)) (fNil)))) (f1 (oFld ["Table"] "grades") (fVar 0))) (fNil)))
def F_Table___bool : Sls → Mir → Rs D := runF 1 g_Table___bool
theorem fd_Table___bool (T : Txt P K w mg cn) : Md P w K mg base (cn "Table") "__bool__" ["self"] 2 (spD (gx K (c0 cn)) 1 F_Table___bool) := by
  have hnd := sc_Table___bool.nd
  have D_product_of := fd_product_of (P := P) (base := base) T
  refine Dm.md (N := ["self"]) T.d_Table___bool sc_Table___bool fun f cdv A outer s H E hr => ?_
  unfold g_Table___bool
  exact ds_last (ds_ret (de_ty bf_bool rfl T.b_bool (by decide +kernel) (da_cons (de_cmp (cm_eq hr) (de_fn D_product_of (hr.mono (by decide)) (pas_of (L2N.passes_call (L2N.takes_of rfl rfl rfl rfl) fun _ _ _ _ h => h)) (da_cons (de_fld T.f_grades (de_var 0)) (da_cons (de_fld T.f_grades (de_var 0)) (da_nil)))) (de_fld T.f_grades (de_var 0))) (da_nil))))
theorem sc_Table_rows : FnScope ["self"] ["self"] (defScope (inClass (top 35) 4)) := ⟨rfl, rfl, rfl, by decide +kernel, rfl, by decide +kernel, by decide +kernel⟩
def g_Table_rows : Fs :=
  sRet (fCallN 1 F_texts_of (fCons (f1 (oFld ["Table"] "grades") (fVar 0)) (fNil)))
def F_Table_rows : Sls → Mir → Rs D := runF 1 g_Table_rows
theorem fd_Table_rows (T : Txt P K w mg cn) : Md P w K mg base (cn "Table") "rows" ["self"] 2 (spD (gx K (c0 cn)) 1 F_Table_rows) := by
  have hnd := sc_Table_rows.nd
  have D_texts_of := fd_texts_of (P := P) (base := base) T
  refine Dm.md (N := ["self"]) T.d_Table_rows sc_Table_rows fun f cdv A outer s H E hr => ?_
  unfold g_Table_rows
  exact ds_last (ds_ret (de_fn D_texts_of (hr.mono (by decide)) (pas_of (L2N.passes_call (L2N.takes_of rfl rfl rfl rfl) fun _ _ _ _ h => h)) (da_cons (de_fld T.f_grades (de_var 0)) (da_nil))))
theorem sc_Table___repr : FnScope ["self", "text"] ["self"] (defScope (inClass (top 35) 12)) := ⟨rfl, rfl, rfl, by decide +kernel, rfl, by decide +kernel, by decide +kernel⟩
def g_Table___repr : Fs :=
  sSeq (sSet 1 (fS2 oJoin (fC (.str "/")) (fFrz (fCallN 1 F_texts_of (fCons (f1 (oFld ["Table"] "grades") (fVar 0)) (fNil)))))) (sRet (fJs [fC (.str "Table("), f1 fmtD (fVar 1), fC (.str ")")] Str.empty))
def F_Table___repr : Sls → Mir → Rs D := runF 2 g_Table___repr
theorem fd_Table___repr (T : Txt P K w mg cn) : Md P w K mg base (cn "Table") "__repr__" ["self"] 2 (spD (gx K (c0 cn)) 1 F_Table___repr) := by
  have hnd := sc_Table___repr.nd
  have D_texts_of := fd_texts_of (P := P) (base := base) T
  refine Dm.md (N := ["self", "text"]) T.d_Table___repr sc_Table___repr fun f cdv A outer s H E hr => ?_
  unfold g_Table___repr
  exact ds_cons (ds_set 1 (de_join (de_str) (de_frz (de_fn D_texts_of (hr.mono (by decide)) (pas_of (L2N.passes_call (L2N.takes_of rfl rfl rfl rfl) fun _ _ _ _ h => h)) (da_cons (de_fld T.f_grades (de_var 0)) (da_nil))))) hnd) (ds_last (ds_ret (de_joined (DJ.cons (de_str) (DJ.cons (de_fmt (de_var 1)) (DJ.cons (de_str) (DJ.nil)))))))
theorem sc_Table___init : FnScope ["self", "rows", "many", "row", "value"] ["self", "rows"] (defScope (inClass (top 35) 0)) := ⟨rfl, rfl, rfl, by decide +kernel, rfl, by decide +kernel, by decide +kernel⟩
def g_Table___init : Fs :=
  sSeq (sSet 2 (fCB oLen (fCons (fVar 1) (fNil)))) (sSeq (sIf (fOr (fNot (fB (fChain oLe oLe (fC (.int 1)) (fVar 2) (fC k_Map_PLACES)))) (fNot (fB (fCB oAll (fCons (fLc (fSeq (fVar 1)) (gN 3) (fYes) (fCallN 2 F_is_row (fCons (fVar 3) (fCons (fVar 2) (fNil)))) [3]) (fNil)))))) (sRaise0 "InvalidTable" "InvalidTable") (sNx)) (sFld ["Table"] "grades" (fVar 0) (fCB oTuple (fCons (fLc (fSeq (fVar 1)) (gN 3) (fYes) (fCB oTuple (fCons (fLc (fSeq (fVar 3)) (gN 4) (fYes) (fTab k_GRADE_OF (fVar 4)) [4]) (fNil))) [3]) (fNil)))))
def F_Table___init : Sls → Mir → Rs D := runF 5 g_Table___init
theorem fd_Table___init (T : Txt P K w mg cn) : Kd P w K mg base "Table" (cn "Table") ["self", "rows"] 3 (spD (gx K (c0 cn)) 2 F_Table___init) := by
  have hnd := sc_Table___init.nd
  have D_is_row := fd_is_row (P := P) (base := base) T
  have D_InvalidTable := err_InvalidTable (P := P) (w := w) (base := base) T
  refine Dk.kd (N := ["self", "rows", "many", "row", "value"]) T.d_Table___init sc_Table___init fun f cdv A outer s H E hr => ?_
  unfold g_Table___init
  exact ds_cons (ds_set 2 (de_bi bf_len rfl T.b_len (by decide +kernel) (da_cons (de_var 1) (da_nil))) hnd) (ds_cons (ds_if (dt_w (dw_or (dt_not (dt_chain cm_le cm_le (de_int) (de_var 2) (de_ccon T.v_Map_PLACES))) (dw_or1 (dt_not (dt_val (de_bi (bf_all rfl) rfl T.b_all (by decide +kernel) (da_cons (de_lc [("row", 3)] hnd (di_seq (de_var 1)) (tg_name) (fun _ _ _ _ _ => pg_name (i := 3) hnd rfl (by first | exact Or.inl rfl | exact Or.inr rfl)) (fun _ _ _ _ _ => dts_nil) (fun _ _ _ _ _ => de_fn D_is_row (hr.mono (by decide)) (pas_of passN) (da_cons (de_var 3) (da_cons (de_var 2) (da_nil))))) (da_nil)))))))) (ds_last (ds_raise0 D_InvalidTable (hr.mono (by decide)) (L2N.takes_of rfl rfl rfl rfl) passN)) (ds_nil)) (ds_last (ds_fld T.f_grades (de_var 0) (de_ty bf_tuple rfl T.b_tuple (by decide +kernel) (da_cons (de_lc [("row", 3)] hnd (di_seq (de_var 1)) (tg_name) (fun _ _ _ _ _ => pg_name (i := 3) hnd rfl (by first | exact Or.inl rfl | exact Or.inr rfl)) (fun _ _ _ _ _ => dts_nil) (fun _ _ _ _ _ => de_ty bf_tuple rfl T.b_tuple (by decide +kernel) (da_cons (de_lc [("value", 4)] hnd (di_seq (de_var 3)) (tg_name) (fun _ _ _ _ _ => pg_name (i := 4) hnd rfl (by first | exact Or.inl rfl | exact Or.inr rfl)) (fun _ _ _ _ _ => dts_nil) (fun _ _ _ _ _ => de_tabc T.c_GRADE_OF rfl (de_var 4))) (da_nil)))) (da_nil))))))
theorem sc_law_of : FnScope ["_law_bag_here", "_law_some"] ["_law_bag_here", "_law_some"] (defScope (top 38)) := ⟨rfl, rfl, rfl, by decide +kernel, rfl, by decide +kernel, by decide +kernel⟩
def g_law_of : Fs :=
  sRet (f2 oIx (fVar 1) (fCallN 2 F_law_pull (fCons (fVar 0) (fCons (fCB oLen (fCons (fVar 1) (fNil))) (fNil)))))
def F_law_of : Sls → Mir → Rs D := runF 2 g_law_of
theorem fd_law_of (T : Txt P K w mg cn) : Fd P w K mg base "_law_of" ["_law_bag_here", "_law_some"] 2 (spD (gx K (c0 cn)) 2 F_law_of) := by
  have hnd := sc_law_of.nd
  have D_law_pull := fd_law_pull (P := P) (base := base) T
  refine Df.fd (N := ["_law_bag_here", "_law_some"]) T.d_law_of sc_law_of fun f cdv A outer s H E hr => ?_
  unfold g_law_of
  exact ds_last (ds_ret (de_ix (de_var 1) (de_fn D_law_pull (hr.mono (by decide)) (pas_of (L2N.passes_call (L2N.takes_of rfl rfl rfl rfl) fun _ _ _ _ h => h)) (da_cons (de_var 0) (da_cons (de_bi bf_len rfl T.b_len (by decide +kernel) (da_cons (de_var 1) (da_nil))) (da_nil))))))
theorem sc_law_field : FnScope ["_law_one"] ["_law_one"] (defScope (top 41)) := ⟨rfl, rfl, rfl, by decide +kernel, rfl, by decide +kernel, by decide +kernel⟩
theorem fd_law_field (T : Txt P K w mg cn) : Fx P w K mg base "_law_field" 2 fieldN := by
  have D_law_place := fd_law_place (P := P) (w := w) (base := base) T
  refine Df.fx (N := ["_law_one"]) T.d_law_field sc_law_field (fun _ => rfl) fun Z a oe cls d fs t f cdv A outer s H hZ hot hc hz hr => ?_
  subst hZ
  exact (show PSs _ _ (tFd _ a cls d 0 fs t (fieldN t)) from fd_if (ps_tagIf (pt_tag (fc := cn) cm_in (pe_ha hot hz rfl (Or.inl rfl) rfl rfl rfl) (de_tup (da_cons de_str (da_cons de_str (da_cons de_str (da_cons de_str (da_cons de_str (da_nil))))))) (fun _ _ => rfl) (fun _ => rfl) rfl rfl) (pe_ha hot hz rfl (Or.inl rfl) rfl rfl rfl)) (fd_if (ps_tagIf (pt_tag (fc := cn) cm_in (pe_ha hot hz rfl (Or.inl rfl) rfl rfl rfl) (de_tup (da_cons de_str (da_cons de_str (da_cons de_str (da_nil))))) (fun _ _ => rfl) (fun _ => rfl) rfl rfl) (pe_ha hot hz rfl (Or.inl rfl) rfl rfl rfl)) (fd_if (ps_tagIf (pt_tag (fc := cn) cm_in (pe_ha hot hz rfl (Or.inl rfl) rfl rfl rfl) (de_tup (da_cons de_str (da_cons de_str (da_cons de_str (da_nil))))) (fun _ _ => rfl) (fun _ => rfl) rfl rfl) (pe_ha hot hz rfl (Or.inl rfl) rfl rfl rfl)) (fd_if (ps_tagIf (pt_tag (fc := cn) cm_in (pe_ha hot hz rfl (Or.inl rfl) rfl rfl rfl) (de_tup (da_cons de_str (da_cons de_str (da_nil)))) (fun _ _ => rfl) (fun _ => rfl) rfl rfl) (pe_ha hot hz rfl (Or.inl rfl) rfl rfl rfl)) (fd_if (ps_tagIf (pt_tag (fc := cn) cm_in (pe_ha hot hz rfl (Or.inl rfl) rfl rfl rfl) (de_tup (da_cons de_str (da_cons de_str (da_cons de_str (da_nil))))) (fun _ _ => rfl) (fun _ => rfl) rfl rfl) (pe_ha hot hz rfl (Or.inl rfl) rfl rfl rfl)) (fd_ret (pe_fx D_law_place hot hc hz hr rfl rfl (Or.inl rfl) rfl rfl rfl rfl rfl)))))))
theorem sc_law_times : FnScope ["_law_one", "_law_other", "_law_many", "_law_rows", "_law_i", "_law_row", "_law_j", "_law_k"] ["_law_one", "_law_other"] (defScope (top 46)) := ⟨rfl, rfl, rfl, by decide +kernel, rfl, by decide +kernel, by decide +kernel⟩
def b_law_times_1 : Fs :=
  sSet 5 (f2 oAdd (fVar 5) (fCallN 1 F_law_best (fCons (fLc (fRange1 (fCons (fVar 2) (fNil))) (gN 7) (fYes) (fCallN 2 F_law_joined (fCons (f2 oIx (f2 oIx (fVar 0) (fVar 4)) (fVar 7)) (fCons (f2 oIx (f2 oIx (fVar 1) (fVar 7)) (fVar 6)) (fNil)))) [7]) (fNil))))
def b_law_times_2 : Fs :=
  sSeq (sSet 5 (fC (.str ""))) (sSeq (sFor (fRange1 (fCons (fVar 2) (fNil))) (gN 6) (b_law_times_1)) (sDrop (fApp (fVar 3) (fVar 5))))
def g_law_times : Fs :=
  sSeq (sSet 2 (fCB oLen (fCons (fVar 0) (fNil)))) (sSeq (sSet 3 (fNewL (fNil))) (sSeq (sFor (fRange1 (fCons (fVar 2) (fNil))) (gN 4) (b_law_times_2)) (sRet (fFrz (fVar 3)))))
def F_law_times : Sls → Mir → Rs D := runF 8 g_law_times
theorem fd_law_times (T : Txt P K w mg cn) : Fd P w K mg base "_law_times" ["_law_one", "_law_other"] 2 (spD (gx K (c0 cn)) 2 F_law_times) := by
  have hnd := sc_law_times.nd
  have D_law_best := fd_law_best (P := P) (base := base) T
  have D_law_joined := fd_law_joined (P := P) (base := base) T
  refine Df.fd (N := ["_law_one", "_law_other", "_law_many", "_law_rows", "_law_i", "_law_row", "_law_j", "_law_k"]) T.d_law_times sc_law_times fun f cdv A outer s H E hr => ?_
  unfold g_law_times
  exact ds_cons (ds_set 2 (de_bi bf_len rfl T.b_len (by decide +kernel) (da_cons (de_var 0) (da_nil))) hnd) (ds_cons (ds_set 3 (de_newL (da_nil)) hnd) (ds_cons (ds_for (di_range1 rfl T.b_range (da_cons (de_var 2) (da_nil))) (pg_name (i := 4) hnd rfl (by first | exact Or.inl rfl | exact Or.inr rfl)) (tg_name) (ds_cons (ds_set 5 (de_str) hnd) (ds_cons (ds_for (di_range1 rfl T.b_range (da_cons (de_var 2) (da_nil))) (pg_name (i := 6) hnd rfl (by first | exact Or.inl rfl | exact Or.inr rfl)) (tg_name) (ds_last (ds_set 5 (de_add (de_var 5) (de_fn D_law_best (hr.mono (by decide)) (pas_of (L2N.passes_call (L2N.takes_of rfl rfl rfl rfl) fun _ _ _ _ h => h)) (da_cons (de_lc [("_law_k", 7)] hnd (di_range1 rfl T.b_range (da_cons (de_var 2) (da_nil))) (tg_name) (fun _ _ _ _ _ => pg_name (i := 7) hnd rfl (by first | exact Or.inl rfl | exact Or.inr rfl)) (fun _ _ _ _ _ => dts_nil) (fun _ _ _ _ _ => de_fn D_law_joined (hr.mono (by decide)) (pas_of passN) (da_cons (de_ix (de_ix (de_var 0) (de_var 4)) (de_var 7)) (da_cons (de_ix (de_ix (de_var 1) (de_var 7)) (de_var 6)) (da_nil))))) (da_nil)))) hnd)) (passes_of rfl)) (ds_last (ds_expr (de_app (de_var 3) (de_var 5)))))) (passes_of rfl)) (ds_last (ds_ret (de_frz (de_var 3))))))
theorem sc_Table_value : FnScope ["self", "origin", "goal", "place"] ["self", "origin", "goal"] (defScope (inClass (top 35) 5)) := ⟨rfl, rfl, rfl, by decide +kernel, rfl, by decide +kernel, by decide +kernel⟩
def b_Table_value_1 : Fs :=
  sIf (fNot (fB (fCallN 3 F_is_within (fCons (fVar 3) (fCons (fC (.int 0)) (fCons (f2 oSub (fCB oLen (fCons (f1 (oFld ["Table"] "grades") (fVar 0)) (fNil))) (fC (.int 1))) (fNil))))))) (sRaise1 "InvalidNumber" "InvalidNumber" "given" (fCons (fVar 3) (fNil))) (sNx)
def g_Table_value : Fs :=
  sSeq (sFor (fSeq (fTup (fCons (fVar 1) (fCons (fVar 2) (fNil))))) (gN 3) (b_Table_value_1)) (sRet (f2 oIx (fC k_GRADES) (f2 oIx (f2 oIx (f1 (oFld ["Table"] "grades") (fVar 0)) (fVar 1)) (fVar 2))))
def F_Table_value : Sls → Mir → Rs D := runF 4 g_Table_value
theorem bo_Table_value (T : Txt P K w mg cn) : BodyOk P w K mg base cn 2 ["self", "origin", "goal", "place"] "Table.value" (inClass (top 35) 5) g_Table_value := by
  have hnd := sc_Table_value.nd
  have D_is_within := fd_is_within (P := P) (base := base) T
  have D_InvalidNumber := err_InvalidNumber (P := P) (w := w) (base := base) T
  intro f cdv A outer s H E hr
  unfold g_Table_value
  exact ds_cons (ds_for (di_seq (de_tup (da_cons (de_var 1) (da_cons (de_var 2) (da_nil))))) (pg_name (i := 3) hnd rfl (by first | exact Or.inl rfl | exact Or.inr rfl)) (tg_name) (ds_last (ds_if (dt_not (dt_val (de_fn D_is_within (hr.mono (by decide)) (pas_of (L2N.passes_call (L2N.takes_of rfl rfl rfl rfl) fun _ _ _ _ h => h)) (da_cons (de_var 3) (da_cons (de_int) (da_cons (de_sub (de_bi bf_len rfl T.b_len (by decide +kernel) (da_cons (de_fld T.f_grades (de_var 0)) (da_nil))) (de_int)) (da_nil))))))) (ds_last (ds_raise1 D_InvalidNumber (hr.mono (by decide)) (L2N.takes_of rfl rfl rfl rfl) passN (da_cons (de_var 3) (da_nil)))) (ds_nil))) (passes_of rfl)) (ds_last (ds_ret (de_ix (de_gc T.c_GRADES rfl) (de_ix (de_ix (de_fld T.f_grades (de_var 0)) (de_var 1)) (de_var 2)))))
theorem fd_Table_value (T : Txt P K w mg cn) : Md P w K mg base (cn "Table") "value" ["self", "origin", "goal"] 3 (spD (gx K (c0 cn)) 3 F_Table_value) := Dm.md (N := ["self", "origin", "goal", "place"]) T.d_Table_value sc_Table_value (bo_Table_value T)
theorem fDK_Table_value_1 (T : Txt P K w mg cn) : MdK P w K mg base (cn "Table") "value" ["self", "origin", "goal"] ["goal", "origin"] [1, 0] 3 (spD (gx K (c0 cn)) 3 F_Table_value) := Dm.mdk (N := ["self", "origin", "goal", "place"]) T.d_Table_value sc_Table_value (bo_Table_value T) [1, 0] fun _ _ _ _ _ _ us ws hu hl => match us, ws, hu, hl with | [_], [_, _], _, _ => rfl
theorem sc_Table_identity : FnScope ["places"] ["places"] (defScope (inClass (top 35) 1)) := ⟨rfl, rfl, rfl, by decide +kernel, rfl, by decide +kernel, by decide +kernel⟩
def g_Table_identity : Fs :=
  sSeq (sIf (fNot (fB (fCallN 3 F_is_within (fCons (fVar 0) (fCons (fC (.int 1)) (fCons (fC k_Map_PLACES) (fNil))))))) (sRaise1 "InvalidNumber" "InvalidNumber" "given" (fCons (fVar 0) (fNil))) (sNx)) (sRet (fFrz (fMake "Table" 2 F_Table___init (fCons (fFrz (fCallN 1 F_texts_of (fCons (fCallN 1 F_identity_rows (fCons (fVar 0) (fNil))) (fNil)))) (fNil)))))
def F_Table_identity : Sls → Mir → Rs D := runF 1 g_Table_identity
theorem bo_Table_identity (T : Txt P K w mg cn) : BodyOk P w K mg base cn 4 ["places"] "Table.identity" (inClass (top 35) 1) g_Table_identity := by
  have hnd := sc_Table_identity.nd
  have D_Table___init := fd_Table___init (P := P) (base := base) T
  have D_texts_of := fd_texts_of (P := P) (base := base) T
  have D_identity_rows := fd_identity_rows (P := P) (base := base) T
  have D_is_within := fd_is_within (P := P) (base := base) T
  have D_InvalidNumber := err_InvalidNumber (P := P) (w := w) (base := base) T
  intro f cdv A outer s H E hr
  unfold g_Table_identity
  exact ds_cons (ds_if (dt_not (dt_val (de_fn D_is_within (hr.mono (by decide)) (pas_of (L2N.passes_call (L2N.takes_of rfl rfl rfl rfl) fun _ _ _ _ h => h)) (da_cons (de_var 0) (da_cons (de_int) (da_cons (de_ccon T.v_Map_PLACES) (da_nil))))))) (ds_last (ds_raise1 D_InvalidNumber (hr.mono (by decide)) (L2N.takes_of rfl rfl rfl rfl) passN (da_cons (de_var 0) (da_nil)))) (ds_nil)) (ds_last (ds_ret (de_frz (de_make D_Table___init (hr.mono (by decide)) (pasC_of (L2N.passes_call (L2N.takes_of rfl rfl rfl rfl) fun _ _ _ _ h => h)) (da_cons (de_frz (de_fn D_texts_of (hr.mono (by decide)) (pas_of (L2N.passes_call (L2N.takes_of rfl rfl rfl rfl) fun _ _ _ _ h => h)) (da_cons (de_fn D_identity_rows (hr.mono (by decide)) (pas_of (L2N.passes_call (L2N.takes_of rfl rfl rfl rfl) fun _ _ _ _ h => h)) (da_cons (de_var 0) (da_nil))) (da_nil)))) (da_nil))))))
theorem fd_Table_identity (T : Txt P K w mg cn) : Sd P w K mg base "Table" (cn "Table") "identity" ["places"] 5 (spD (gx K (c0 cn)) 1 F_Table_identity) := Ds.sd (N := ["places"]) T.d_Table_identity sc_Table_identity (bo_Table_identity T)
theorem fDK_Table_identity_0 (T : Txt P K w mg cn) : SdK P w K mg base "Table" (cn "Table") "identity" ["places"] ["places"] [0] 5 (spD (gx K (c0 cn)) 1 F_Table_identity) := Ds.sdk (N := ["places"]) T.d_Table_identity sc_Table_identity (bo_Table_identity T) [0] fun _ _ _ _ _ _ us ws hu hl => match us, ws, hu, hl with | [], [_], _, _ => rfl
theorem sc_law_drawn_rows : FnScope ["_law_bag_here", "_law_many", "_law_values", "_law_i", "_law_j"] ["_law_bag_here", "_law_many"] (defScope (top 48)) := ⟨rfl, rfl, rfl, by decide +kernel, rfl, by decide +kernel, by decide +kernel⟩
def g_law_drawn_rows : Fs :=
  sSeq (sSet 2 (fCallN 2 F_law_of (fCons (fVar 0) (fCons (fLst (fCons (fC (.str "aseudwx")) (fCons (fC (.str "xeu")) (fCons (fC (.str "xxsud")) (fCons (fC (.str "xea")) (fCons (fC (.str "xuw")) (fNil))))))) (fNil))))) (sRet (fLc (fRange1 (fCons (fVar 1) (fNil))) (gN 3) (fYes) (fS2 oJoin (fC (.str "")) (fLc (fRange1 (fCons (fVar 1) (fNil))) (gN 4) (fYes) (fCallN 2 F_law_of (fCons (fVar 0) (fCons (fVar 2) (fNil)))) [4])) [3]))
def F_law_drawn_rows : Sls → Mir → Rs D := runF 5 g_law_drawn_rows
theorem fd_law_drawn_rows (T : Txt P K w mg cn) : Fd P w K mg base "_law_drawn_rows" ["_law_bag_here", "_law_many"] 3 (spD (gx K (c0 cn)) 2 F_law_drawn_rows) := by
  have hnd := sc_law_drawn_rows.nd
  have D_law_of := fd_law_of (P := P) (base := base) T
  refine Df.fd (N := ["_law_bag_here", "_law_many", "_law_values", "_law_i", "_law_j"]) T.d_law_drawn_rows sc_law_drawn_rows fun f cdv A outer s H E hr => ?_
  unfold g_law_drawn_rows
  exact ds_cons (ds_set 2 (de_fn D_law_of (hr.mono (by decide)) (pas_of (L2N.passes_call (L2N.takes_of rfl rfl rfl rfl) fun _ _ _ _ h => h)) (da_cons (de_var 0) (da_cons (de_lst (da_cons (de_str) (da_cons (de_str) (da_cons (de_str) (da_cons (de_str) (da_cons (de_str) (da_nil))))))) (da_nil)))) hnd) (ds_last (ds_ret (de_lc [("_law_i", 3)] hnd (di_range1 rfl T.b_range (da_cons (de_var 1) (da_nil))) (tg_name) (fun _ _ _ _ _ => pg_name (i := 3) hnd rfl (by first | exact Or.inl rfl | exact Or.inr rfl)) (fun _ _ _ _ _ => dts_nil) (fun _ _ _ _ _ => de_join (de_str) (de_lc [("_law_j", 4)] hnd (di_range1 rfl T.b_range (da_cons (de_var 1) (da_nil))) (tg_name) (fun _ _ _ _ _ => pg_name (i := 4) hnd rfl (by first | exact Or.inl rfl | exact Or.inr rfl)) (fun _ _ _ _ _ => dts_nil) (fun _ _ _ _ _ => de_fn D_law_of (hr.mono (by decide)) (pas_of passN) (da_cons (de_var 0) (da_cons (de_var 2) (da_nil)))))))))
theorem sc_law_why : FnScope ["_law_ask", "e"] ["_law_ask"] (defScope (top 43)) := ⟨rfl, rfl, rfl, by decide +kernel, rfl, by decide +kernel, by decide +kernel⟩
theorem fd_law_why (T : Txt P K w mg cn) : LamFn P w K mg base cn "_law_why" 4 (whyR errs flds fieldN) := by
  have D_law_field := fd_law_field (P := P) (w := w) (base := base) T
  refine Df.why (k := 2) T.d_law_why ⟨sc_law_why, Or.inl rfl, rfl, rfl, rfl, rfl, rfl, rfl, T.m_DryError, T.m_Missing, T.m_NothingLeft, rfl, rfl, rfl, fun f cdv A outer s H Z hZ hr => ?_, fun _ => ⟨rfl, rfl⟩, fun _ => rfl⟩ T.erf rfl (fun _ => rfl) (fun _ => rfl) fun _ => rfl
  subst hZ
  exact ⟨fun a oe pn cls d fs t hot hz hc => ⟨pe_ha hot hz rfl (Or.inl rfl) rfl rfl rfl, pe_fx D_law_field hot hc hz ⟨hr.dp, hr.un⟩ rfl rfl (Or.inl rfl) rfl rfl rfl rfl rfl⟩⟩
theorem sc_law_table_refused : FnScope ["_law_bag_here", "_law_table", "_law_rows_here", "_law_many", "_law_far", "_law_size", "_law_asks", "_law_due", "_law_at", "_law_odd", "_law_each", "_law_ask"] ["_law_bag_here", "_law_table", "_law_rows_here"] (defScope (top 49)) := ⟨rfl, rfl, rfl, by decide +kernel, rfl, by decide +kernel, by decide +kernel⟩
def kk_law_table_refused : Nat := 7
def lam_law_table_refused_0 : LamT := lamOf [] ["_law_each"] [] (walkN (.s (top 49)) [7, 1, 0, 0, 1])
def lb_law_table_refused_0 : LamD := ⟨[10], [], fFrz (fMake "Table" 2 F_Table___init (fCons (fVar 0) (fNil)))⟩
theorem caps_law_table_refused_0 : capsB ["_law_bag_here", "_law_table", "_law_rows_here", "_law_many", "_law_far", "_law_size", "_law_asks", "_law_due", "_law_at", "_law_odd", "_law_each", "_law_ask"] (defScope (top 49)) lam_law_table_refused_0 [10] = true := by decide +kernel
theorem lamb_law_table_refused_0 : LamB lam_law_table_refused_0 := ⟨NdefX.nscope_by (by decide +kernel), rfl, fun _ _ _ _ _ _ => rfl, fun h => absurd rfl h⟩
def lam_law_table_refused_1 : LamT := lamOf ["_law_b"] ["_law_size"] [.int 0] (walkN (.s (top 49)) [2, 0, 2])
def lb_law_table_refused_1 : LamD := ⟨[5], [.int 0], fCallN 1 F_Table_identity (fCons (fVar 1) (fNil))⟩
theorem caps_law_table_refused_1 : capsB ["_law_bag_here", "_law_table", "_law_rows_here", "_law_many", "_law_far", "_law_size", "_law_asks", "_law_due", "_law_at", "_law_odd", "_law_each", "_law_ask"] (defScope (top 49)) lam_law_table_refused_1 [5] = true := by decide +kernel
theorem lamb_law_table_refused_1 : LamB lam_law_table_refused_1 := ⟨NdefX.nscope_by (by decide +kernel), rfl, (fun h => nomatch h), fun _ q cl T pm cdv ctv its hl => match its, hl with | [_], _ => ⟨_, rfl, rfl⟩⟩
def lam_law_table_refused_2 : LamT := lamOf ["_law_a"] ["_law_far", "_law_table"] [.int 0] (walkN (.s (top 49)) [2, 0, 1])
def lb_law_table_refused_2 : LamD := ⟨[4, 1], [.int 0], fMth "Table" "value" 3 F_Table_value (fVar 2) (fCons (fVar 1) (fCons (f1 oNeg (fC (.int 3))) (fNil)))⟩
theorem caps_law_table_refused_2 : capsB ["_law_bag_here", "_law_table", "_law_rows_here", "_law_many", "_law_far", "_law_size", "_law_asks", "_law_due", "_law_at", "_law_odd", "_law_each", "_law_ask"] (defScope (top 49)) lam_law_table_refused_2 [4, 1] = true := by decide +kernel
theorem lamb_law_table_refused_2 : LamB lam_law_table_refused_2 := ⟨NdefX.nscope_by (by decide +kernel), rfl, (fun h => nomatch h), fun _ q cl T pm cdv ctv its hl => match its, hl with | [_], _ => ⟨_, rfl, rfl⟩⟩
def lam_law_table_refused_3 : LamT := lamOf [] ["_law_far", "_law_table"] [] (walkN (.s (top 49)) [2, 0, 0])
def lb_law_table_refused_3 : LamD := ⟨[4, 1], [], fMth "Table" "value" 3 F_Table_value (fVar 1) (fCons (fC (.int 0)) (fCons (fVar 0) (fNil)))⟩
theorem caps_law_table_refused_3 : capsB ["_law_bag_here", "_law_table", "_law_rows_here", "_law_many", "_law_far", "_law_size", "_law_asks", "_law_due", "_law_at", "_law_odd", "_law_each", "_law_ask"] (defScope (top 49)) lam_law_table_refused_3 [4, 1] = true := by decide +kernel
theorem lamb_law_table_refused_3 : LamB lam_law_table_refused_3 := ⟨NdefX.nscope_by (by decide +kernel), rfl, fun _ _ _ _ _ _ => rfl, fun h => absurd rfl h⟩
def tx_law_table_refused : Nat → Option LamT
  | 0 => some lam_law_table_refused_0
  | 1 => some lam_law_table_refused_1
  | 2 => some lam_law_table_refused_2
  | 3 => some lam_law_table_refused_3
  | _ => none
def bs_law_table_refused : Nat → Option LamD
  | 0 => some lb_law_table_refused_0
  | 1 => some lb_law_table_refused_1
  | 2 => some lb_law_table_refused_2
  | 3 => some lb_law_table_refused_3
  | _ => none
theorem fit_law_table_refused_0 (T : Txt P K w mg cn) {X : Cx} (h1 : X.prog = P) (h2 : X.w = w) (hK : X.K = K) (hm : X.mg = mg) (hb : X.base = base) (hN : X.N = (["_law_bag_here", "_law_table", "_law_rows_here", "_law_many", "_law_far", "_law_size", "_law_asks", "_law_due", "_law_at", "_law_odd", "_law_each", "_law_ask"] : List Str)) (hs : X.env.scope = defScope (top 49)) : LamFit X cn tx_law_table_refused kk_law_table_refused 0 lb_law_table_refused_0 := by
  subst h1 h2 hK hm hb
  have D_Table___init := fd_Table___init (P := X.prog) (base := X.base) T
  refine ⟨lam_law_table_refused_0, rfl, lamb_law_table_refused_0, caps_by hN hs caps_law_table_refused_0, fun q cl f A outer s H c' E A' hr eA => ?_, fun π H => rfl⟩
  subst eA
  exact de_frz (de_make D_Table___init (hr.mono (by decide)) (pasC_of (L2N.passes_call (L2N.takes_of rfl rfl rfl rfl) fun _ _ _ _ h => h)) (da_cons (de_var 0) (da_nil)))
theorem fit_law_table_refused_1 (T : Txt P K w mg cn) {X : Cx} (h1 : X.prog = P) (h2 : X.w = w) (hK : X.K = K) (hm : X.mg = mg) (hb : X.base = base) (hN : X.N = (["_law_bag_here", "_law_table", "_law_rows_here", "_law_many", "_law_far", "_law_size", "_law_asks", "_law_due", "_law_at", "_law_odd", "_law_each", "_law_ask"] : List Str)) (hs : X.env.scope = defScope (top 49)) : LamFit X cn tx_law_table_refused kk_law_table_refused 1 lb_law_table_refused_1 := by
  subst h1 h2 hK hm hb
  have D_Table_identity := fd_Table_identity (P := X.prog) (base := X.base) T
  refine ⟨lam_law_table_refused_1, rfl, lamb_law_table_refused_1, caps_by hN hs caps_law_table_refused_1, fun q cl f A outer s H c' E A' hr eA => ?_, fun π H => RepAll.one rfl⟩
  subst eA
  exact de_smth D_Table_identity (hr.mono (by decide)) (pas_of (L2N.passes_call (L2N.takes_of rfl rfl rfl rfl) fun _ _ _ _ h => h)) (da_cons (de_var 1) (da_nil))
theorem fit_law_table_refused_2 (T : Txt P K w mg cn) {X : Cx} (h1 : X.prog = P) (h2 : X.w = w) (hK : X.K = K) (hm : X.mg = mg) (hb : X.base = base) (hN : X.N = (["_law_bag_here", "_law_table", "_law_rows_here", "_law_many", "_law_far", "_law_size", "_law_asks", "_law_due", "_law_at", "_law_odd", "_law_each", "_law_ask"] : List Str)) (hs : X.env.scope = defScope (top 49)) : LamFit X cn tx_law_table_refused kk_law_table_refused 2 lb_law_table_refused_2 := by
  subst h1 h2 hK hm hb
  have D_Table_value := fd_Table_value (P := X.prog) (base := X.base) T
  refine ⟨lam_law_table_refused_2, rfl, lamb_law_table_refused_2, caps_by hN hs caps_law_table_refused_2, fun q cl f A outer s H c' E A' hr eA => ?_, fun π H => RepAll.one rfl⟩
  subst eA
  exact de_mth D_Table_value T.c_Table (hr.mono (by decide)) (pas_of (L2N.passes_call (L2N.takes_of rfl rfl rfl rfl) fun _ _ _ _ h => h)) (de_var 2) (da_cons (de_var 1) (da_cons (de_neg (de_int)) (da_nil)))
theorem fit_law_table_refused_3 (T : Txt P K w mg cn) {X : Cx} (h1 : X.prog = P) (h2 : X.w = w) (hK : X.K = K) (hm : X.mg = mg) (hb : X.base = base) (hN : X.N = (["_law_bag_here", "_law_table", "_law_rows_here", "_law_many", "_law_far", "_law_size", "_law_asks", "_law_due", "_law_at", "_law_odd", "_law_each", "_law_ask"] : List Str)) (hs : X.env.scope = defScope (top 49)) : LamFit X cn tx_law_table_refused kk_law_table_refused 3 lb_law_table_refused_3 := by
  subst h1 h2 hK hm hb
  have D_Table_value := fd_Table_value (P := X.prog) (base := X.base) T
  refine ⟨lam_law_table_refused_3, rfl, lamb_law_table_refused_3, caps_by hN hs caps_law_table_refused_3, fun q cl f A outer s H c' E A' hr eA => ?_, fun π H => rfl⟩
  subst eA
  exact de_mth D_Table_value T.c_Table (hr.mono (by decide)) (pas_of (L2N.passes_call (L2N.takes_of rfl rfl rfl rfl) fun _ _ _ _ h => h)) (de_var 1) (da_cons (de_int) (da_cons (de_var 0) (da_nil)))
theorem fits_law_table_refused (T : Txt P K w mg cn) {X : Cx} (h1 : X.prog = P) (h2 : X.w = w) (hK : X.K = K) (hm : X.mg = mg) (hb : X.base = base) (hN : X.N = (["_law_bag_here", "_law_table", "_law_rows_here", "_law_many", "_law_far", "_law_size", "_law_asks", "_law_due", "_law_at", "_law_odd", "_law_each", "_law_ask"] : List Str)) (hs : X.env.scope = defScope (top 49)) : ∀ i B, bs_law_table_refused i = some B → LamFit X cn tx_law_table_refused kk_law_table_refused i B
  | 0, B, h => by cases h; exact fit_law_table_refused_0 T h1 h2 hK hm hb hN hs
  | 1, B, h => by cases h; exact fit_law_table_refused_1 T h1 h2 hK hm hb hN hs
  | 2, B, h => by cases h; exact fit_law_table_refused_2 T h1 h2 hK hm hb hN hs
  | 3, B, h => by cases h; exact fit_law_table_refused_3 T h1 h2 hK hm hb hN hs
  | n + 4, B, h => by cases h
theorem dis_law_table_refused_11 : ∀ i B, bs_law_table_refused i = some B → ∀ j ∈ B.cs, j ∉ ([11] : List Nat)
  | 0, B, h => by cases h; decide
  | 1, B, h => by cases h; decide
  | 2, B, h => by cases h; decide
  | 3, B, h => by cases h; decide
  | n + 4, B, h => by cases h
def b_law_table_refused_1 : Fs :=
  sIf (fB (f2 oNe (fLamFn (whyR errs flds fieldN) bs_law_table_refused (fLam 1 "_law_table_refused.<locals>.<lambda>" 0)) (fTup (fCons (fC (.str "InvalidTable")) (fCons (fC .non) (fNil)))))) (sRet (fC (.bl false))) (sNx)
def g_law_table_refused : Fs :=
  sSeq (sSet 3 (fCB oLen (fCons (fVar 2) (fNil)))) (sSeq (sAsg (gT (gsCons (gN 4) (gsCons (gN 5) (gsNil)))) (fTup (fCons (fCallN 2 F_law_of (fCons (fVar 0) (fCons (fLst (fCons (fVar 3) (fCons (f1 oNeg (fC (.int 1))) (fCons (f2 oPow (fC (.int 10)) (fC (.int 5))) (fCons (fC (.bl true)) (fNil)))))) (fNil)))) (fCons (fCallN 2 F_law_of (fCons (fVar 0) (fCons (fLst (fCons (fC (.int 0)) (fCons (fC (.int 7)) (fCons (f1 oNeg (fC (.int 1))) (fCons (f2 oPow (fC (.int 10)) (fC (.int 6))) (fCons (fC (.bl true)) (fNil))))))) (fNil)))) (fNil))))) (sSeq (sSet 6 (fLst (fCons (fLam 1 "_law_table_refused.<locals>.<lambda>" 3) (fCons (fLam 1 "_law_table_refused.<locals>.<lambda>" 2) (fCons (fLam 1 "_law_table_refused.<locals>.<lambda>" 1) (fNil)))))) (sSeq (sSet 7 (fLst (fCons (fTup (fCons (fC (.str "InvalidNumber")) (fCons (fVar 4) (fNil)))) (fCons (fTup (fCons (fC (.str "InvalidNumber")) (fCons (fVar 4) (fNil)))) (fCons (fTup (fCons (fC (.str "InvalidNumber")) (fCons (fVar 5) (fNil)))) (fNil)))))) (sSeq (sIf (fNot (fB (fCallN 2 (F_law_same 9) (fCons (fLc (fSeq (fVar 6)) (gN 11) (fYes) (fLamFn (whyR errs flds fieldN) bs_law_table_refused (fVar 11)) [11]) (fCons (fVar 7) (fNil)))))) (sRet (fC (.bl false))) (sNx)) (sSeq (sSet 8 (fCallN 2 F_law_pull (fCons (fVar 0) (fCons (fVar 3) (fNil))))) (sSeq (sSet 9 (fCallN 2 F_law_of (fCons (fVar 0) (fCons (fLst (fCons (f2 oMulS (fC (.str "q")) (fVar 3)) (fCons (f2 oMulS (fC (.str "x")) (f2 oSub (fVar 3) (fC (.int 1)))) (fCons (f2 oMulS (fC (.str "x")) (f2 oAdd (fVar 3) (fC (.int 1)))) (fCons (fC .non) (fCons (fC (.int 3)) (fCons (f2 oMul (fLst (fCons (fC (.str "x")) (fNil))) (fVar 3)) (fCons (fC (.str "")) (fNil))))))))) (fNil))))) (sSeq (sFor (fSeq (fLst (fCons (f2 oAdd (f2 oAdd (fSl (fVar 2) none (some (fVar 8))) (fLst (fCons (fVar 9) (fNil)))) (fSl (fVar 2) (some (f2 oAdd (fVar 8) (fC (.int 1)))) none)) (fCons (fLst (fNil)) (fCons (f2 oMul (fLst (fCons (f2 oMulS (fC (.str "x")) (fC (.int 7))) (fNil))) (fC (.int 7))) (fCons (f2 oAdd (fVar 2) (fLst (fCons (f2 oIx (fVar 2) (fC (.int 0))) (fNil)))) (fNil))))))) (gN 10) (b_law_table_refused_1)) (sRet (fC (.bl true))))))))))
def F_law_table_refused : Sls → Mir → Rs D := runL 12 g_law_table_refused
theorem fd_law_table_refused {pT : Addr} (T : Txt P K w mg cn) (TB : LamX.TabB base mg (cn "#_law_table_refused") pT) : Fd P w K mg base "_law_table_refused" ["_law_bag_here", "_law_table", "_law_rows_here"] 12 (spT K cn 1 pT 3 F_law_table_refused) := by
  have hnd := sc_law_table_refused.nd
  have D_law_why := fd_law_why (P := P) (base := base) T
  have D_law_of := fd_law_of (P := P) (base := base) T
  have D_law_pull := fd_law_pull (P := P) (base := base) T
  have D_law_same := fd_law_same (P := P) (base := base) T 9
  refine DfC.fd (N := ["_law_bag_here", "_law_table", "_law_rows_here", "_law_many", "_law_far", "_law_size", "_law_asks", "_law_due", "_law_at", "_law_odd", "_law_each", "_law_ask"]) (tx := tx_law_table_refused) T.d_law_table_refused sc_law_table_refused fun fa A outer s H E hr => ?_
  unfold g_law_table_refused
  exact ds_cons (ds_set 3 (de_bi bf_len rfl T.b_len (by decide +kernel) (da_cons (de_var 2) (da_nil))) hnd) (ds_cons (ds_asg (de_tup (da_cons (de_fn D_law_of (hr.mono (by decide)) (pas_of (L2N.passes_call (L2N.takes_of rfl rfl rfl rfl) fun _ _ _ _ h => h)) (da_cons (de_var 0) (da_cons (de_lst (da_cons (de_var 3) (da_cons (de_neg (de_int)) (da_cons (de_pow (de_int) (de_int)) (da_cons (de_bl) (da_nil)))))) (da_nil)))) (da_cons (de_fn D_law_of (hr.mono (by decide)) (pas_of (L2N.passes_call (L2N.takes_of rfl rfl rfl rfl) fun _ _ _ _ h => h)) (da_cons (de_var 0) (da_cons (de_lst (da_cons (de_int) (da_cons (de_int) (da_cons (de_neg (de_int)) (da_cons (de_pow (de_int) (de_int)) (da_cons (de_bl) (da_nil))))))) (da_nil)))) (da_nil)))) (pg_tup rfl (pgs_cons (pg_name (i := 4) hnd rfl (by first | exact Or.inl rfl | exact Or.inr rfl)) (pgs_cons (pg_name (i := 5) hnd rfl (by first | exact Or.inl rfl | exact Or.inr rfl)) (pgs_nil)))) (pyLen_ok (gsCons_len (gsCons_len (gsNil_len))) (tgs_cons tg_name (tgs_cons tg_name (tgs_nil))))) (ds_cons (ds_set 6 (de_lst (da_cons (de_lam0 (L := lam_law_table_refused_3) ⟨TB, rfl, rfl, lam_frs sc_law_table_refused rfl (caps_by rfl rfl caps_law_table_refused_3), rfl⟩ rfl rfl) (da_cons (de_lam1 (L := lam_law_table_refused_2) ⟨TB, rfl, rfl, lam_frs sc_law_table_refused rfl (caps_by rfl rfl caps_law_table_refused_2), rfl⟩ rfl pe_int rfl) (da_cons (de_lam1 (L := lam_law_table_refused_1) ⟨TB, rfl, rfl, lam_frs sc_law_table_refused rfl (caps_by rfl rfl caps_law_table_refused_1), rfl⟩ rfl pe_int rfl) (da_nil))))) hnd) (ds_cons (ds_set 7 (de_lst (da_cons (de_tup (da_cons (de_str) (da_cons (de_var 4) (da_nil)))) (da_cons (de_tup (da_cons (de_str) (da_cons (de_var 4) (da_nil)))) (da_cons (de_tup (da_cons (de_str) (da_cons (de_var 5) (da_nil)))) (da_nil))))) hnd) (ds_cons (ds_if (dt_not (dt_val (de_fn D_law_same (hr.mono (by decide)) (pas_of (L2N.passes_call (L2N.takes_of rfl rfl rfl rfl) fun _ _ _ _ h => h)) (da_cons (de_asks [("_law_ask", 11)] hnd D_law_why (kk := kk_law_table_refused) (hr.mono (by decide)) (fits_law_table_refused T rfl rfl rfl rfl rfl rfl rfl) dis_law_table_refused_11 (di_seq (de_var 6)) (tg_name) (fun _ _ _ _ _ => pg_name (i := 11) hnd rfl (by first | exact Or.inl rfl | exact Or.inr rfl)) (fun _ _ _ _ _ => de_var 11)) (da_cons (de_var 7) (da_nil)))))) (ds_last (ds_ret (de_bl))) (ds_nil)) (ds_cons (ds_set 8 (de_fn D_law_pull (hr.mono (by decide)) (pas_of (L2N.passes_call (L2N.takes_of rfl rfl rfl rfl) fun _ _ _ _ h => h)) (da_cons (de_var 0) (da_cons (de_var 3) (da_nil)))) hnd) (ds_cons (ds_set 9 (de_fn D_law_of (hr.mono (by decide)) (pas_of (L2N.passes_call (L2N.takes_of rfl rfl rfl rfl) fun _ _ _ _ h => h)) (da_cons (de_var 0) (da_cons (de_lst (da_cons (de_mulS (de_str) (de_var 3)) (da_cons (de_mulS (de_str) (de_sub (de_var 3) (de_int))) (da_cons (de_mulS (de_str) (de_add (de_var 3) (de_int))) (da_cons (de_non) (da_cons (de_int) (da_cons (de_mul (de_lst (da_cons (de_str) (da_nil))) (de_var 3)) (da_cons (de_str) (da_nil))))))))) (da_nil)))) hnd) (ds_cons (ds_for (di_seq (de_lst (da_cons (de_add (de_add (de_slice (de_var 2) po_non (po_int (de_var 8))) (de_lst (da_cons (de_var 9) (da_nil)))) (de_slice (de_var 2) (po_int (de_add (de_var 8) (de_int))) po_non)) (da_cons (de_lst (da_nil)) (da_cons (de_mul (de_lst (da_cons (de_mulS (de_str) (de_int)) (da_nil))) (de_int)) (da_cons (de_add (de_var 2) (de_lst (da_cons (de_ix (de_var 2) (de_int)) (da_nil)))) (da_nil))))))) (pg_name (i := 10) hnd rfl (by first | exact Or.inl rfl | exact Or.inr rfl)) (tg_name) (ds_last (ds_if (dt_cmp (cm_ne hr) (de_lamfn D_law_why (kk := kk_law_table_refused) (hr.mono (by decide)) (fits_law_table_refused T rfl rfl rfl rfl rfl rfl rfl) (de_lam0 (L := lam_law_table_refused_0) ⟨TB, rfl, rfl, lam_frs sc_law_table_refused rfl (caps_by rfl rfl caps_law_table_refused_0), rfl⟩ rfl rfl)) (de_tup (da_cons (de_str) (da_cons (de_non) (da_nil))))) (ds_last (ds_ret (de_bl))) (ds_nil))) (passes_of rfl)) (ds_last (ds_ret (de_bl))))))))))
theorem sc_law : FnScope ["_law_script", "_law_bag_here", "_law_turn", "_law_many", "_law_rows_here", "_law_handed", "_law_table", "_law_told", "_law_due", "_law_other", "_law_k"] ["_law_script"] (defScope (top 50)) := ⟨rfl, rfl, rfl, by decide +kernel, rfl, by decide +kernel, by decide +kernel⟩
def b_law_1 : Fs :=
  sSeq (sSet 3 (f2 oAdd (fC (.int 1)) (fCallN 2 F_law_pull (fCons (fVar 1) (fCons (fC (.int 6)) (fNil)))))) (sSeq (sSet 4 (fCallN 2 F_law_drawn_rows (fCons (fVar 1) (fCons (fVar 3) (fNil))))) (sSeq (sSet 5 (fNewCp (fCons (fVar 4) (fNil)))) (sSeq (sSet 6 (fFrz (fMake "Table" 2 F_Table___init (fCons (fCallN 2 F_law_of (fCons (fVar 1) (fCons (fLst (fCons (fVar 5) (fCons (fCB oTuple (fCons (fVar 5) (fNil))) (fNil)))) (fNil)))) (fNil))))) (sSeq (sSet 7 (fLst (fCons (fFrz (fMth "Table" "rows" 1 F_Table_rows (fVar 6) (fNil))) (fCons (fProp "Table" F_Table_places (fVar 6)) (fCons (fLc (fRange1 (fCons (fVar 3) (fNil))) (gN 10) (fYes) (fMth "Table" "value" 3 F_Table_value (fVar 6) (fCons (fVar 10) (fCons (f2 oSub (f2 oSub (fVar 3) (fC (.int 1))) (fVar 10)) (fNil)))) [10]) (fCons (fOw1 strD "Table" F_Table___repr (fCons (fVar 6) (fNil))) (fNil))))))) (sSeq (sSet 8 (fLst (fCons (fVar 4) (fCons (fVar 3) (fCons (fLc (fRange1 (fCons (fVar 3) (fNil))) (gN 10) (fYes) (f2 oIx (f2 oIx (fVar 4) (fVar 10)) (f2 oSub (f2 oSub (fVar 3) (fC (.int 1))) (fVar 10))) [10]) (fCons (f2 oAdd (f2 oAdd (fC (.str "Table(")) (fS2 oJoin (fC (.str "/")) (fVar 4))) (fC (.str ")"))) (fNil))))))) (sSeq (sIf (fNot (fB (fCallN 2 (F_law_same 9) (fCons (fVar 7) (fCons (fVar 8) (fNil)))))) (sRet (fC (.bl false))) (sNx)) (sSeq (sPutL (fVar 5) (fC (.int 0)) (fC (.str "q"))) (sSeq (sDrop (fClr (fMth "Table" "rows" 1 F_Table_rows (fVar 6) (fNil)))) (sSeq (sIf (fOr (fB (f2 oNe (fFrz (fMth "Table" "rows" 1 F_Table_rows (fVar 6) (fNil))) (fVar 4))) (fB (f2 oNe (fMthKw "Table" "value" 3 [1, 0] F_Table_value (fVar 6) (fCons (fC (.int 0)) (fCons (f2 oSub (fVar 3) (fC (.int 1))) (fNil)))) (f2 oIx (f2 oIx (fVar 4) (f2 oSub (fVar 3) (fC (.int 1)))) (fC (.int 0)))))) (sRet (fC (.bl false))) (sNx)) (sSeq (sSet 9 (fCallN 2 F_law_of (fCons (fVar 1) (fCons (fLst (fCons (f1 oRev (fVar 4)) (fCons (fCB oListS (fCons (fVar 4) (fNil))) (fCons (f2 oAdd (fSl (fVar 4) none (some (f1 oNeg (fC (.int 1))))) (fLst (fCons (f2 oMulS (fC (.str "x")) (fVar 3)) (fNil)))) (fNil))))) (fNil))))) (sSeq (sIf (fOr (fNot (fB (fCallN 2 (F_law_same 9) (fCons (fOw2 "Table" F_Table___eq (fFrz (fMake "Table" 2 F_Table___init (fCons (fVar 9) (fNil)))) (fVar 6)) (fCons (f2 oEq (fVar 9) (fVar 4)) (fNil)))))) (fOr (fB (fOwP "Table" F_Table___eq (fVar 6) (fVar 4))) (fB (fOwP "Table" F_Table___eq (fVar 6) (fC (.int 3)))))) (sRet (fC (.bl false))) (sNx)) (sSeq (sIf (fNot (fB (fCallN 2 (F_law_same 9) (fCons (fOw1 boolD "Table" F_Table___bool (fCons (fVar 6) (fNil))) (fCons (f2 oEq (fCallN 2 F_law_times (fCons (fVar 4) (fCons (fVar 4) (fNil)))) (fVar 4)) (fNil)))))) (sRet (fC (.bl false))) (sNx)) (sIf (fOr (fB (f2 oNe (fFrz (fMth "Table" "rows" 1 F_Table_rows (fKw 1 [0] F_Table_identity (fCons (fVar 3) (fNil))) (fNil))) (fCallN 1 F_law_identity (fCons (fVar 3) (fNil))))) (fNot (fTr (fCallN 3 F_law_table_refused (fCons (fVar 1) (fCons (fVar 6) (fCons (fVar 4) (fNil)))))))) (sRet (fC (.bl false))) (sNx))))))))))))))
def g_law : Fs :=
  sSeq (sFor (fRange1 (fCons (fC (.int 6)) (fNil))) (gN 2) (b_law_1)) (sRet (fC (.bl true)))
theorem ok_law {fa : Addr} {oc kV doc pm ct : Value} {od an : Option Addr} {cd : Value} {osl : Array (Option Value)} {pT0 : Addr} (lk : K.lookup fa = some ⟨oc, od, .func (PySem.W.fnOf "law" "law" (defArgs (top 50)) (defBody (top 50)) (defScope (top 50)) .none kV doc pm an cd ct), osl⟩) (hcd : PySem.W.codeIn K cd "law" = true) (TB0 : LamX.TabB base mg (cn "#_law_table_refused") pT0) (hnd0 : ([pT0] : List Addr).Nodup) (T : Txt P K w mg cn) (run : ∀ ns : List Int, ns.length ≤ 63 → ∃ m, g_law (.un :: .dat (.ref 0) :: List.replicate 9 .un) (bag0T ns ["_law_table_refused.<locals>.<lambda>"]) = .rt (.bl true) m) :
    FnOk P w K mg base (L2N.CX P w) 13 fa (PySem.W.fnOf "law" "law" (defArgs (top 50)) (defBody (top 50)) (defScope (top 50)) .none kV doc pm an cd ct) ["_law_script"] (spLawT K [(pT0, "_law_table_refused.<locals>.<lambda>")]) := by
  refine fn_of lk hcd sc_law lawT_len fun A outer s H vs Q E hr h => ?_
  have hnd := sc_law.nd
  have D_Table_rows := fd_Table_rows (P := P) (base := base) T
  have D_Table_identity := fd_Table_identity (P := P) (base := base) T
  have D_law_identity := fd_law_identity (P := P) (base := base) T
  have D_law_table_refused := fd_law_table_refused (P := P) (base := base) T TB0
  have D_law_same := fd_law_same (P := P) (base := base) T 9
  have D_law_times := fd_law_times (P := P) (base := base) T
  have D_Table___bool := fd_Table___bool (P := P) (base := base) T
  have D_Table___init := fd_Table___init (P := P) (base := base) T
  have D_Table___eq := fd_Table___eq (P := P) (base := base) T
  have D_law_of := fd_law_of (P := P) (base := base) T
  have D_Table_value := fd_Table_value (P := P) (base := base) T
  have D_Table___repr := fd_Table___repr (P := P) (base := base) T
  have D_Table_places := fd_Table_places (P := P) (base := base) T
  have D_law_drawn_rows := fd_law_drawn_rows (P := P) (base := base) T
  have D_law_pull := fd_law_pull (P := P) (base := base) T
  have DK_Table_identity_0 := fDK_Table_identity_0 (P := P) (base := base) T
  have DK_Table_value_1 := fDK_Table_value_1 (P := P) (base := base) T
  obtain ⟨fB, fdB, hmB, hkB, hbB, FoB, _⟩ := (fd_law_bag (P := P) (base := base) T).ex
  refine ⟨_, pss_cons (ps_set (i := 1) hnd rfl (by first | exact Or.inl rfl | exact Or.inr rfl) (pe_call FoB (hr.mono (by decide)) rfl hmB hkB hbB .nil (L2N.passes_call (L2N.takes_of rfl rfl rfl rfl) fun _ _ _ _ h => h) (pa_cons (pv 0) pa_nil))) (?_ : DSs _ ⟨cn, tabJ 1 pT0⟩ (fun _ => E) _ g_law), law_readC (by decide) h hnd0 rfl run⟩
  unfold g_law
  exact ds_cons (ds_for (di_range1 rfl T.b_range (da_cons (de_int) (da_nil))) (pg_name (i := 2) hnd rfl (by first | exact Or.inl rfl | exact Or.inr rfl)) (tg_name) (ds_cons (ds_set 3 (de_add (de_int) (de_fn D_law_pull (hr.mono (by decide)) (pas_of (L2N.passes_call (L2N.takes_of rfl rfl rfl rfl) fun _ _ _ _ h => h)) (da_cons (de_var 1) (da_cons (de_int) (da_nil))))) hnd) (ds_cons (ds_set 4 (de_fn D_law_drawn_rows (hr.mono (by decide)) (pas_of (L2N.passes_call (L2N.takes_of rfl rfl rfl rfl) fun _ _ _ _ h => h)) (da_cons (de_var 1) (da_cons (de_var 3) (da_nil)))) hnd) (ds_cons (ds_set 5 (de_newCp rfl T.b_list rfl (da_cons (de_var 4) (da_nil))) hnd) (ds_cons (ds_set 6 (de_frz (de_make D_Table___init (hr.mono (by decide)) (pasC_of (L2N.passes_call (L2N.takes_of rfl rfl rfl rfl) fun _ _ _ _ h => h)) (da_cons (de_fn D_law_of (hr.mono (by decide)) (pas_of (L2N.passes_call (L2N.takes_of rfl rfl rfl rfl) fun _ _ _ _ h => h)) (da_cons (de_var 1) (da_cons (de_lst (da_cons (de_var 5) (da_cons (de_ty bf_tuple rfl T.b_tuple (by decide +kernel) (da_cons (de_var 5) (da_nil))) (da_nil)))) (da_nil)))) (da_nil)))) hnd) (ds_cons (ds_set 7 (de_lst (da_cons (de_frz (de_mth0 D_Table_rows T.c_Table (hr.mono (by decide)) (pas_of (L2N.passes_call (L2N.takes_of rfl rfl rfl rfl) fun _ _ _ _ h => h)) (de_var 6))) (da_cons (de_prop D_Table_places T.c_Table (hr.mono (by decide)) (de_var 6)) (da_cons (de_lc [("_law_k", 10)] hnd (di_range1 rfl T.b_range (da_cons (de_var 3) (da_nil))) (tg_name) (fun _ _ _ _ _ => pg_name (i := 10) hnd rfl (by first | exact Or.inl rfl | exact Or.inr rfl)) (fun _ _ _ _ _ => dts_nil) (fun _ _ _ _ _ => de_mth D_Table_value T.c_Table (hr.mono (by decide)) (pas_of passN) (de_var 6) (da_cons (de_var 10) (da_cons (de_sub (de_sub (de_var 3) (de_int)) (de_var 10)) (da_nil))))) (da_cons (de_ownRepr D_Table___repr (hr.mono (by decide)) rfl T.b_repr rfl (da_cons (de_var 6) (da_nil))) (da_nil)))))) hnd) (ds_cons (ds_set 8 (de_lst (da_cons (de_var 4) (da_cons (de_var 3) (da_cons (de_lc [("_law_k", 10)] hnd (di_range1 rfl T.b_range (da_cons (de_var 3) (da_nil))) (tg_name) (fun _ _ _ _ _ => pg_name (i := 10) hnd rfl (by first | exact Or.inl rfl | exact Or.inr rfl)) (fun _ _ _ _ _ => dts_nil) (fun _ _ _ _ _ => de_ix (de_ix (de_var 4) (de_var 10)) (de_sub (de_sub (de_var 3) (de_int)) (de_var 10)))) (da_cons (de_add (de_add (de_str) (de_join (de_str) (de_var 4))) (de_str)) (da_nil)))))) hnd) (ds_cons (ds_if (dt_not (dt_val (de_fn D_law_same (hr.mono (by decide)) (pas_of (L2N.passes_call (L2N.takes_of rfl rfl rfl rfl) fun _ _ _ _ h => h)) (da_cons (de_var 7) (da_cons (de_var 8) (da_nil)))))) (ds_last (ds_ret (de_bl))) (ds_nil)) (ds_cons (ds_putL (de_var 5) (de_int) (de_str)) (ds_cons (ds_expr (de_clr (de_mth0 D_Table_rows T.c_Table (hr.mono (by decide)) (pas_of (L2N.passes_call (L2N.takes_of rfl rfl rfl rfl) fun _ _ _ _ h => h)) (de_var 6)))) (ds_cons (ds_if (dt_w (dw_or (dt_cmp (cm_ne hr) (de_frz (de_mth0 D_Table_rows T.c_Table (hr.mono (by decide)) (pas_of (L2N.passes_call (L2N.takes_of rfl rfl rfl rfl) fun _ _ _ _ h => h)) (de_var 6))) (de_var 4)) (dw_or1 (dt_cmp (cm_ne hr) (de_mthKw DK_Table_value_1 T.c_Table (hr.mono (by decide)) (pas_of (L2N.passes_call (L2N.takes_of rfl rfl rfl rfl) fun _ _ _ _ h => h)) (de_var 6) (dk_cons (de_int) (dk_cons (de_sub (de_var 3) (de_int)) (dk_nil)))) (de_ix (de_ix (de_var 4) (de_sub (de_var 3) (de_int))) (de_int)))))) (ds_last (ds_ret (de_bl))) (ds_nil)) (ds_cons (ds_set 9 (de_fn D_law_of (hr.mono (by decide)) (pas_of (L2N.passes_call (L2N.takes_of rfl rfl rfl rfl) fun _ _ _ _ h => h)) (da_cons (de_var 1) (da_cons (de_lst (da_cons (de_rev (de_var 4)) (da_cons (de_ty (bf_listS rfl) rfl T.b_list (by decide +kernel) (da_cons (de_var 4) (da_nil))) (da_cons (de_add (de_slice (de_var 4) po_non (po_int (de_neg (de_int)))) (de_lst (da_cons (de_mulS (de_str) (de_var 3)) (da_nil)))) (da_nil))))) (da_nil)))) hnd) (ds_cons (ds_if (dt_w (dw_or (dt_not (dt_val (de_fn D_law_same (hr.mono (by decide)) (pas_of (L2N.passes_call (L2N.takes_of rfl rfl rfl rfl) fun _ _ _ _ h => h)) (da_cons (de_ownEq D_Table___eq (hr.mono (by decide)) (de_frz (de_make D_Table___init (hr.mono (by decide)) (pasC_of (L2N.passes_call (L2N.takes_of rfl rfl rfl rfl) fun _ _ _ _ h => h)) (da_cons (de_var 9) (da_nil)))) (de_var 6)) (da_cons (de_cmp (cm_eq hr) (de_var 9) (de_var 4)) (da_nil)))))) (dw_or (dt_ownEqP D_Table___eq (hr.mono (by decide)) (de_var 6) (de_var 4)) (dw_or1 (dt_ownEqP D_Table___eq (hr.mono (by decide)) (de_var 6) (de_int)))))) (ds_last (ds_ret (de_bl))) (ds_nil)) (ds_cons (ds_if (dt_not (dt_val (de_fn D_law_same (hr.mono (by decide)) (pas_of (L2N.passes_call (L2N.takes_of rfl rfl rfl rfl) fun _ _ _ _ h => h)) (da_cons (de_ownBool D_Table___bool (hr.mono (by decide)) rfl T.b_bool rfl (da_cons (de_var 6) (da_nil))) (da_cons (de_cmp (cm_eq hr) (de_fn D_law_times (hr.mono (by decide)) (pas_of (L2N.passes_call (L2N.takes_of rfl rfl rfl rfl) fun _ _ _ _ h => h)) (da_cons (de_var 4) (da_cons (de_var 4) (da_nil)))) (de_var 4)) (da_nil)))))) (ds_last (ds_ret (de_bl))) (ds_nil)) (ds_last (ds_if (dt_w (dw_or (dt_cmp (cm_ne hr) (de_frz (de_mth0 D_Table_rows T.c_Table (hr.mono (by decide)) (pas_of (L2N.passes_call (L2N.takes_of rfl rfl rfl rfl) fun _ _ _ _ h => h)) (de_smthKw DK_Table_identity_0 (hr.mono (by decide)) (pas_of (L2N.passes_call (L2N.takes_of rfl rfl rfl rfl) fun _ _ _ _ h => h)) (dk_cons (de_var 3) (dk_nil))))) (de_fn D_law_identity (hr.mono (by decide)) (pas_of (L2N.passes_call (L2N.takes_of rfl rfl rfl rfl) fun _ _ _ _ h => h)) (da_cons (de_var 3) (da_nil)))) (dw_or1 (dt_not (dt_tru (de_fnT D_law_table_refused (hr.mono (by decide)) (pas_of (L2N.passes_call (L2N.takes_of rfl rfl rfl rfl) fun _ _ _ _ h => h)) (da_cons (de_var 1) (da_cons (de_var 6) (da_cons (de_var 4) (da_nil)))))))))) (ds_last (ds_ret (de_bl))) (ds_nil)))))))))))))))) (passes_of rfl)) (ds_last (ds_ret (de_bl)))
end
end K17

/-! The plain law: products of tables of grades, and again. No program in sight. -/
namespace Alg
abbrev G := Fin 7
def J (a b : G) : G := (#[0, 0, 0, 0, 0, 5, 6, 0, 1, 1, 1, 4, 5, 6, 0, 1, 2, 3, 4, 5, 6, 0, 1, 3, 3, 4, 5, 6, 0, 4, 4, 4, 4, 5, 6, 5, 5, 5, 5, 5, 5, 6, 6, 6, 6, 6, 6, 6, 6] : Array G).getD (a.val * 7 + b.val) 0
def ag (a : G) : G := (#[0, 1, 2, 5, 5, 5, 6] : Array G).getD a.val 0
theorem J_assoc : ∀ a b c : G, J (J a b) c = J a (J b c) := by decide +kernel
theorem J_comm : ∀ a b : G, J a b = J b a := by decide +kernel
theorem J_one : ∀ a : G, J 2 a = a := by decide +kernel
theorem J_one' : ∀ a : G, J a 2 = a := by decide +kernel
theorem J_top : ∀ a : G, J a 6 = 6 := by decide +kernel
theorem J_top' : ∀ a : G, J 6 a = 6 := by decide +kernel
theorem J_mono_r : ∀ a b c : G, a ≤ b → J c a ≤ J c b := by decide +kernel
theorem J_mono_l : ∀ a b c : G, a ≤ b → J a c ≤ J b c := by decide +kernel
theorem J_mono {a b c d : G} (h1 : a ≤ b) (h2 : c ≤ d) : J a c ≤ J b d := Nat.le_trans (J_mono_l a b c h1) (J_mono_r c d b h2)
theorem ag_mono : ∀ a b : G, a ≤ b → ag a ≤ ag b := by decide +kernel
theorem ag_ge : ∀ a : G, a ≤ ag a := by decide +kernel
theorem J_ag : ∀ a : G, J a (ag a) = ag a := by decide +kernel
theorem le6 : ∀ a : G, a ≤ 6 := by decide +kernel
theorem le_anti {a b : G} (h1 : a ≤ b) (h2 : b ≤ a) : a = b := Fin.le_antisymm h1 h2
theorem le_t {a b c : G} (h1 : a ≤ b) (h2 : b ≤ c) : a ≤ c := Nat.le_trans h1 h2
theorem id1 : ∀ a v b : G, J (J (J a (ag v)) v) (J (J v (ag v)) b) = J (J a (ag v)) b := by decide +kernel
theorem id2 : ∀ v : G, J (J v (ag v)) v = ag v := by decide +kernel
theorem id3 : ∀ v : G, ag (ag v) = ag v := by decide +kernel
theorem id4 : ∀ a v b : G, J (J (J (J a (ag v)) v) (ag v)) (J (J v (ag v)) b) = J (J a (ag v)) b := by decide +kernel
instance : Std.Associative J := ⟨J_assoc⟩
instance : Std.Commutative J := ⟨J_comm⟩

def mn (a b : G) : G := if a ≤ b then a else b
def minR (h : Nat → G) : Nat → G
  | 0 => 6
  | n + 1 => mn (minR h n) (h n)
theorem mn_le : ∀ a b : G, mn a b ≤ a ∧ mn a b ≤ b := by decide +kernel
theorem mn_or : ∀ a b : G, mn a b = a ∨ mn a b = b := by decide +kernel
theorem minR_le {h : Nat → G} : ∀ {n k : Nat}, k < n → minR h n ≤ h k
  | n + 1, k, hk => by
    by_cases e : k = n
    · subst e; exact (mn_le _ _).2
    · exact le_t (mn_le _ _).1 (minR_le (n := n) (by omega))
theorem minR_or {h : Nat → G} : ∀ {n : Nat}, minR h n = 6 ∨ ∃ k, k < n ∧ minR h n = h k
  | 0 => .inl rfl
  | n + 1 => by
    rcases mn_or (minR h n) (h n) with e | e
    · rcases minR_or (h := h) (n := n) with e2 | ⟨k, hk, e2⟩
      · exact .inl (e.trans e2)
      · exact .inr ⟨k, by omega, e.trans e2⟩
    · exact .inr ⟨n, by omega, e⟩
theorem minR_ex {h : Nat → G} {n : Nat} (hn : 0 < n) : ∃ k, k < n ∧ minR h n = h k := by
  rcases minR_or (h := h) (n := n) with e | e
  · refine ⟨0, hn, ?_⟩
    have := minR_le (h := h) (k := 0) hn
    rw [e] at this ⊢
    exact le_anti this (le6 _)
  · exact e
abbrev Mt := Nat → Nat → G
def mul (n : Nat) (f g : Mt) : Mt := fun i j => minR (fun k => J (f i k) (g k j)) n
def Eq' (n : Nat) (f g : Mt) : Prop := ∀ i, i < n → ∀ j, j < n → f i j = g i j
section
variable {n : Nat} {f g h f' g' E A B : Mt} {i j k r : Nat}
theorem Eq'.rfl' : Eq' n f f := fun _ _ _ _ => rfl
theorem Eq'.symm (e : Eq' n f g) : Eq' n g f := fun i hi j hj => (e i hi j hj).symm
theorem Eq'.trans (e : Eq' n f g) (e2 : Eq' n g h) : Eq' n f h := fun i hi j hj => (e i hi j hj).trans (e2 i hi j hj)
theorem mul_le (hk : k < n) : mul n f g i j ≤ J (f i k) (g k j) := minR_le (h := fun k => J (f i k) (g k j)) hk
theorem mul_ex (hn : 0 < n) : ∃ k, k < n ∧ mul n f g i j = J (f i k) (g k j) := minR_ex hn
theorem minR_congr {h h' : Nat → G} : ∀ {n : Nat}, (∀ k, k < n → h k = h' k) → minR h n = minR h' n
  | 0, _ => rfl
  | n + 1, e => by
    show mn (minR h n) (h n) = mn (minR h' n) (h' n)
    rw [minR_congr fun k hk => e k (by omega), e n (by omega)]
theorem mul_congr (e1 : Eq' n f f') (e2 : Eq' n g g') : Eq' n (mul n f g) (mul n f' g') := fun i hi j hj => minR_congr fun k hk => by rw [e1 i hi k hk, e2 k hk j hj]
theorem mul_assoc (hn : 0 < n) : mul n (mul n f g) h i j = mul n f (mul n g h) i j := by
  refine le_anti ?_ ?_
  · obtain ⟨k, hk, e⟩ := mul_ex (f := f) (g := mul n g h) (i := i) (j := j) hn
    obtain ⟨l, hl, e2⟩ := mul_ex (f := g) (g := h) (i := k) (j := j) hn
    rw [e, e2, ← J_assoc]
    exact le_t (mul_le hl) (J_mono_l _ _ _ (mul_le hk))
  · obtain ⟨l, hl, e⟩ := mul_ex (f := mul n f g) (g := h) (i := i) (j := j) hn
    obtain ⟨k, hk, e2⟩ := mul_ex (f := f) (g := g) (i := i) (j := l) hn
    rw [e, e2, J_assoc]
    exact le_t (mul_le hk) (J_mono_r _ _ _ (mul_le hl))
theorem assoc' (hn : 0 < n) : Eq' n (mul n (mul n f g) h) (mul n f (mul n g h)) := fun _ _ _ _ => mul_assoc hn
def Idem (n : Nat) (E : Mt) : Prop := Eq' n (mul n E E) E
def dia (E : Mt) : Mt := fun i j => if i = j then ag (E i i) else 6
def again (n : Nat) (E : Mt) : Mt := mul n (mul n E (dia E)) E
theorem mul_dia (hr : r < n) : mul n E (dia E) i r = J (E i r) (ag (E r r)) := by
  have hd : dia E r r = ag (E r r) := if_pos rfl
  refine le_anti (by have := mul_le (n := n) (f := E) (g := dia E) (i := i) (j := r) hr; rwa [hd] at this) ?_
  obtain ⟨p, hp, e⟩ := mul_ex (f := E) (g := dia E) (i := i) (j := r) (Nat.lt_of_le_of_lt (Nat.zero_le _) hr)
  rw [e]
  by_cases h : p = r
  · subst h; rw [hd]; exact Nat.le_refl _
  · have : dia E p r = 6 := if_neg h
    rw [this, J_top]
    exact le6 _
theorem again_le (hr : r < n) : again n E i j ≤ J (J (E i r) (ag (E r r))) (E r j) := by
  have := mul_le (n := n) (f := mul n E (dia E)) (g := E) (i := i) (j := j) hr
  rwa [mul_dia hr] at this
theorem again_ex (hn : 0 < n) : ∃ r, r < n ∧ again n E i j = J (J (E i r) (ag (E r r))) (E r j) := by
  obtain ⟨r, hr, e⟩ := mul_ex (f := mul n E (dia E)) (g := E) (i := i) (j := j) hn
  rw [mul_dia hr] at e
  exact ⟨r, hr, e⟩
theorem idem_le (h : Idem n E) (hi : i < n) (hj : j < n) (hk : k < n) : E i j ≤ J (E i k) (E k j) := by
  rw [← h i hi j hj]; exact mul_le hk
/-- again is idempotent -/
theorem again_idem (hE : Idem n E) : Idem n (again n E) := fun i hi j hj => by
  have hn : 0 < n := Nat.lt_of_le_of_lt (Nat.zero_le _) hi
  refine le_anti ?_ ?_
  · obtain ⟨r, hr, e⟩ := again_ex (E := E) (i := i) (j := j) hn
    rw [e, ← id1]
    exact le_t (mul_le hr) (J_mono (again_le hr) (again_le hr))
  · obtain ⟨p, hp, e⟩ := mul_ex (f := again n E) (g := again n E) (i := i) (j := j) hn
    obtain ⟨q, hq, e1⟩ := again_ex (E := E) (i := i) (j := p) hn
    obtain ⟨r, hr, e2⟩ := again_ex (E := E) (i := p) (j := j) hn
    rw [e, e1, e2]
    have s1 : E p j ≤ J (J (E p r) (ag (E r r))) (E r j) := by
      refine le_t (idem_le hE hp hj hr) (J_mono_l _ _ _ (le_t (idem_le hE hp hr hr) (J_mono_r _ _ _ (ag_ge _))))
    have s2 : E q j ≤ J (E q p) (J (J (E p r) (ag (E r r))) (E r j)) := le_t (idem_le hE hq hj hp) (J_mono_r _ _ _ s1)
    rw [J_assoc (J (E i q) (ag (E q q)))]
    exact le_t (again_le hq) (J_mono_r _ _ _ s2)
/-- beside its table -/
theorem mul_again (hE : Idem n E) : Eq' n (mul n E (again n E)) (again n E) := fun i hi j hj => by
  have hn : 0 < n := Nat.lt_of_le_of_lt (Nat.zero_le _) hi
  exact (((assoc' hn).symm.trans (mul_congr ((assoc' hn).symm.trans (mul_congr hE .rfl')) .rfl')) i hi j hj)
theorem again_mul (hE : Idem n E) : Eq' n (mul n (again n E) E) (again n E) := fun i hi j hj => by
  have hn : 0 < n := Nat.lt_of_le_of_lt (Nat.zero_le _) hi
  exact ((assoc' hn).trans (mul_congr .rfl' hE)) i hi j hj
/-- again of again -/
theorem again_again (hE : Idem n E) : Eq' n (again n (again n E)) (again n E) := fun i hi j hj => by
  have hn : 0 < n := Nat.lt_of_le_of_lt (Nat.zero_le _) hi
  have hF := again_idem hE
  refine le_anti ?_ ?_
  · obtain ⟨r, hr, e⟩ := again_ex (E := E) (i := i) (j := j) hn
    rw [e, ← id4]
    have s1 : again n E r r ≤ ag (E r r) := by
      have := again_le (E := E) (i := r) (j := r) hr
      rwa [id2] at this
    have s2 : ag (again n E r r) ≤ ag (E r r) := by
      have := ag_mono _ _ s1
      rwa [id3] at this
    exact le_t (again_le hr) (J_mono (J_mono (again_le hr) s2) (again_le hr))
  · obtain ⟨r, hr, e⟩ := again_ex (E := again n E) (i := i) (j := j) hn
    rw [e]
    exact le_t (idem_le hF hi hj hr) (J_mono_l _ _ _ (le_t (idem_le hF hi hr hr) (J_mono_r _ _ _ (ag_ge _))))
/-- again of A B with A is A with again of B A -/
theorem again_swap (hP : Idem n (mul n A B)) (hQ : Idem n (mul n B A)) : Eq' n (mul n (again n (mul n A B)) A) (mul n A (again n (mul n B A))) := fun i hi j hj => by
  have hn : 0 < n := Nat.lt_of_le_of_lt (Nat.zero_le _) hi
  refine le_anti ?_ ?_
  · obtain ⟨u, hu, e⟩ := mul_ex (f := A) (g := again n (mul n B A)) (i := i) (j := j) hn
    obtain ⟨s, hs, e1⟩ := again_ex (E := mul n B A) (i := u) (j := j) hn
    obtain ⟨r, hr, e2⟩ := mul_ex (f := B) (g := A) (i := s) (j := s) hn
    obtain ⟨q, hq, e3⟩ := mul_ex (f := B) (g := A) (i := s) (j := j) hn
    obtain ⟨v, hv, e4⟩ := mul_ex (f := B) (g := A) (i := u) (j := s) hn
    rw [e, e1, e2, e3, e4]
    have a1 : mul n A B i r ≤ J (J (A i u) (B u v)) (J (A v s) (B s r)) := le_t (idem_le hP hi hr hv) (J_mono (mul_le hu) (mul_le hs))
    have a2 : ag (mul n A B r r) ≤ ag (J (B s r) (A r s)) := by
      rw [J_comm (B s r)]
      exact ag_mono _ _ (mul_le hs)
    have a3 : mul n A B r q ≤ J (A r s) (B s q) := mul_le hs
    refine le_t (mul_le hq) (le_t (J_mono_l _ _ _ (again_le hr)) (le_t (J_mono_l _ _ _ (J_mono (J_mono a1 a2) a3)) ?_))
    have key := J_ag (J (B s r) (A r s))
    have : J (J (J (J (J (A i u) (B u v)) (J (A v s) (B s r))) (ag (J (B s r) (A r s)))) (J (A r s) (B s q))) (A q j) = J (A i u) (J (J (J (B u v) (A v s)) (J (J (B s r) (A r s)) (ag (J (B s r) (A r s))))) (J (B s q) (A q j))) := by ac_rfl
    rw [this, key]
    exact Nat.le_refl _
  · obtain ⟨q, hq, e⟩ := mul_ex (f := again n (mul n A B)) (g := A) (i := i) (j := j) hn
    obtain ⟨r, hr, e1⟩ := again_ex (E := mul n A B) (i := i) (j := q) hn
    obtain ⟨s, hs, e2⟩ := mul_ex (f := A) (g := B) (i := r) (j := r) hn
    obtain ⟨u, hu, e3⟩ := mul_ex (f := A) (g := B) (i := i) (j := r) hn
    obtain ⟨v, hv, e4⟩ := mul_ex (f := A) (g := B) (i := r) (j := q) hn
    rw [e, e1, e2, e3, e4]
    have a1 : mul n B A u s ≤ J (B u r) (A r s) := mul_le hr
    have a2 : ag (mul n B A s s) ≤ ag (J (A r s) (B s r)) := by
      rw [J_comm (A r s)]
      exact ag_mono _ _ (mul_le hr)
    have a3 : mul n B A s j ≤ J (J (B s r) (A r v)) (J (B v q) (A q j)) := le_t (idem_le hQ hs hj hv) (J_mono (mul_le hr) (mul_le hq))
    refine le_t (mul_le hu) (le_t (J_mono_r _ _ _ (again_le hs)) (le_t (J_mono_r _ _ _ (J_mono (J_mono a1 a2) a3)) ?_))
    have key := J_ag (J (A r s) (B s r))
    have : J (A i u) (J (J (J (B u r) (A r s)) (ag (J (A r s) (B s r)))) (J (J (B s r) (A r v)) (J (B v q) (A q j)))) = J (J (J (J (A i u) (B u r)) (J (J (A r s) (B s r)) (ag (J (A r s) (B s r))))) (J (A r v) (B v q))) (A q j) := by ac_rfl
    rw [this, key]
    exact Nat.le_refl _
end

/-! ### powers -/
def one : Mt := fun i j => if i = j then 2 else 6
def pw (n : Nat) (f : Mt) : Nat → Mt
  | 0 => one
  | k + 1 => mul n (pw n f k) f
section
variable {n : Nat} {f g : Mt} {i j k l : Nat}
theorem mul_one : Eq' n (mul n f one) f := fun i hi j hj => by
  have hd : one j j = 2 := if_pos rfl
  refine le_anti (by have := mul_le (n := n) (f := f) (g := one) (i := i) (j := j) hj; rwa [hd, J_one'] at this) ?_
  obtain ⟨p, hp, e⟩ := mul_ex (f := f) (g := one) (i := i) (j := j) (Nat.lt_of_le_of_lt (Nat.zero_le _) hi)
  rw [e]
  by_cases h : p = j
  · subst h; rw [hd, J_one']; exact Nat.le_refl _
  · have : one p j = 6 := if_neg h
    rw [this, J_top]
    exact le6 _
theorem one_mul : Eq' n (mul n one f) f := fun i hi j hj => by
  have hd : one i i = 2 := if_pos rfl
  refine le_anti (by have := mul_le (n := n) (f := one) (g := f) (i := i) (j := j) hi; rwa [hd, J_one] at this) ?_
  obtain ⟨p, hp, e⟩ := mul_ex (f := one) (g := f) (i := i) (j := j) (Nat.lt_of_le_of_lt (Nat.zero_le _) hi)
  rw [e]
  by_cases h : i = p
  · subst h; rw [hd, J_one]; exact Nat.le_refl _
  · have : one i p = 6 := if_neg h
    rw [this, J_top']
    exact le6 _
theorem pw_one : Eq' n (pw n f 1) f := one_mul
theorem pw_add (hn : 0 < n) : ∀ l, Eq' n (mul n (pw n f k) (pw n f l)) (pw n f (k + l))
  | 0 => mul_one
  | l + 1 => (assoc' hn).symm.trans (mul_congr (pw_add hn l) .rfl')
theorem pw_congr (e : Eq' n f g) : ∀ k, Eq' n (pw n f k) (pw n g k)
  | 0 => .rfl'
  | k + 1 => mul_congr (pw_congr e k) e
theorem pw_sq (hn : 0 < n) : ∀ k, Eq' n (pw n (mul n f f) k) (pw n f (2 * k))
  | 0 => .rfl'
  | k + 1 => by
    have h := (mul_congr (pw_sq hn k) .rfl').trans (assoc' (f := pw n f (2 * k)) (g := f) (h := f) hn).symm
    exact h
theorem pw_idem (h : Idem n f) : ∀ k, Eq' n (pw n f (k + 1)) f
  | 0 => pw_one
  | k + 1 => (mul_congr (pw_idem h k) .rfl').trans h
end
end Alg

/-! k17: what its functions answer. -/
namespace K17
open PySem PySem.Spec PyProof.Rows L2 DM Alg Bag
def ltab : List Str := ["_law_table_refused.<locals>.<lambda>"]
theorem of_eq : F_law_of = Bag.of := rfl
theorem pull_eq2 : F_law_pull = Bag.pull := rfl
def GlT (t : Mir) (l : Nat) (m : Mir) : Prop := (Ok ltab m ∧ m.drop 1 = t) ∧ m.length = l
theorem of_okL {m t : Mir} {l : Nat} (h : GlT t l m) {x : D} {c : Nat} (R : D → Prop) (hv : view m x = some x) (hc : oLen [x] = some (.int c)) (h0 : 0 < c) (hn : c < 1000) (hi : ∀ i : Nat, i < c → ∃ y, oIx x (.int i) = some y ∧ R y) (hv2 : ∀ m1, view m1 x = some x) : ∃ y m1, F_law_of [.dat (.ref 0), .dat x] m = .ok y m1 ∧ R y ∧ GlT t l m1 := by
  obtain ⟨y, m1, e, r, o, hl, hd⟩ := Bag.of_okT h.1.1 R hv hc h0 hn hi hv2
  exact ⟨y, m1, e, r, ⟨o, hd.trans h.1.2⟩, hl.trans h.2⟩
theorem same_eq : ∀ n, F_law_same n = Bag.same n
  | 0 => rfl
  | n + 1 => by
    show runF 4 (g_law_same (F_law_same n)) = runF 4 (sameG (Bag.same n))
    rw [same_eq n]
    rfl
theorem all7 {p : Fin 7 → Prop} (h0 : p 0) (h1 : p 1) (h2 : p 2) (h3 : p 3) (h4 : p 4) (h5 : p 5) (h6 : p 6) : ∀ i, p i
  | ⟨0, _⟩ => h0 | ⟨1, _⟩ => h1 | ⟨2, _⟩ => h2 | ⟨3, _⟩ => h3 | ⟨4, _⟩ => h4 | ⟨5, _⟩ => h5 | ⟨6, _⟩ => h6
def gi (g : Fin 7) : D := .int g.val
def code (g : Fin 7) : Nat := (#[97, 115, 101, 117, 100, 119, 120] : Array Nat).getD g.val 0
def ch (g : Fin 7) : Str := ⟨#[code g]⟩
/-- grades, and letters -/
def rowT (n : Nat) (f : Nat → Fin 7) : D := .tup ((List.range n).map fun j => gi (f j))
def T (n : Nat) (f : Mt) : D := .tup ((List.range n).map fun i => rowT n (f i))
def txt (n : Nat) (f : Nat → Fin 7) : Str := ⟨((List.range n).map fun j => code (f j)).toArray⟩
def L (n : Nat) (f : Mt) : D := .lst ((List.range n).map fun i => .str (txt n (f i)))
def tbl (n : Nat) (f : Mt) : D := .ins "Table" ["grades"] [T n f]
theorem T_congr {n : Nat} {f g : Mt} (e : Eq' n f g) : T n f = T n g := by
  unfold T rowT
  congr 1
  refine List.map_congr_left fun i hi => ?_
  congr 1
  exact List.map_congr_left fun j hj => by rw [e i (List.mem_range.mp hi) j (List.mem_range.mp hj)]
theorem L_congr {n : Nat} {f g : Mt} (e : Eq' n f g) : L n f = L n g := by
  unfold L txt
  congr 1
  refine List.map_congr_left fun i hi => ?_
  congr 3
  exact List.map_congr_left fun j hj => by rw [e i (List.mem_range.mp hi) j (List.mem_range.mp hj)]
theorem tbl_congr {n : Nat} {f g : Mt} (e : Eq' n f g) : tbl n f = tbl n g := by
  unfold tbl
  rw [T_congr e]
theorem joined_ix (m : Mir) (δ : Sls) (p q : Nat) : ∀ a b : Fin 7, δ[p]? = some (.dat (gi a)) → δ[q]? = some (.dat (gi b)) → f2 oIx (f2 oIx (fC k_JOINED) (fVar p)) (fVar q) δ m = .ok (gi (J a b)) m := by
  intro a b h1 h2
  have row : ∀ a : Fin 7, ∃ r, oIx k_JOINED (gi a) = some r ∧ (∀ m, view m r = some r) ∧ ∀ b : Fin 7, oIx r (gi b) = some (gi (J a b)) := by
    refine all7 ?_ ?_ ?_ ?_ ?_ ?_ ?_ <;> exact ⟨_, rfl, (fun _ => rfl), by refine all7 ?_ ?_ ?_ ?_ ?_ ?_ ?_ <;> rfl⟩
  obtain ⟨r, e1, e2, e3⟩ := row a
  have v1 : fVar p δ m = .ok (gi a) m := by unfold fVar; rw [h1]
  have v2 : fVar q δ m = .ok (gi b) m := by unfold fVar; rw [h2]
  have er : f2 oIx (fC k_JOINED) (fVar p) δ m = .ok r m := ev_f2 rfl v1 rfl rfl e1
  exact ev_f2 er v2 (x' := r) (e2 m) rfl (e3 b)
/-- the least of grades -/
theorem minI_gi (h : Nat → Fin 7) (n : Nat) (hn : 0 < n) : minI ((List.range n).map fun k => ((h k).val : Int)) = ((minR h n).val : Int) := by
  have ne : ((List.range n).map fun k => ((h k).val : Int)) ≠ [] := by
    intro e
    have := congrArg List.length e
    simp at this
    omega
  obtain ⟨k, hk, e⟩ := List.mem_map.mp (minI_mem ne)
  obtain ⟨l, hl, e2⟩ := minR_ex (h := h) hn
  have h1 := minI_le (a := ((minR h n).val : Int)) (ns := (List.range n).map fun k => ((h k).val : Int)) (List.mem_map.mpr ⟨l, List.mem_range.mpr hl, by rw [e2]⟩)
  have h2 : (minR h n).val ≤ (h k).val := minR_le (List.mem_range.mp hk)
  rw [← e] at h1 ⊢
  omega
theorem intsOf_gi (h : Nat → Fin 7) : ∀ xs : List Nat, intsOf (xs.map fun k => gi (h k)) = some (xs.map fun k => ((h k).val : Int))
  | [] => rfl
  | x :: xs => by
    rw [List.map_cons]
    show (intsOf (xs.map fun k => gi (h k))).map _ = _
    rw [intsOf_gi h xs]
    rfl
theorem oMin_gi (h : Nat → Fin 7) (n : Nat) (hn : 0 < n) : oMin [.lst ((List.range n).map fun k => gi (h k))] = some (gi (minR h n)) := by
  show (intsOf _).bind _ = _
  rw [intsOf_gi, Option.bind_some, if_neg, minI_gi h n hn]
  · rfl
  · intro e
    have := congrArg List.length e
    simp at this
    omega
/-- the columns -/
def colsL (n : Nat) (g : Mt) : D := .lst ((List.range n).map fun j => .tup ((List.range n).map fun i => gi (g i j)))
theorem oLZ_T {n : Nat} (g : Mt) (h0 : 0 < n) (hn : n ≤ 6) : oLZ (T n g) = some (colsL n g) := by
  unfold T rowT
  show (rowsD _).bind colsD = _
  rw [rowsD_map, Option.bind_some]
  obtain ⟨k, rfl⟩ : ∃ k, n = k + 1 := ⟨n - 1, by omega⟩
  have e : (List.range (k + 1)).map (fun i => (List.range (k + 1)).map fun j => gi (g i j)) = ((List.range (k + 1)).map fun j => gi (g 0 j)) :: (List.range k).map fun i => (List.range (k + 1)).map fun j => gi (g (i + 1) j) := by
    conv => lhs; rw [List.range_succ_eq_map, List.map_cons, List.map_map]
    congr 1
    · rw [← List.range_succ_eq_map]
    · refine List.map_congr_left fun i _ => ?_
      show (List.map (fun j => gi (g (i + 1) j)) (0 :: List.map Nat.succ (List.range k))) = _
      rw [← List.range_succ_eq_map]
  have rl : ∀ r ∈ (List.range (k + 1)).map (fun i => (List.range (k + 1)).map fun j => gi (g i j)), r.length = k + 1 := fun r hr => by
    obtain ⟨i, _, rfl⟩ := List.mem_map.mp hr
    simp
  have len : ((List.range (k + 1)).map (fun i => (List.range (k + 1)).map fun j => gi (g i j))).length = k + 1 := by simp
  have col : ∀ j, j < k + 1 → colD j ((List.range (k + 1)).map (fun i => (List.range (k + 1)).map fun j => gi (g i j))) = (List.range (k + 1)).map fun i => gi (g i j) := fun j hj => by
    unfold colD
    rw [List.map_map]
    refine List.map_congr_left fun i _ => ?_
    show List.getD ((List.range (k + 1)).map fun j => gi (g i j)) j D.non = _
    rw [List.getD_eq_getElem?_getD, List.getElem?_map, List.getElem?_range hj]
    rfl
  have l0 : (((List.range (k + 1)).map fun j => gi (g 0 j))).length = k + 1 := by simp
  have c : (List.range (k + 1)).map (fun j => D.tup (colD j ((List.range (k + 1)).map (fun i => (List.range (k + 1)).map fun j => gi (g i j))))) = (List.range (k + 1)).map fun j => D.tup ((List.range (k + 1)).map fun i => gi (g i j)) := List.map_congr_left fun j hj => by rw [col j (List.mem_range.mp hj)]
  unfold colsL
  rw [← c]
  generalize hM : (List.range (k + 1)).map (fun i => (List.range (k + 1)).map fun j => gi (g i j)) = M at *
  subst e
  show (if _ then _ else _) = _
  rw [l0, if_pos ⟨by rw [len]; exact hn, by omega, by omega, List.all_eq_true.mpr fun r hr => by rw [rl r hr]; exact beq_self_eq_true _⟩]
theorem F_product {n : Nat} (f g : Mt) (m : Mir) (h0 : 0 < n) (hn : n ≤ 6) : F_product_of [.dat (T n f), .dat (T n g)] m = .ok (T n (mul n f g)) m := by
  refine ev_run0 ?_
  unfold g_product_of
  refine (ev_seq (ev_set (ev_f1 (x := T n g) rfl rfl (oLZ_T g h0 hn)))).trans (ev_ret (ev_CB (xs := [.lst ((List.range n).map fun i => rowT n (mul n f g i))]) (ev_one (ev_lc (ds := (List.range n).map fun i => rowT n (f i)) (gd := none) rfl (range_lt (by omega) _) ?_)) rfl rfl))
  refine lcL_map _ fun i _ => ⟨_, rfl, rfl, ev_CB (xs := [.lst ((List.range n).map fun j => gi (mul n f g i j))]) (ev_one (ev_lc (ds := (List.range n).map fun j => .tup ((List.range n).map fun k => gi (g k j))) (gd := none) rfl (range_lt (by omega) _) ?_)) rfl rfl⟩
  refine lcL_map _ fun j _ => ⟨_, rfl, rfl, ev_CB (xs := [.lst ((List.range n).map fun k => gi (J (f i k) (g k j)))]) (ev_one (ev_lc (m1 := m) (m2 := m) (ds := (List.range n).map fun k => .tup [gi (f i k), gi (g k j)]) (gd := none) ?_ (range_lt (by omega) _) ?_)) rfl (oMin_gi _ n h0)⟩
  · show Rs.ok (zipD ((List.range n).map fun k => gi (f i k)) ((List.range n).map fun k => gi (g k j)), none) m = _
    rw [zipD_map]
  · exact lcL_map _ fun k _ => ⟨_, rfl, rfl, joined_ix m _ 5 6 _ _ rfl rfl⟩

theorem grade_ix (m : Mir) (δ : Sls) (p : Nat) : ∀ a : Fin 7, δ[p]? = some (.dat (gi a)) → f2 oIx (fC k_GRADES) (fVar p) δ m = .ok (.str (ch a)) m := by
  intro a h1
  have e : ∀ a : Fin 7, oIx k_GRADES (gi a) = some (.str (ch a)) := by
    refine all7 ?_ ?_ ?_ ?_ ?_ ?_ ?_ <;> rfl
  have v1 : fVar p δ m = .ok (gi a) m := by unfold fVar; rw [h1]
  exact ev_f2 rfl v1 rfl rfl (e a)
theorem glue_ch (c : Nat → Nat) : ∀ (xs : List Nat) (acc : Array Nat), (xs.map fun j => (⟨#[c j]⟩ : Str)).foldl (fun acc p => acc ++ (#[] : Array Nat) ++ p.cps) acc = acc ++ (xs.map c).toArray
  | [], acc => by simp
  | x :: xs, acc => by
    rw [List.map_cons, List.foldl_cons, glue_ch c xs]
    simp
theorem join_ch (c : Nat → Nat) (n : Nat) (hn : 0 < n) : Txt.join (Str.ofString "") ((List.range n).map fun j => (⟨#[c j]⟩ : Str)) = ⟨((List.range n).map c).toArray⟩ := by
  obtain ⟨k, rfl⟩ : ∃ k, n = k + 1 := ⟨n - 1, by omega⟩
  rw [List.range_succ_eq_map, List.map_cons, List.map_cons]
  show (⟨((List.map (fun j => (⟨#[c j]⟩ : Str)) (List.map Nat.succ (List.range k))).foldl (fun acc p => acc ++ (#[] : Array Nat) ++ p.cps) #[c 0])⟩ : Str) = _
  rw [glue_ch]
  simp
theorem txt_len (n : Nat) (r : Nat → Fin 7) : (txt n r).length = n := by
  show ((List.range n).map fun j => code (r j)).toArray.size = n
  simp
theorem oJoin_ch (n : Nat) (r : Nat → Fin 7) (h0 : 0 < n) (hn : n ≤ 6) : oJoin (Str.ofString "") (.lst ((List.range n).map fun j => .str (ch (r j)))) = some (.str (txt n r)) := by
  show (textsOf _).bind _ = _
  rw [textsOf_map, Option.bind_some]
  have e : Txt.join (Str.ofString "") ((List.range n).map fun j => ch (r j)) = txt n r := join_ch (fun j => code (r j)) n h0
  rw [e, txt_len]
  have s : (List.map (fun x => x.length) (List.map (fun j => ch (r j)) (List.range n))).sum = n := by
    rw [List.map_map]
    have : (List.map ((fun x => x.length) ∘ fun j => ch (r j)) (List.range n)) = (List.range n).map fun _ => 1 := List.map_congr_left fun j _ => rfl
    rw [this, sum_ones, List.length_range]
  rw [if_pos]
  rw [s, sizeLine_eq]
  have z : (Str.ofString "").length = 0 := rfl
  rw [z]
  omega
/-- the texts, in a list that may change -/
theorem F_texts {n : Nat} (f : Mt) (m : Mir) (hm : Fm m) (h0 : 0 < n) (hn : n ≤ 6) : F_texts_of [.dat (T n f)] m = .ok (.ref m.length) (m ++ [some (L n f)]) := by
  have e : g_texts_of ([.dat (T n f)] ++ List.replicate 2 .un) m = .rt (.ref m.length) (m ++ [some (L n f)]) := by
    unfold g_texts_of
    refine ev_ret ?_
    unfold fNewLc
    have it : fSeq (fVar 0) ([.dat (T n f)] ++ List.replicate 2 .un) m = .ok ((List.range n).map fun i => rowT n (f i), none) m := rfl
    rw [it]
    simp only [Rs.bind]
    rw [if_pos (range_lt (by omega) _)]
    have all : lcL (gN 1) fYes (fS2 oJoin (fC (.str "")) (fLc (fSeq (fVar 1)) (gN 2) (fYes) (f2 oIx (fC k_GRADES) (fVar 2)) [2])) (wipeD ([.dat (T n f)] ++ List.replicate 2 .un) [1]) none ((List.range n).map fun i => rowT n (f i)) m = .ok ((List.range n).map fun i => D.str (txt n (f i))) m := by
      refine lcL_map _ fun i _ => ⟨_, rfl, rfl, ev_s2 rfl (ev_lc (m1 := m) (m2 := m) (ds := (List.range n).map fun j => gi (f i j)) (ys := (List.range n).map fun j => .str (ch (f i j))) (gd := none) rfl (range_lt (by omega) _) ?_) rfl (oJoin_ch n (f i) h0 hn)⟩
      exact lcL_map _ fun j _ => ⟨_, rfl, rfl, grade_ix m _ 2 _ rfl⟩
    rw [all]
    rfl
  unfold F_texts_of runF
  show (match g_texts_of ([.dat (T n f)] ++ List.replicate 2 .un) m with
    | .rt d m1 => _
    | .nx _ m1 => _
    | .exc x _ m1 => _
    | _ => _) = _
  rw [e]
  show trimR m.length (.ref m.length) (m ++ [some (L n f)]) = _
  unfold trimR
  rw [if_neg (by simp), if_neg]
  intro z
  have z1 := (Bool.and_eq_true_iff.mp z).1
  have z2 : Nat.blt m.length m.length = true := z1
  simp [Nat.blt_eq] at z2
theorem low_T (k n : Nat) (f : Mt) : D.low k (T n f) = true := by
  unfold T
  rw [D.low]
  refine low_map (fun i => ?_) _
  unfold rowT
  rw [D.low]
  exact low_map (fun j => rfl) _
theorem low_tbl (k n : Nat) (f : Mt) : D.low k (tbl n f) = true := by
  unfold tbl
  rw [D.low, D.lows, D.lows, low_T]
  rfl
theorem low_L (k n : Nat) (f : Mt) : D.low k (L n f) = true := by
  unfold L
  rw [D.low]
  exact low_map (fun j => rfl) _
theorem signs_txt (n : Nat) (r : Nat → Fin 7) : signsOf (txt n r) = (List.range n).map fun j => .str (ch (r j)) := by
  unfold signsOf txt
  rw [List.map_map]
  rfl
theorem in_grades : ∀ g : Fin 7, oIn (.str (ch g)) k_GRADES = some (.bl true) := by
  refine all7 ?_ ?_ ?_ ?_ ?_ ?_ ?_ <;> kernel_rfl
theorem F_row {n : Nat} (r : Nat → Fin 7) (m : Mir) (hn : n ≤ 6) : F_is_row [.dat (.str (txt n r)), .dat (.int n)] m = .ok (.bl true) m := by
  refine ev_run0 ?_
  unfold g_is_row
  refine ev_ret ((ev_andVT (m1 := m) rfl).trans ((ev_andVT (m1 := m) (ev_f2 (ev_CB (m1 := m) (xs := [.str (txt n r)]) (ys := [.str (txt n r)]) (d := .int (txt n r).length) rfl rfl rfl) rfl rfl rfl ?_)).trans (ev_CB (m1 := m) (xs := [.lst ((List.range n).map fun _ => D.bl true)]) (ev_one (ev_lc (m1 := m) (m2 := m) (ds := (List.range n).map fun j => .str (ch (r j))) (gd := none) ?_ (range_lt (by omega) _) ?_)) rfl (oAll_true _))))
  · rw [txt_len, oEq_int, beq_self_eq_true]
  · show Rs.ok (signsOf (txt n r), none) m = _
    rw [signs_txt]
  · exact lcL_map _ fun j _ => ⟨_, rfl, rfl, ev_f2 rfl rfl rfl rfl (in_grades _)⟩
theorem tab_ch : ∀ g : Fin 7, k_GRADE_OF.lookup (ch g) = some (gi g) := by
  refine all7 ?_ ?_ ?_ ?_ ?_ ?_ ?_ <;> kernel_rfl
def pyT (n : Nat) (f : Mt) : PyData := .tuple ((List.range n).map fun i => .tuple ((List.range n).map fun j => .int (f i j).val))
def pyL (n : Nat) (f : Mt) : PyData := .list ((List.range n).map fun i => .str (txt n (f i)))
theorem py_T (n : Nat) (f : Mt) : D.py (T n f) = some (pyT n f) := by
  unfold T pyT
  rw [D.py, pyAll_map (g := fun i => PyData.tuple ((List.range n).map fun j => .int (f i j).val)) fun i => ?_]
  · rfl
  · unfold rowT
    rw [D.py, pyAll_map (g := fun j => PyData.int (f i j).val) fun j => rfl]
    rfl
theorem shape_T (n : Nat) (f : Mt) : SeqAt.shaped (pyT n f) = true := by
  have h := tup_shape (shaped_map (k := 1) (fun i => tup_shape (k := 0) (shaped_map (k := 0) (f := fun j => PyData.int (f i j).val) (fun j => ⟨by simp [PyData.canLay0], by simp [PyData.depth]⟩) (List.range n))) (List.range n))
  exact shaped_of h.1 (Nat.le_trans h.2 (by decide))
def eqB (n : Nat) (f g : Mt) : Bool := (List.range n).all fun i => (List.range n).all fun j => (f i j).val == (g i j).val
theorem eqB_iff {n : Nat} {f g : Mt} : eqB n f g = true ↔ Eq' n f g := by
  unfold eqB
  rw [List.all_eq_true]
  refine ⟨fun h i hi j hj => ?_, fun h i hi => List.all_eq_true.mpr fun j hj => ?_⟩
  · have := List.all_eq_true.mp (h i (List.mem_range.mpr hi)) j (List.mem_range.mpr hj)
    exact Fin.ext (by simpa using this)
  · rw [h i (List.mem_range.mp hi) j (List.mem_range.mp hj)]
    exact beq_self_eq_true _
theorem eqv_int (a b : Fin 7) : PyData.eqv (.int a.val) (.int b.val) = (a.val == b.val) := by
  rw [PyData.eqv]
  by_cases h : a.val = b.val
  · rw [h]; simp
  · have : ((a.val : Int) == (b.val : Int)) = false := beq_false_of_ne (by omega)
    rw [this, beq_false_of_ne h]
theorem eqv_T (n : Nat) (f g : Mt) : PyData.eqv (pyT n f) (pyT n g) = eqB n f g := by
  unfold pyT eqB
  rw [PyData.eqv, eqvAll_map]
  congr 1
  funext i
  rw [PyData.eqv, eqvAll_map]
  congr 1
  funext j
  exact eqv_int _ _
theorem oEq_T (n : Nat) (f g : Mt) : oEq (T n f) (T n g) = some (.bl (eqB n f g)) := by
  rw [oEq_of (py_T n f) (py_T n g) (shape_T n f) (shape_T n g), eqv_T]
theorem oNe_T (n : Nat) (f g : Mt) : oNe (T n f) (T n g) = some (.bl (!eqB n f g)) := by
  rw [oNe_of (py_T n f) (py_T n g) (shape_T n f) (shape_T n g), eqv_T]
theorem py_L (n : Nat) (f : Mt) : D.py (L n f) = some (pyL n f) := by
  unfold L pyL
  rw [D.py, pyAll_map (g := fun i => PyData.str (txt n (f i))) fun i => rfl]
  rfl
theorem code_lt : ∀ g : Fin 7, code g < 128 := by
  refine all7 ?_ ?_ ?_ ?_ ?_ ?_ ?_ <;> decide
theorem code_inj : ∀ a b : Fin 7, code a = code b → a = b := by
  refine all7 ?_ ?_ ?_ ?_ ?_ ?_ ?_ <;> refine all7 ?_ ?_ ?_ ?_ ?_ ?_ ?_ <;> decide
theorem strOk_txt (n : Nat) (r : Nat → Fin 7) (hn : n ≤ 6) : PyData.strOk (txt n r) = true := by
  show (((List.range n).map fun j => code (r j)).toArray.all fun c => decide (c < 0x110000)) = true
  rw [List.all_toArray, List.all_map]
  refine List.all_eq_true.mpr fun j _ => ?_
  exact decide_eq_true (show code (r j) < 0x110000 from Nat.lt_trans (code_lt (r j)) (by decide))
theorem shape_L (n : Nat) (f : Mt) (hn : n ≤ 6) : SeqAt.shaped (pyL n f) = true := by
  have h := lst_shape (k := 0) (shaped_map (k := 0) (f := fun i => PyData.str (txt n (f i))) (fun i => ⟨by simp [PyData.canLay0, strOk_txt n (f i) hn], by simp [PyData.depth]⟩) (List.range n))
  exact shaped_of h.1 (Nat.le_trans h.2 (by decide))
theorem txt_eq (n : Nat) (r s : Nat → Fin 7) : (txt n r == txt n s) = (List.range n).all fun j => (r j).val == (s j).val := by
  have key : ∀ xs : List Nat, (xs.map fun j => code (r j)) = (xs.map fun j => code (s j)) ↔ (xs.all fun j => (r j).val == (s j).val) = true := by
    intro xs
    induction xs with
    | nil => simp
    | cons x xs ih =>
      rw [List.map_cons, List.map_cons, List.cons.injEq, List.all_cons, Bool.and_eq_true, ih]
      refine and_congr ⟨fun h => ?_, fun h => ?_⟩ Iff.rfl
      · rw [code_inj _ _ h]; exact beq_self_eq_true _
      · rw [Fin.ext (by simpa using h : (r x).val = (s x).val)]
  rw [Bool.eq_iff_iff, ← key, beq_iff_eq]
  unfold txt
  constructor
  · intro h
    have := congrArg (fun z : Str => z.cps.toList) h
    simpa using this
  · intro h
    rw [h]
theorem eqv_L (n : Nat) (f g : Mt) : PyData.eqv (pyL n f) (pyL n g) = eqB n f g := by
  unfold pyL eqB
  rw [PyData.eqv, eqvAll_map]
  congr 1
  funext i
  rw [PyData.eqv]
  exact txt_eq _ _ _
theorem oEq_L (n : Nat) (f g : Mt) (hn : n ≤ 6) : oEq (L n f) (L n g) = some (.bl (eqB n f g)) := by
  rw [oEq_of (py_L n f) (py_L n g) (shape_L n f hn) (shape_L n g hn), eqv_L]
theorem oNe_L (n : Nat) (f g : Mt) (hn : n ≤ 6) : oNe (L n f) (L n g) = some (.bl (!eqB n f g)) := by
  rw [oNe_of (py_L n f) (py_L n g) (shape_L n f hn) (shape_L n g hn), eqv_L]

theorem ev_fld {δ : Sls} {m : Mir} {n i : Nat} {f : Mt} (h : δ[i]? = some (.dat (tbl n f))) : f1 (oFld ["Table"] "grades") (fVar i) δ m = .ok (T n f) m := by
  have v : fVar i δ m = .ok (tbl n f) m := by unfold fVar; rw [h]
  exact ev_f1 v rfl rfl
theorem len_T (n : Nat) (f : Mt) : oLen [T n f] = some (.int n) := by
  unfold T
  show some (D.int _) = _
  rw [List.length_map, List.length_range]
section
variable {n : Nat} {f g : Mt} {m : Mir}
theorem F_eq (h0 : 0 < n) (hn : n ≤ 6) : F_Table___eq [.dat (tbl n f), .dat (tbl n g)] m = .ok (.bl (eqB n f g)) m := by
  refine ev_run0 ?_
  unfold g_Table___eq
  refine ev_ret ((ev_andVT (m1 := m) rfl).trans (ev_f2 (ev_fld (n := n) (f := f) rfl) (ev_fld (n := n) (f := g) rfl) rfl rfl (oEq_T n f g)))
theorem F_bool (h0 : 0 < n) (hn : n ≤ 6) : F_Table___bool [.dat (tbl n f)] m = .ok (.bl (eqB n (mul n f f) f)) m := by
  refine ev_run0 ?_
  unfold g_Table___bool
  refine ev_ret (ev_CB (ev_one (ev_f2 (ev_callN (as := [T n f, T n f]) (m1 := m) (ev_cons (ev_fld (n := n) (f := f) rfl) (ev_one (ev_fld (n := n) (f := f) rfl))) rfl (F_product f f m h0 hn)) (ev_fld (n := n) (f := f) rfl) rfl rfl (oEq_T n _ _))) rfl rfl)
end
section
variable {n : Nat} {f g : Mt} {m : Mir}
theorem F_int (c : Int) : F_is_integer [.dat (.int c)] m = .ok (.bl true) m := by
  refine ev_run0 ?_
  unfold g_is_integer
  exact ev_ret ((ev_andVT (m1 := m) rfl).trans rfl)
theorem F_ident (h0 : 0 < n) (hn : n ≤ 6) : F_identity_rows [.dat (.int n)] m = .ok (T n one) m := by
  refine ev_run0 ?_
  unfold g_identity_rows
  refine ev_ret (ev_CB (xs := [.lst ((List.range n).map fun i => rowT n (one i))]) (ev_one (ev_lc (m1 := m) (m2 := m) (ds := (List.range n).map fun (i : Nat) => D.int (i : Nat)) (gd := none) ?_ (range_lt (by omega) _) ?_)) rfl rfl)
  · rw [← rng_nat]
    exact ev_range1 rfl (by omega)
  · refine lcL_map _ fun i _ => ⟨_, rfl, rfl, ev_CB (xs := [.lst ((List.range n).map fun j => gi (one i j))]) (ev_one (ev_lc (m1 := m) (m2 := m) (ds := (List.range n).map fun (j : Nat) => D.int (j : Nat)) (gd := none) ?_ (range_lt (by omega) _) ?_)) rfl rfl⟩
    · rw [← rng_nat]
      exact ev_range1 rfl (by omega)
    · refine lcL_map _ fun j _ => ⟨_, rfl, rfl, ?_⟩
      unfold fIf
      rw [ev_fB (b := (((j : Nat) : Int) == ((i : Nat) : Int))) (m1 := m) (ev_f2 rfl rfl rfl rfl (oEq_int _ _))]
      simp only [Rs.bind]
      unfold one
      by_cases h : i = j
      · subst h
        rw [if_pos (beq_self_eq_true _), if_pos rfl]
        rfl
      · rw [if_neg h, if_neg]
        · rfl
        · intro e
          have := eq_of_beq e
          omega
end
section
variable {n : Nat} {f g : Mt} {m : Mir}
theorem F_joined (m : Mir) : ∀ a b : Fin 7, F_law_joined [.dat (.str (ch a)), .dat (.str (ch b))] m = .ok (.str (ch (J a b))) m := by
  have h : ∀ a b : Fin 7, g_law_joined [.dat (.str (ch a)), .dat (.str (ch b))] m = .rt (.str (ch (J a b))) m := by
    refine all7 ?_ ?_ ?_ ?_ ?_ ?_ ?_ <;> refine all7 ?_ ?_ ?_ ?_ ?_ ?_ ?_ <;> kernel_rfl
  exact fun a b => ev_run0 (h a b)
theorem best_body (m : Mir) (X : Sl) : ∀ c v : Fin 7, b_law_best_1 [X, .dat (.str (ch c)), .dat (.str (ch v))] m = .nx [X, .dat (.str (ch (mn c v))), .dat (.str (ch v))] m := by
  refine all7 ?_ ?_ ?_ ?_ ?_ ?_ ?_ <;> refine all7 ?_ ?_ ?_ ?_ ?_ ?_ ?_ <;> kernel_rfl
theorem best_loop (h : Nat → Fin 7) (X : Sl) : ∀ (xs : List Nat) (c : Fin 7) (s : Sl), ∃ s', forL (gN 2) b_law_best_1 none (xs.map fun k => .str (ch (h k))) [X, .dat (.str (ch c)), s] m = .nx [X, .dat (.str (ch (xs.foldl (fun a k => mn a (h k)) c))), s'] m
  | [], c, s => ⟨s, rfl⟩
  | x :: xs, c, s => by
    obtain ⟨s', e⟩ := best_loop h X xs (mn c (h x)) (.dat (.str (ch (h x))))
    exact ⟨s', (forL_cons (δ1 := [X, .dat (.str (ch c)), .dat (.str (ch (h x)))]) rfl (best_body m X c (h x))).trans e⟩
theorem minR_fold (h : Nat → Fin 7) : ∀ n, minR h n = (List.range n).foldl (fun a k => mn a (h k)) 6
  | 0 => rfl
  | n + 1 => by
    rw [List.range_succ, List.foldl_append, ← minR_fold h n]
    rfl
theorem F_best (h : Nat → Fin 7) : F_law_best [.dat (.lst ((List.range n).map fun k => .str (ch (h k))))] m = .ok (.str (ch (minR h n))) m := by
  refine ev_run0 ?_
  unfold g_law_best
  obtain ⟨s', e⟩ := best_loop (m := m) h (.dat (.lst ((List.range n).map fun k => .str (ch (h k))))) (List.range n) 6 .un
  refine (ev_seq (δ1 := [.dat (.lst ((List.range n).map fun k => .str (ch (h k)))), .dat (.str (ch 6)), .un]) (m1 := m) rfl).trans ((ev_seq ((ev_for (m1 := m) (gd := none) (ds := (List.range n).map fun k => .str (ch (h k))) rfl).trans e)).trans ?_)
  rw [← minR_fold]
  rfl
theorem ix_L {i : Nat} (hi : i < n) : oIx (L n f) (.int i) = some (.str (txt n (f i))) := by
  unfold L
  show atI _ _ = _
  rw [atI_nat _ _ (by simpa using hi), List.getElem?_map, List.getElem?_range hi]
  rfl
theorem ix_txt {r : Nat → Fin 7} {k : Nat} (hk : k < n) : oIx (.str (txt n r)) (.int k) = some (.str (ch (r k))) := by
  show (atI (txt n r).cps.toList (k : Int)).map _ = _
  have e : (txt n r).cps.toList = (List.range n).map fun j => code (r j) := by unfold txt; simp
  rw [e, atI_nat _ _ (by simpa using hk), List.getElem?_map, List.getElem?_range hk]
  rfl
theorem ev_ix2 {δ : Sls} {p q r : Nat} {i k : Nat} (hp : δ[p]? = some (.dat (L n f))) (hq : δ[q]? = some (.dat (.int i))) (hr : δ[r]? = some (.dat (.int k))) (hi : i < n) (hk : k < n) : f2 oIx (f2 oIx (fVar p) (fVar q)) (fVar r) δ m = .ok (.str (ch (f i k))) m := by
  have v1 : fVar p δ m = .ok (L n f) m := by unfold fVar; rw [hp]
  have v2 : fVar q δ m = .ok (.int i) m := by unfold fVar; rw [hq]
  have v3 : fVar r δ m = .ok (.int k) m := by unfold fVar; rw [hr]
  exact ev_f2 (ev_f2 v1 v2 rfl rfl (ix_L hi)) v3 rfl rfl (ix_txt hk)
theorem txt_snoc (r : Nat → Fin 7) (s : Nat) : txt s r ++ ch (r s) = txt (s + 1) r := by
  unfold txt ch
  rw [List.range_succ, List.map_append]
  show (⟨((List.range s).map fun j => code (r j)).toArray ++ #[code (r s)]⟩ : Str) = _
  simp
theorem oAdd_txt (r : Nat → Fin 7) (s : Nat) (hs : s ≤ 6) : oAdd (.str (txt s r)) (.str (ch (r s))) = some (.str (txt (s + 1) r)) := by
  show (if _ then _ else _) = _
  have z : (ch (r s)).length = 1 := rfl
  rw [if_pos (by rw [txt_len, z, sizeLine_eq]; omega), txt_snoc]
theorem times_1 {R K : Sl} {i j : Nat} (hn : n ≤ 6) (hi : i < n) (hj : j < n) : ∃ K', b_law_times_1 [.dat (L n f), .dat (L n g), .dat (.int n), R, .dat (.int i), .dat (.str (txt j (mul n f g i))), .dat (.int j), K] m = .nx [.dat (L n f), .dat (L n g), .dat (.int n), R, .dat (.int i), .dat (.str (txt (j + 1) (mul n f g i))), .dat (.int j), K] m ∧ K' = K := by
  refine ⟨K, ?_, rfl⟩
  unfold b_law_times_1
  refine ev_set (ev_f2 rfl (ev_callN (as := [.lst ((List.range n).map fun k => .str (ch (J (f i k) (g k j))))]) (m1 := m) (ev_one (ev_lc (m1 := m) (m2 := m) (ds := (List.range n).map fun (k : Nat) => D.int (k : Nat)) (gd := none) ?_ (range_lt (by omega) _) ?_)) rfl (F_best _)) rfl rfl (oAdd_txt (mul n f g i) j (by omega)))
  · rw [← rng_nat]
    exact ev_range1 rfl (by omega)
  · refine lcL_map _ fun k hk => ⟨_, rfl, rfl, ?_⟩
    have hk' := List.mem_range.mp hk
    exact ev_callN (as := [.str (ch (f i k)), .str (ch (g k j))]) (m1 := m) (ev_cons (ev_ix2 (n := n) (f := f) (i := i) (k := k) rfl rfl rfl hi hk') (ev_one (ev_ix2 (n := n) (f := g) (i := k) (k := j) rfl rfl rfl hk' hj))) rfl (F_joined m _ _)
theorem times_row {R K : Sl} {i : Nat} (hn : n ≤ 6) (hi : i < n) : ∀ (k s : Nat) (j : Sl), s + k ≤ n → ∃ j', forL (gN 6) b_law_times_1 none ((List.range' s k).map fun (j : Nat) => D.int (j : Nat)) [.dat (L n f), .dat (L n g), .dat (.int n), R, .dat (.int i), .dat (.str (txt s (mul n f g i))), j, K] m = .nx [.dat (L n f), .dat (L n g), .dat (.int n), R, .dat (.int i), .dat (.str (txt (s + k) (mul n f g i))), j', K] m
  | 0, s, j, _ => ⟨j, rfl⟩
  | k + 1, s, j, h => by
    obtain ⟨_, e1, _⟩ := times_1 (m := m) (f := f) (g := g) (R := R) (K := K) (i := i) (j := s) hn hi (by omega)
    obtain ⟨j', e⟩ := times_row (R := R) (K := K) hn hi k (s + 1) (.dat (.int (s : Nat))) (by omega)
    refine ⟨j', ?_⟩
    rw [List.range'_succ, List.map_cons]
    refine (forL_cons (δ1 := [.dat (L n f), .dat (L n g), .dat (.int n), R, .dat (.int i), .dat (.str (txt s (mul n f g i))), .dat (.int (s : Nat)), K]) rfl e1).trans ?_
    rw [e, show s + 1 + k = s + (k + 1) by omega]
/-- the rows so far -/
def rowsTo (n i : Nat) (f : Mt) : List D := (List.range i).map fun i => .str (txt n (f i))
theorem txt0 (r : Nat → Fin 7) : txt 0 r = Str.ofString "" := by
  unfold txt
  rfl
theorem times_2 {row j K : Sl} {i : Nat} (hn : n ≤ 6) (hi : i < n) : ∃ row' j', b_law_times_2 [.dat (L n f), .dat (L n g), .dat (.int n), .dat (.ref m.length), .dat (.int i), row, j, K] (m ++ [some (.lst (rowsTo n i (mul n f g)))]) = .nx [.dat (L n f), .dat (L n g), .dat (.int n), .dat (.ref m.length), .dat (.int i), row', j', K] (m ++ [some (.lst (rowsTo n (i + 1) (mul n f g)))]) := by
  obtain ⟨j', e⟩ := times_row (m := m ++ [some (.lst (rowsTo n i (mul n f g)))]) (f := f) (g := g) (R := .dat (.ref m.length)) (K := K) (i := i) hn hi n 0 j (by omega)
  rw [Nat.zero_add] at e
  refine ⟨.dat (.str (txt n (mul n f g i))), j', ?_⟩
  unfold b_law_times_2
  refine (ev_seq (δ1 := [.dat (L n f), .dat (L n g), .dat (.int n), .dat (.ref m.length), .dat (.int i), .dat (.str (txt 0 (mul n f g i))), j, K]) (m1 := m ++ [some (.lst (rowsTo n i (mul n f g)))]) (ev_set (d := .str (txt 0 (mul n f g i))) (by rw [txt0]; rfl))).trans ?_
  refine (ev_seq ((ev_for (m1 := m ++ [some (.lst (rowsTo n i (mul n f g)))]) (gd := none) (ds := (List.range' 0 n).map fun (j : Nat) => D.int (j : Nat)) ?_).trans e)).trans ?_
  · rw [← List.range_eq_range', ← rng_nat]
    exact ev_range1 rfl (by omega)
  · refine ev_drop (d := .non) ?_
    unfold fApp
    show (match cell (m ++ [some (.lst (rowsTo n i (mul n f g)))]) m.length with
      | some (.lst _) => _
      | _ => _) = _
    rw [cell_snoc]
    show (match cell (m ++ [some (.lst (rowsTo n i (mul n f g)))]) m.length with
      | some (.lst ds) => _
      | _ => _) = _
    rw [cell_snoc]
    show (if _ then _ else _) = _
    rw [if_pos (by unfold rowsTo; rw [List.length_map, List.length_range, sizeLine_eq]; omega), set_snoc]
    unfold rowsTo
    rw [List.range_succ, List.map_append]
    rfl
theorem times_all (hn : n ≤ 6) : ∀ (k s : Nat) (x row j K : Sl), s + k ≤ n → ∃ x' row' j', forL (gN 4) b_law_times_2 none ((List.range' s k).map fun (j : Nat) => D.int (j : Nat)) [.dat (L n f), .dat (L n g), .dat (.int n), .dat (.ref m.length), x, row, j, K] (m ++ [some (.lst (rowsTo n s (mul n f g)))]) = .nx [.dat (L n f), .dat (L n g), .dat (.int n), .dat (.ref m.length), x', row', j', K] (m ++ [some (.lst (rowsTo n (s + k) (mul n f g)))])
  | 0, s, x, row, j, K, _ => ⟨x, row, j, rfl⟩
  | k + 1, s, x, row, j, K, h => by
    obtain ⟨r1, j1, e1⟩ := times_2 (m := m) (f := f) (g := g) (row := row) (j := j) (K := K) (i := s) hn (by omega)
    obtain ⟨x', row', j', e⟩ := times_all hn k (s + 1) (.dat (.int (s : Nat))) r1 j1 K (by omega)
    refine ⟨x', row', j', ?_⟩
    rw [List.range'_succ, List.map_cons]
    refine (forL_cons (δ1 := [.dat (L n f), .dat (L n g), .dat (.int n), .dat (.ref m.length), .dat (.int (s : Nat)), row, j, K]) rfl e1).trans ?_
    rw [e, show s + 1 + k = s + (k + 1) by omega]
theorem len_L : oLen [L n f] = some (.int n) := by
  unfold L
  show some (D.int _) = _
  rw [List.length_map, List.length_range]
theorem F_times (hm : Fm m) (hn : n ≤ 6) : F_law_times [.dat (L n f), .dat (L n g)] m = .ok (L n (mul n f g)) m := by
  refine ev_run1 hm (fun k => low_L k n _) ?_
  unfold g_law_times
  obtain ⟨x', row', j', e⟩ := times_all (m := m) (f := f) (g := g) hn n 0 .un .un .un .un (by omega)
  rw [Nat.zero_add] at e
  refine (ev_seq (δ1 := [.dat (L n f), .dat (L n g), .dat (.int n), .un, .un, .un, .un, .un]) (m1 := m) (ev_set (ev_CB (ev_one rfl) rfl len_L))).trans ?_
  refine (ev_seq (δ1 := [.dat (L n f), .dat (L n g), .dat (.int n), .dat (.ref m.length), .un, .un, .un, .un]) (m1 := m ++ [some (.lst (rowsTo n 0 (mul n f g)))]) (ev_set (ev_newL (ds := []) rfl (Nat.zero_le _)))).trans ?_
  refine (ev_seq ((ev_for (m1 := m ++ [some (.lst (rowsTo n 0 (mul n f g)))]) (gd := none) (ds := (List.range' 0 n).map fun (j : Nat) => D.int (j : Nat)) ?_).trans e)).trans ?_
  · rw [← List.range_eq_range', ← rng_nat]
    exact ev_range1 rfl (by omega)
  · refine ev_ret ?_
    unfold fFrz
    show (match frzD 9 (.ref m.length) (m ++ [some (.lst (rowsTo n n (mul n f g)))]) with
      | some a => _
      | none => _) = _
    have fz : frzD 9 (.ref m.length) (m ++ [some (.lst (rowsTo n n (mul n f g)))]) = some (L n (mul n f g), m ++ [none]) := by
      show (match cell (m ++ [some (.lst (rowsTo n n (mul n f g)))]) m.length with
        | some (.lst ds) => _
        | some (.ins c ns ds) => _
        | some (.dK ks ds) => _
        | some (.dT ks ds) => _
        | _ => _) = _
      rw [cell_snoc]
      show (mapF (frzD 8) (rowsTo n n (mul n f g)) ((m ++ [some (D.lst (rowsTo n n (mul n f g)))]).set m.length none)).bind _ = _
      rw [set_snoc]
      unfold rowsTo
      rw [mapF_str]
      rfl
    rw [fz]
end
section
variable {n : Nat} {f g : Mt} {m : Mir}
end

section
variable {δ : Sls} {ns : List Int} {i k r : Int} {rest : Mir}
end

/-- a text of letters -/
def tx (gs : List (Fin 7)) : Str := ⟨(gs.map code).toArray⟩
theorem tx_len (gs : List (Fin 7)) : oLen [.str (tx gs)] = some (.int gs.length) := by
  show some (D.int ((tx gs).length : Nat)) = _
  have : (tx gs).length = gs.length := by
    show (gs.map code).toArray.size = _
    simp
  rw [this]
theorem tx_ix (gs : List (Fin 7)) (i : Nat) (hi : i < gs.length) : ∃ y, oIx (.str (tx gs)) (.int i) = some y ∧ ∃ g, y = .str (ch g) := by
  refine ⟨.str (ch gs[i]), ?_, _, rfl⟩
  show (atI (tx gs).cps.toList (i : Int)).map _ = _
  have e : (tx gs).cps.toList = gs.map code := by unfold tx; simp
  rw [e, atI_nat _ _ (by simpa using hi), List.getElem?_map, List.getElem?_eq_getElem hi]
  rfl
/-- the five texts -/
def Five (x : D) : Prop := ∃ gs : List (Fin 7), 0 < gs.length ∧ gs.length < 1000 ∧ x = .str (tx gs)
def five : List D := [.str "aseudwx", .str "xeu", .str "xxsud", .str "xea", .str "xuw"]
theorem five_ok : ∀ i : Nat, i < 5 → ∃ y, oIx (.lst five) (.int i) = some y ∧ Five y := by
  have e1 : Str.ofString "aseudwx" = tx [0, 1, 2, 3, 4, 5, 6] := by kernel_rfl
  have e2 : Str.ofString "xeu" = tx [6, 2, 3] := by kernel_rfl
  have e3 : Str.ofString "xxsud" = tx [6, 6, 1, 3, 4] := by kernel_rfl
  have e4 : Str.ofString "xea" = tx [6, 2, 0] := by kernel_rfl
  have e5 : Str.ofString "xuw" = tx [6, 3, 5] := by kernel_rfl
  intro i hi
  have at_ : oIx (.lst five) (.int i) = five[i]? := atI_nat five i hi
  rw [at_]
  match i, hi with
  | 0, _ => exact ⟨_, rfl, [0, 1, 2, 3, 4, 5, 6], by decide, by decide, by rw [← e1]⟩
  | 1, _ => exact ⟨_, rfl, [6, 2, 3], by decide, by decide, by rw [← e2]⟩
  | 2, _ => exact ⟨_, rfl, [6, 6, 1, 3, 4], by decide, by decide, by rw [← e3]⟩
  | 3, _ => exact ⟨_, rfl, [6, 2, 0], by decide, by decide, by rw [← e4]⟩
  | 4, _ => exact ⟨_, rfl, [6, 3, 5], by decide, by decide, by rw [← e5]⟩
theorem F_drawn {m t : Mir} {l n : Nat} (h : GlT t l m) (h0 : 0 < n) (hn : n ≤ 6) : ∃ (f : Mt) (m' : Mir), F_law_drawn_rows [.dat (.ref 0), .dat (.int n)] m = .ok (L n f) m' ∧ GlT t l m' := by
  obtain ⟨v, m1, e1, ⟨gs, g0, g1, rfl⟩, hg1⟩ := of_okL h (x := .lst five) (c := 5) Five rfl rfl (by decide) (by decide) five_ok (fun _ => rfl)
  have first : sSet 2 (fCallN 2 F_law_of (fCons (fVar 0) (fCons (fLst (fCons (fC (.str "aseudwx")) (fCons (fC (.str "xeu")) (fCons (fC (.str "xxsud")) (fCons (fC (.str "xea")) (fCons (fC (.str "xuw")) (fNil))))))) (fNil)))) [.dat (.ref 0), .dat (.int n), .un, .un, .un] m = .nx [.dat (.ref 0), .dat (.int n), .dat (.str (tx gs)), .un, .un] m1 :=
    ev_set (ev_callN (as := [.ref 0, .lst five]) (m1 := m) (ev_cons rfl (ev_one (ev_lst rfl (by decide)))) rfl e1)
  have rg : ∀ (δ : Sls) (m : Mir), δ[1]? = some (.dat (.int n)) → fRange1 (fCons (fVar 1) (fNil)) δ m = .ok ((List.range n).map fun (j : Nat) => D.int (j : Nat), none) m := fun δ m hδ => by
    rw [← rng_nat]
    refine ev_range1 (ev_one ?_) (by omega)
    unfold fVar
    rw [hδ]
  have row : ∀ (i : D) (m : Mir), GlT t l m → ∃ (y : D) (m' : Mir), fS2 oJoin (fC (.str "")) (fLc (fRange1 (fCons (fVar 1) (fNil))) (gN 4) (fYes) (fCallN 2 F_law_of (fCons (fVar 0) (fCons (fVar 2) (fNil)))) [4]) [.dat (.ref 0), .dat (.int n), .dat (.str (tx gs)), .dat i, .un] m = .ok y m' ∧ (∃ r, y = .str (txt n r)) ∧ GlT t l m' := by
    intro i m hm
    obtain ⟨ys, m2, e2, hl, hy, hg2⟩ := DM.lcL_all (t := gN 4) (tt := fYes) (te := fCallN 2 F_law_of (fCons (fVar 0) (fCons (fVar 2) (fNil)))) (δ0 := [.dat (.ref 0), .dat (.int n), .dat (.str (tx gs)), .dat i, .un]) (GlT t l) (fun y => ∃ g, y = .str (ch g)) ((List.range n).map fun (j : Nat) => D.int (j : Nat)) m (fun d _ m hm => by
      obtain ⟨y, m3, e3, hy, hg3⟩ := of_okL hm (x := .str (tx gs)) (c := gs.length) (fun y => ∃ g, y = .str (ch g)) rfl (tx_len gs) g0 g1 (tx_ix gs) (fun _ => rfl)
      exact ⟨_, rfl, m, rfl, y, m3, ev_callN (as := [.ref 0, .str (tx gs)]) (m1 := m) rfl rfl e3, hy, hg3⟩) hm
    rw [List.length_map, List.length_range] at hl
    obtain ⟨r, er⟩ := pick (0 : Fin 7) (a := fun g => D.str (ch g)) (fun y h => h) ys hy
    rw [hl] at er
    refine ⟨.str (txt n r), m2, ev_join0 (y := .lst ys) (y' := .lst ys) (ev_lc (m1 := m) (gd := none) (rg _ m rfl) (by rw [List.length_map, List.length_range, sizeLine_eq]; omega) e2) rfl ?_, ⟨r, rfl⟩, hg2⟩
    rw [er]
    exact oJoin_ch n r h0 hn
  obtain ⟨ys, m2, e2, hl, hy, hg2⟩ := DM.lcL_all (t := gN 3) (tt := fYes) (te := fS2 oJoin (fC (.str "")) (fLc (fRange1 (fCons (fVar 1) (fNil))) (gN 4) (fYes) (fCallN 2 F_law_of (fCons (fVar 0) (fCons (fVar 2) (fNil)))) [4])) (δ0 := [.dat (.ref 0), .dat (.int n), .dat (.str (tx gs)), .un, .un]) (GlT t l) (fun y => ∃ r, y = .str (txt n r)) ((List.range n).map fun (j : Nat) => D.int (j : Nat)) m1 (fun d _ m hm => by
    obtain ⟨y, m3, e3, hy, hg3⟩ := row d m hm
    exact ⟨_, rfl, m, rfl, y, m3, e3, hy, hg3⟩) hg1
  rw [List.length_map, List.length_range] at hl
  obtain ⟨f, ef⟩ := pick (fun _ : Nat => (0 : Fin 7)) (a := fun r => D.str (txt n r)) (fun y h => h) ys hy
  rw [hl] at ef
  have whole : g_law_drawn_rows [.dat (.ref 0), .dat (.int n), .un, .un, .un] m = .rt (L n f) m2 := by
    unfold g_law_drawn_rows
    refine (ev_seq first).trans (ev_ret ?_)
    have := ev_lc (fi := fRange1 (fCons (fVar 1) (fNil))) (t := gN 3) (tt := fYes) (δ := [.dat (.ref 0), .dat (.int n), .dat (.str (tx gs)), .un, .un]) (m := m1) (m1 := m1) (gd := none) (vs := [3]) (rg _ m1 rfl) (by rw [List.length_map, List.length_range, sizeLine_eq]; omega) e2
    rw [ef] at this
    exact this
  refine ⟨f, m2, ?_, hg2⟩
  show (match g_law_drawn_rows [.dat (.ref 0), .dat (.int n), .un, .un, .un] m with
    | .rt d m1 => _
    | .nx _ m1 => _
    | .exc x _ m1 => _
    | _ => _) = _
  rw [whole]
  show trimR _ _ _ = _
  unfold trimR
  rw [if_pos (hg2.2.trans h.2.symm)]
end K17

/-! k17: tables made of rows of any kind. -/
namespace K17
open PySem PySem.Spec PyProof.Rows L2 DM Alg Bag
theorem sames_str {α : Type} (a : α → Str) : ∀ xs : List α, D.sames (xs.map fun x => D.str (a x)) (xs.map fun x => D.str (a x)) = true
  | [] => rfl
  | x :: xs => by
    rw [List.map_cons, D.sames, sames_str a xs, D.same]
    simp
theorem lcL_mapG {α : Type} {t : Ftg} {tt : Ft} {te : Fe} {a b : α → D} {δ : Sls} {m : Mir} {gd : Gd} (hg : gdOk gd m = true) : ∀ (xs : List α), (∀ x ∈ xs, ∃ δ1, t (a x) δ = some δ1 ∧ tt δ1 m = .ok true m ∧ te δ1 m = .ok (b x) m) → lcL t tt te δ gd (xs.map a) m = .ok (xs.map b) m
  | [], _ => by
    show (if gdOk gd m = true then _ else _) = _
    rw [if_pos hg]
    rfl
  | x :: xs, h => by
    obtain ⟨δ1, e1, e2, e3⟩ := h x List.mem_cons_self
    have ih := lcL_mapG hg xs fun y hy => h y (List.mem_cons_of_mem _ hy)
    rw [List.map_cons]
    unfold lcL
    rw [e1, if_pos hg]
    simp only []
    rw [e2]
    simp only []
    rw [e3]
    simp only []
    rw [ih]
    rfl
def rws (n : Nat) (f : Mt) : List D := (List.range n).map fun i => .str (txt n (f i))
/-- x holds these rows -/
structure RowsAt (x : D) (n : Nat) (f : Mt) (M : Mir) : Prop where
  vw : view M x = some (.lst (rws n f)) ∨ view M x = some (.tup (rws n f))
  sq : ∃ gd, gdOk gd M = true ∧ ∀ (fe : Fe) (δ : Sls), fe δ M = .ok x M → fSeq fe δ M = .ok (rws n f, gd) M
section
variable {n : Nat} {f g : Mt} {m m1 M : Mir} {x : D} {δ : Sls}
theorem rows_lst : RowsAt (L n f) n f M := ⟨.inl rfl, none, rfl, fun fe δ e => ev_fseq e (fun k h => by cases h) rfl⟩
theorem rows_tup : RowsAt (.tup (rws n f)) n f M := ⟨.inr rfl, none, rfl, fun fe δ e => ev_fseq e (fun k h => by cases h) rfl⟩
theorem rows_ref {k : Nat} (h : cell M k = some (L n f)) : RowsAt (.ref k) n f M := by
  have h' : cell M k = some (.lst (rws n f)) := h
  have vw : view M (.ref k) = some (.lst (rws n f)) := by
    show (match cell M k with
      | some (.tbl _) => none
      | x => x) = _
    rw [h']
  refine ⟨.inl vw, some (k, rws n f), ?_, fun fe δ e => ?_⟩
  · show (match cell M k with
      | some (.lst es) => D.sames es (rws n f)
      | _ => false) = true
    rw [h']
    exact sames_str _ _
  · unfold fSeq
    rw [e]
    simp only [Rs.bind]
    rw [h']
theorem F_init (R : RowsAt x n f (m ++ [some (.ins "Table" [] [])])) (h0 : 0 < n) (hn : n ≤ 6) : F_Table___init [.dat (.ref m.length), .dat x] (m ++ [some (.ins "Table" [] [])]) = .ok .non (m ++ [some (tbl n f)]) := by
  obtain ⟨gd, hg, sq⟩ := R.sq
  have body : g_Table___init [.dat (.ref m.length), .dat x, .un, .un, .un] (m ++ [some (.ins "Table" [] [])]) = .nx [.dat (.ref m.length), .dat x, .dat (.int n), .un, .un] (m ++ [some (tbl n f)]) := by
    unfold g_Table___init
    have lenv : fCB oLen (fCons (fVar 1) (fNil)) [.dat (.ref m.length), .dat x, .un, .un, .un] (m ++ [some (.ins "Table" [] [])]) = .ok (.int n) (m ++ [some (.ins "Table" [] [])]) := by
      have l : (rws n f).length = n := by unfold rws; rw [List.length_map, List.length_range]
      rcases R.vw with v | v
      · refine ev_CB (xs := [x]) (ys := [.lst (rws n f)]) rfl ?_ ?_
        · show (view _ x).bind _ = _
          rw [v]
          rfl
        · show some (D.int _) = _
          rw [l]
      · refine ev_CB (xs := [x]) (ys := [.tup (rws n f)]) rfl ?_ ?_
        · show (view _ x).bind _ = _
          rw [v]
          rfl
        · show some (D.int _) = _
          rw [l]
    refine (ev_seq (ev_set lenv)).trans ?_
    have test1 : fNot (fB (fChain oLe oLe (fC (.int 1)) (fVar 2) (fC k_Map_PLACES))) [.dat (.ref m.length), .dat x, .dat (.int n), .un, .un] (m ++ [some (.ins "Table" [] [])]) = .ok false (m ++ [some (.ins "Table" [] [])]) := by
      refine ev_not (b := true) (ev_fB ?_)
      show (match (oLe (.int 1) (.int n)) with
        | some (.bl true) => _
        | some (.bl false) => _
        | _ => _) = _
      have l1 : oLe (.int 1) (.int n) = some (.bl true) := by
        show some (D.bl (decide _)) = _
        rw [decide_eq_true (by omega)]
      have l2 : oLe (.int n) k_Map_PLACES = some (.bl true) := by
        show some (D.bl (decide _)) = _
        rw [decide_eq_true (by omega)]
      rw [l1]
      show ofO _ (oLe (.int n) k_Map_PLACES) = _
      rw [l2]
      rfl
    have test2 : fNot (fB (fCB oAll (fCons (fLc (fSeq (fVar 1)) (gN 3) (fYes) (fCallN 2 F_is_row (fCons (fVar 3) (fCons (fVar 2) (fNil)))) [3]) (fNil)))) [.dat (.ref m.length), .dat x, .dat (.int n), .un, .un] (m ++ [some (.ins "Table" [] [])]) = .ok false (m ++ [some (.ins "Table" [] [])]) := by
      refine ev_not (b := true) (ev_fB (ev_CB (xs := [.lst ((List.range n).map fun _ => D.bl true)]) (ev_one (ev_lc (m1 := (m ++ [some (.ins "Table" [] [])])) (m2 := (m ++ [some (.ins "Table" [] [])])) (ds := rws n f) (gd := gd) (sq _ _ rfl) (range_lt (by omega) _) ?_)) rfl (oAll_true _)))
      exact lcL_mapG hg _ fun i _ => ⟨_, rfl, rfl, ev_callN (as := [.str (txt n (f i)), .int n]) rfl rfl (F_row (f i) _ hn)⟩
    refine (ev_seq (δ1 := [.dat (.ref m.length), .dat x, .dat (.int n), .un, .un]) (m1 := (m ++ [some (.ins "Table" [] [])])) ((ev_ifF ((ev_orF test1).trans test2)).trans rfl)).trans ?_
    have val : fCB oTuple (fCons (fLc (fSeq (fVar 1)) (gN 3) (fYes) (fCB oTuple (fCons (fLc (fSeq (fVar 3)) (gN 4) (fYes) (fTab k_GRADE_OF (fVar 4)) [4]) (fNil))) [3]) (fNil)) [.dat (.ref m.length), .dat x, .dat (.int n), .un, .un] (m ++ [some (.ins "Table" [] [])]) = .ok (T n f) (m ++ [some (.ins "Table" [] [])]) := by
      refine ev_CB (xs := [.lst ((List.range n).map fun i => rowT n (f i))]) (ev_one (ev_lc (m1 := (m ++ [some (.ins "Table" [] [])])) (m2 := (m ++ [some (.ins "Table" [] [])])) (ds := rws n f) (gd := gd) (sq _ _ rfl) (range_lt (by omega) _) ?_)) rfl rfl
      refine lcL_mapG hg _ fun i _ => ⟨_, rfl, rfl, ev_CB (xs := [.lst ((List.range n).map fun j => gi (f i j))]) (ev_one (ev_lc (m1 := (m ++ [some (.ins "Table" [] [])])) (m2 := (m ++ [some (.ins "Table" [] [])])) (ds := (List.range n).map fun j => .str (ch (f i j))) (gd := none) ?_ (range_lt (by omega) _) ?_)) rfl rfl⟩
      · show Rs.ok (signsOf (txt n (f i)), none) _ = _
        rw [signs_txt]
      · exact lcL_map _ fun j _ => ⟨_, rfl, rfl, ev_tab rfl (tab_ch _)⟩
    unfold DM.sFld
    rw [val]
    show (match cell (m ++ [some (D.ins "Table" [] [])]) m.length with
      | some (.ins c ns ds) => _
      | _ => _) = _
    rw [cell_snoc]
    show (if _ then _ else _) = _
    rw [if_pos ⟨by decide, by decide⟩, set_snoc]
    rfl
  show (match g_Table___init [.dat (.ref m.length), .dat x, .un, .un, .un] (m ++ [some (.ins "Table" [] [])]) with
    | .rt d m1 => _
    | .nx _ m1 => _
    | .exc x _ m1 => _
    | _ => _) = _
  rw [body]
  show trimR (m ++ [some (D.ins "Table" [] [])]).length .non (m ++ [some (tbl n f)]) = _
  unfold trimR
  rw [if_pos (by simp)]
/-- Table(..) -/
theorem ev_make {ga : Fa} (h0 : 0 < n) (hn : n ≤ 6) (e : ga δ m = .ok [x] m1) (R : RowsAt x n f (m1 ++ [some (.ins "Table" [] [])])) : fFrz (fMake "Table" 2 F_Table___init ga) δ m = .ok (tbl n f) (m1 ++ [none]) := by
  have mk : fMake "Table" 2 F_Table___init ga δ m = .ok (.ref m1.length) (m1 ++ [some (tbl n f)]) := by
    unfold fMake
    rw [e]
    simp only [Rs.bind]
    rw [if_pos (show [x].length + 1 = 2 from rfl)]
    have fi : F_Table___init (Sl.dat (D.ref m1.length) :: List.map Sl.dat [x]) (m1 ++ [some (D.ins "Table" [] [])]) = .ok .non (m1 ++ [some (tbl n f)]) := F_init R h0 hn
    rw [fi]
    rfl
  unfold fFrz
  rw [mk]
  show (match frzD 9 (.ref m1.length) (m1 ++ [some (tbl n f)]) with
    | some a => _
    | none => _) = _
  have fz : frzD 9 (.ref m1.length) (m1 ++ [some (tbl n f)]) = some (tbl n f, m1 ++ [none]) := by
    show (match cell (m1 ++ [some (tbl n f)]) m1.length with
      | some (.lst ds) => _
      | some (.ins c ns ds) => _
      | some (.dK ks ds) => _
      | some (.dT ks ds) => _
      | _ => _) = _
    rw [cell_snoc]
    show (mapF (frzD 8) [T n f] ((m1 ++ [some (tbl n f)]).set m1.length none)).bind _ = _
    rw [set_snoc]
    rfl
  rw [fz]
/-! ### rows -/
theorem run_ref {N : Nat} {gs : Fs} {as : Sls} {d : D} (e : gs (as ++ List.replicate (N - as.length) .un) m = .rt (.ref m.length) (m ++ [some d])) : runF N gs as m = .ok (.ref m.length) (m ++ [some d]) := by
  unfold runF
  rw [e]
  show trimR m.length (.ref m.length) (m ++ [some d]) = _
  unfold trimR
  rw [if_neg (by simp), if_neg]
  intro z
  have z1 := (Bool.and_eq_true_iff.mp z).1
  have z2 : Nat.blt m.length m.length = true := z1
  simp [Nat.blt_eq] at z2
theorem F_rows (hm : Fm m) (h0 : 0 < n) (hn : n ≤ 6) : F_Table_rows [.dat (tbl n f)] m = .ok (.ref m.length) (m ++ [some (L n f)]) := by
  refine run_ref ?_
  show g_Table_rows [.dat (tbl n f)] m = _
  unfold g_Table_rows
  have e := F_texts (n := n) f m hm h0 hn
  unfold sRet fCallN
  have a : fCons (f1 (oFld ["Table"] "grades") (fVar 0)) fNil [.dat (tbl n f)] m = .ok [T n f] m := ev_one (ev_fld (n := n) (f := f) rfl)
  rw [a]
  simp only [Rs.bind]
  rw [if_pos (show [T n f].length = 1 from rfl)]
  show DM.thn (F_texts_of [.dat (T n f)] m) _ _ = _
  rw [e]
  rfl
theorem ev_rowsR {fe : Fe} (hm : Fm m1) (h0 : 0 < n) (hn : n ≤ 6) (e : fe δ m = .ok (tbl n f) m1) : fMth "Table" "rows" 1 F_Table_rows fe fNil δ m = .ok (.ref m1.length) (m1 ++ [some (L n f)]) := by
  unfold fMth
  rw [e]; simp only [Rs.bind]
  show F_Table_rows [.dat (tbl n f)] m1 = _
  exact F_rows hm h0 hn
theorem ev_rows {fe : Fe} (hm : Fm m1) (h0 : 0 < n) (hn : n ≤ 6) (e : fe δ m = .ok (tbl n f) m1) : fFrz (fMth "Table" "rows" 1 F_Table_rows fe fNil) δ m = .ok (L n f) (m1 ++ [none]) :=
  ev_frzL (ds := rws n f) (ev_rowsR hm h0 hn e) (mapF_str 7 _ _ _)
theorem ev_clr {fe : Fe} (hm : Fm m1) (h0 : 0 < n) (hn : n ≤ 6) (e : fe δ m = .ok (tbl n f) m1) : fClr (fMth "Table" "rows" 1 F_Table_rows fe fNil) δ m = .ok .non (m1 ++ [some (.lst [])]) := by
  unfold fClr
  rw [ev_rowsR hm h0 hn e]
  simp only [Rs.bind]
  have c : cell (m1 ++ [some (L n f)]) m1.length = some (.lst (rws n f)) := cell_snoc _ m1
  rw [c]
  simp only []
  rw [set_snoc]
/-! ### a value -/
theorem F_within {a b c : Int} : F_is_within [.dat (.int a), .dat (.int b), .dat (.int c)] m = .ok (.bl (decide (b ≤ a) && decide (a ≤ c))) m := by
  refine ev_run0 ?_
  show g_is_within [.dat (.int a), .dat (.int b), .dat (.int c)] m = _
  unfold g_is_within
  refine ev_ret ((ev_andVT (m1 := m) (ev_callN (as := [.int a]) (m1 := m) rfl rfl (F_int _))).trans ?_)
  show (match (oLe (.int b) (.int a)) with
    | some (.bl true) => _
    | some (.bl false) => _
    | _ => _) = _
  have l1 : oLe (.int b) (.int a) = some (.bl (decide (b ≤ a))) := rfl
  have l2 : oLe (.int a) (.int c) = some (.bl (decide (a ≤ c))) := rfl
  rw [l1]
  by_cases h : b ≤ a
  · rw [decide_eq_true h]
    show ofO _ (oLe (.int a) (.int c)) = _
    rw [l2]
    rfl
  · rw [decide_eq_false h]
    rfl
end
end K17

/-! k17: values, identity, refusals. -/
namespace K17
open PySem PySem.Spec PyProof.Rows L2 DM Alg Bag
theorem oAdd_int (a b : Int) : oAdd (.int a) (.int b) = some (.int (a + b)) := rfl
theorem oSub_int (a b : Int) : oSub (.int a) (.int b) = some (.int (a - b)) := rfl
def xI (d : D) : Exn := ⟨"InvalidNumber", ["given", "tag"], [d, .str "InvalidNumber"]⟩
def xT : Exn := ⟨"InvalidTable", ["tag"], [.str "InvalidTable"]⟩
/-- no integer from lo to hi -/
def Out (lo hi : Int) (d : D) : Prop := d = .bl true ∨ ∃ a : Int, d = .int a ∧ ¬ (lo ≤ a ∧ a ≤ hi)
section
variable {n : Nat} {f g : Mt} {m m1 M : Mir} {x d : D} {δ : Sls}
theorem ev_excIf {t : Ft} {gs hs : Fs} {x : Exn} {m3 : Mir} (e : t δ m = .ok true m1) (r : gs δ m1 = .exc x δ m3) {rest : Fs} : sSeq (sIf t gs hs) rest δ m = .exc x δ m3 := by
  unfold sSeq
  rw [ev_ifT e, r]
theorem ev_runX {g : Fs} {as : Sls} {x : Exn} {δ2 : Sls} {q : Nat} (e : g (as ++ List.replicate (q - as.length) .un) m = .exc x δ2 m) : runF q g as m = .exc x m := by
  unfold runF
  rw [e]
  show trimX m.length x m = _
  unfold trimX
  rw [if_pos rfl]
theorem F_withinX {lo hi : Int} (h : Out lo hi d) : F_is_within [.dat d, .dat (.int lo), .dat (.int hi)] m = .ok (.bl false) m := by
  rcases h with rfl | ⟨a, rfl, h⟩
  · refine ev_run0 ?_
    show g_is_within [.dat (.bl true), .dat (.int lo), .dat (.int hi)] m = _
    unfold g_is_within
    have no : F_is_integer [.dat (.bl true)] m = .ok (.bl false) m := ev_run0 rfl
    have cv : fCallN 1 F_is_integer (fCons (fVar 0) fNil) [.dat (.bl true), .dat (.int lo), .dat (.int hi)] m = .ok (.bl false) m := ev_callN (as := [.bl true]) (m1 := m) rfl rfl no
    refine ev_ret ?_
    unfold fAndV
    rw [cv]
    rfl
  · rw [F_within]
    have : (decide (lo ≤ a) && decide (a ≤ hi)) = false := by
      by_cases h1 : lo ≤ a
      · rw [decide_eq_true h1, decide_eq_false (fun h2 => h ⟨h1, h2⟩)]
        rfl
      · rw [decide_eq_false h1]
        rfl
    rw [this]
theorem ix_T {i : Nat} (hi : i < n) : oIx (T n f) (.int i) = some (rowT n (f i)) := by
  unfold T
  show atI _ _ = _
  rw [atI_nat _ _ (by simpa using hi), List.getElem?_map, List.getElem?_range hi]
  rfl
theorem ix_row {r : Nat → Fin 7} {k : Nat} (hk : k < n) : oIx (rowT n r) (.int k) = some (gi (r k)) := by
  unfold rowT
  show atI _ _ = _
  rw [atI_nat _ _ (by simpa using hk), List.getElem?_map, List.getElem?_range hk]
  rfl
/-- the test of one place -/
theorem v_test {S1 S2 : Sl} : f2 oSub (fCB oLen (fCons (f1 (oFld ["Table"] "grades") (fVar 0)) (fNil))) (fC (.int 1)) [.dat (tbl n f), S1, S2, .dat d] m = .ok (.int ((n : Int) - 1)) m :=
  ev_f2 (ev_CB (ev_one (ev_fld (n := n) (f := f) rfl)) rfl (len_T n f)) rfl rfl rfl (oSub_int _ _)
theorem v_ok {S1 S2 : Sl} {a : Nat} (h : a < n) : b_Table_value_1 [.dat (tbl n f), S1, S2, .dat (.int a)] m = .nx [.dat (tbl n f), S1, S2, .dat (.int a)] m := by
  unfold b_Table_value_1
  have w := F_within (m := m) (a := (a : Int)) (b := 0) (c := (n : Int) - 1)
  have t : (decide ((0 : Int) ≤ a) && decide ((a : Int) ≤ (n : Int) - 1)) = true := by
    rw [decide_eq_true (by omega), decide_eq_true (by omega)]
    rfl
  rw [t] at w
  exact (ev_ifF (ev_not (b := true) (ev_fB (ev_callN (as := [.int a, .int 0, .int ((n : Int) - 1)]) (m1 := m) (ev_cons rfl (ev_cons rfl (ev_one v_test))) rfl w)))).trans rfl
theorem v_no {S1 S2 : Sl} (h : Out 0 ((n : Int) - 1) d) : b_Table_value_1 [.dat (tbl n f), S1, S2, .dat d] m = .exc (xI d) [.dat (tbl n f), S1, S2, .dat d] m := by
  unfold b_Table_value_1
  refine (ev_ifT (ev_not (b := false) (ev_fB (ev_callN (as := [d, .int 0, .int ((n : Int) - 1)]) (m1 := m) (ev_cons rfl (ev_cons rfl (ev_one v_test))) rfl (F_withinX h))))).trans ?_
  unfold sRaise1
  have a : fCons (fVar 3) fNil [.dat (tbl n f), S1, S2, .dat d] m = .ok [d] m := rfl
  rw [a]
  exact if_pos ⟨rfl, by rw [sizeLine_eq]; decide⟩
theorem v_it {S1 S2 : D} : fSeq (fTup (fCons (fVar 1) (fCons (fVar 2) (fNil)))) [.dat (tbl n f), .dat S1, .dat S2, .un] m = .ok ([S1, S2], none) m := ev_fseq (x := .tup [S1, S2]) (ev_tup rfl (by show 2 ≤ 1000; decide)) (fun k h => by cases h) rfl
theorem F_value {a b : Nat} (ha : a < n) (hb : b < n) : F_Table_value [.dat (tbl n f), .dat (.int a), .dat (.int b)] m = .ok (.str (ch (f a b))) m := by
  refine ev_run0 ?_
  show g_Table_value [.dat (tbl n f), .dat (.int a), .dat (.int b), .un] m = _
  unfold g_Table_value
  have lp : sFor (fSeq (fTup (fCons (fVar 1) (fCons (fVar 2) (fNil))))) (gN 3) (b_Table_value_1) [.dat (tbl n f), .dat (.int a), .dat (.int b), .un] m = .nx [.dat (tbl n f), .dat (.int a), .dat (.int b), .dat (.int b)] m :=
    (ev_for v_it).trans ((forL_cons (δ1 := [.dat (tbl n f), .dat (.int a), .dat (.int b), .dat (.int a)]) rfl (v_ok ha)).trans ((forL_cons (δ1 := [.dat (tbl n f), .dat (.int a), .dat (.int b), .dat (.int b)]) rfl (v_ok hb)).trans rfl))
  refine (ev_seq lp).trans (ev_ret ?_)
  have g : f2 oIx (f2 oIx (f1 (oFld ["Table"] "grades") (fVar 0)) (fVar 1)) (fVar 2) [.dat (tbl n f), .dat (.int a), .dat (.int b), .dat (.int b)] m = .ok (gi (f a b)) m := ev_f2 (ev_f2 (ev_fld (n := n) (f := f) rfl) rfl rfl rfl (ix_T ha)) rfl rfl rfl (ix_row hb)
  have e : ∀ a : Fin 7, oIx k_GRADES (gi a) = some (.str (ch a)) := by
    refine all7 ?_ ?_ ?_ ?_ ?_ ?_ ?_ <;> rfl
  exact ev_f2 rfl g rfl rfl (e _)
theorem forL_consX {t : Ftg} {gs : Fs} {d : D} {ds : List D} {δ1 δ2 : Sls} {x : Exn} (e1 : t d δ = some δ1) (e2 : gs δ1 m = .exc x δ2 m1) : forL t gs none (d :: ds) δ m = .exc x δ2 m1 := by
  conv => lhs; unfold forL
  rw [e1]
  simp only [gdOk, if_true]
  rw [e2]
/-- value(0, d) -/
theorem F_valueX1 (h0 : 0 < n) (h : Out 0 ((n : Int) - 1) d) : F_Table_value [.dat (tbl n f), .dat (.int 0), .dat d] m = .exc (xI d) m := by
  refine ev_runX (δ2 := [.dat (tbl n f), .dat (.int 0), .dat d, .dat d]) ?_
  show g_Table_value [.dat (tbl n f), .dat (.int 0), .dat d, .un] m = _
  unfold g_Table_value
  have lp : sFor (fSeq (fTup (fCons (fVar 1) (fCons (fVar 2) (fNil))))) (gN 3) (b_Table_value_1) [.dat (tbl n f), .dat (.int 0), .dat d, .un] m = .exc (xI d) [.dat (tbl n f), .dat (.int 0), .dat d, .dat d] m :=
    (ev_for v_it).trans ((forL_cons (δ1 := [.dat (tbl n f), .dat (.int 0), .dat d, .dat (.int 0)]) rfl (v_ok (a := 0) h0)).trans (forL_consX (δ1 := [.dat (tbl n f), .dat (.int 0), .dat d, .dat d]) rfl (v_no h)))
  unfold sSeq
  rw [lp]
/-- value(d, ..) -/
theorem F_valueX0 {y : D} (h : Out 0 ((n : Int) - 1) d) : F_Table_value [.dat (tbl n f), .dat d, .dat y] m = .exc (xI d) m := by
  refine ev_runX (δ2 := [.dat (tbl n f), .dat d, .dat y, .dat d]) ?_
  show g_Table_value [.dat (tbl n f), .dat d, .dat y, .un] m = _
  unfold g_Table_value
  have lp : sFor (fSeq (fTup (fCons (fVar 1) (fCons (fVar 2) (fNil))))) (gN 3) (b_Table_value_1) [.dat (tbl n f), .dat d, .dat y, .un] m = .exc (xI d) [.dat (tbl n f), .dat d, .dat y, .dat d] m :=
    (ev_for v_it).trans (forL_consX (δ1 := [.dat (tbl n f), .dat d, .dat y, .dat d]) rfl (v_no h))
  unfold sSeq
  rw [lp]
/-! ### identity, places, bool, == -/
end
end K17

/-! k17: identity, places, bool, ==, repr. -/
namespace K17
open PySem PySem.Spec PyProof.Rows L2 DM Alg Bag
section
variable {n : Nat} {f g : Mt} {m m1 m2 M : Mir} {x d : D} {δ : Sls} {fe ge : Fe}
theorem ev_runN {N : Nat} {gs : Fs} {as : Sls} {rest : Mir} (hm : Fm (m ++ rest)) (hd : ∀ k, D.low k d = true) (e : gs (as ++ List.replicate (N - as.length) .un) m = .rt d (m ++ rest)) : runF N gs as m = .ok d m := by
  unfold runF
  rw [e]
  show trimR m.length d (m ++ rest) = _
  unfold trimR
  by_cases h : (m ++ rest).length = m.length
  · have : rest = [] := List.length_eq_zero_iff.mp (by rw [List.length_append] at h; omega)
    rw [if_pos h, this, List.append_nil]
  · rw [if_neg h, if_pos (by rw [hd, hm]; rfl), List.take_left']
    rfl
theorem ev_texts {ge : Fe} (hm : Fm m1) (h0 : 0 < n) (hn : n ≤ 6) (e : ge δ m = .ok (T n f) m1) : fFrz (fCallN 1 F_texts_of (fCons ge fNil)) δ m = .ok (L n f) (m1 ++ [none]) :=
  ev_frzL (ds := rws n f) (ev_callN (as := [T n f]) (ev_one e) rfl (F_texts f m1 hm h0 hn)) (mapF_str 7 _ _ _)
theorem F_identity (hm : Fm m) (h0 : 0 < n) (hn : n ≤ 6) : F_Table_identity [.dat (.int n)] m = .ok (tbl n one) m := by
  refine ev_runN (rest := [none, none]) (by rw [show m ++ [none, none] = m ++ [none] ++ [none] by simp]; exact hm.snoc.snoc) (fun k => low_tbl k n _) ?_
  show g_Table_identity [.dat (.int n)] m = _
  unfold g_Table_identity
  have w := F_within (m := m) (a := (n : Int)) (b := 1) (c := 6)
  have t : (decide ((1 : Int) ≤ n) && decide ((n : Int) ≤ 6)) = true := by
    rw [decide_eq_true (by omega), decide_eq_true (by omega)]
    rfl
  rw [t] at w
  have test : fNot (fB (fCallN 3 F_is_within (fCons (fVar 0) (fCons (fC (.int 1)) (fCons (fC k_Map_PLACES) (fNil)))))) [.dat (.int n)] m = .ok false m :=
    ev_not (b := true) (ev_fB (ev_callN (as := [.int n, .int 1, k_Map_PLACES]) (m1 := m) rfl rfl w))
  refine (ev_seq (δ1 := [.dat (.int n)]) (m1 := m) ((ev_ifF test).trans rfl)).trans ?_
  have id : fCallN 1 F_identity_rows (fCons (fVar 0) (fNil)) [.dat (.int n)] m = .ok (T n one) m := ev_callN (as := [.int n]) (m1 := m) rfl rfl (F_ident h0 hn)
  have r := ev_make (f := one) h0 hn (ev_one (ev_texts hm h0 hn id)) rows_lst
  rw [show m ++ [none, none] = m ++ [none] ++ [none] by simp]
  exact ev_ret r
theorem F_identityX (h : Out 1 6 d) : F_Table_identity [.dat d] m = .exc (xI d) m := by
  refine ev_runX (δ2 := [.dat d]) ?_
  show g_Table_identity [.dat d] m = _
  unfold g_Table_identity
  refine ev_excIf (ev_not (b := false) (ev_fB (ev_callN (as := [d, .int 1, k_Map_PLACES]) (m1 := m) rfl rfl (F_withinX h)))) ?_
  unfold sRaise1
  have a : fCons (fVar 0) fNil [.dat d] m = .ok [d] m := rfl
  rw [a]
  exact if_pos ⟨rfl, by rw [sizeLine_eq]; decide⟩
theorem ev_places (e : fe δ m = .ok (tbl n f) m1) : fProp "Table" F_Table_places fe δ m = .ok (.int n) m1 := by
  have pl : F_Table_places [.dat (tbl n f)] m1 = .ok (.int n) m1 := by
    refine ev_run0 ?_
    show g_Table_places [.dat (tbl n f)] m1 = _
    unfold g_Table_places
    exact ev_ret (ev_CB (ev_one (ev_fld (n := n) (f := f) rfl)) rfl (len_T n f))
  unfold fProp
  rw [e]
  simp only [Rs.bind]
  show noX (F_Table_places [.dat (tbl n f)] m1) = _
  rw [pl]
  rfl
theorem isC_tbl (m : Mir) : isC "Table" (view m (tbl n f)) = true := rfl
theorem ev_eq (h0 : 0 < n) (hn : n ≤ 6) (e1 : fe δ m = .ok (tbl n f) m1) (e2 : ge δ m1 = .ok (tbl n g) m2) : fOw2 "Table" F_Table___eq fe ge δ m = .ok (.bl (eqB n f g)) m2 := by
  unfold fOw2
  rw [e1]; simp only [Rs.bind]; rw [e2]; simp only [Rs.bind]
  rw [if_pos ⟨isC_tbl _, isC_tbl _⟩, F_eq h0 hn]
  rfl
/-- == with a value of another kind -/
theorem ev_eqP {y z : D} (e1 : fe δ m = .ok (tbl n f) m1) (e2 : ge δ m1 = .ok y m2) (hy : view m2 y = some z) (hp : z.plain = true) (hc : isC "Table" (some z) = false) : fOwP "Table" F_Table___eq fe ge δ m = .ok (.bl false) m2 := by
  have q : F_Table___eq [.dat (tbl n f), .dat y] m2 = .ok (.bl false) m2 := by
    refine ev_run0 ?_
    show g_Table___eq [.dat (tbl n f), .dat y] m2 = _
    unfold g_Table___eq
    refine ev_ret ?_
    unfold fAndV
    have i : fIsC "Table" (fVar 1) [.dat (tbl n f), .dat y] m2 = .ok (.bl false) m2 := by
      unfold fIsC
      have v : fVar 1 [.dat (tbl n f), .dat y] m2 = .ok y m2 := rfl
      rw [v]
      simp only [Rs.bind]
      rw [hy]
      cases z <;> first | (cases hp; done) | rfl
    rw [i]
    rfl
  unfold fOwP
  rw [e1]; simp only [Rs.bind]; rw [e2]; simp only [Rs.bind]
  rw [if_pos (isC_tbl _), hy]
  simp only []
  rw [if_pos hp, q]
  rfl
end
end K17

/-! k17: repr, the law's identity. -/
namespace K17
open PySem PySem.Spec PyProof.Rows L2 DM Alg Bag
section
variable {n : Nat} {f g : Mt} {m m1 m2 M : Mir} {δ : Sls} {fe ge : Fe}
theorem glue_size (s : Array Nat) (c : Nat) : ∀ (xs : List Str) (acc : Array Nat), (∀ x ∈ xs, x.length ≤ c) → (xs.foldl (fun acc p => acc ++ s ++ p.cps) acc).size ≤ acc.size + xs.length * (s.size + c)
  | [], acc, _ => by simp
  | x :: xs, acc, h => by
    rw [List.foldl_cons]
    have h1 := glue_size s c xs (acc ++ s ++ x.cps) fun y hy => h y (List.mem_cons_of_mem _ hy)
    have h2 : x.cps.size ≤ c := h x List.mem_cons_self
    rw [Array.size_append, Array.size_append] at h1
    rw [List.length_cons, Nat.add_mul]
    omega
theorem join_size (s : Str) (c : Nat) : ∀ ys : List Str, (∀ x ∈ ys, x.length ≤ c) → (Txt.join s ys).length ≤ c + ys.length * (s.length + c)
  | [], _ => by
    show 0 ≤ _
    exact Nat.zero_le _
  | y :: ys, h => by
    have h1 := glue_size s.cps c ys y.cps fun x hx => h x (List.mem_cons_of_mem _ hx)
    have h2 : y.cps.size ≤ c := h y List.mem_cons_self
    have h3 : (Txt.join s (y :: ys)).length = (ys.foldl (fun acc p => acc ++ s.cps ++ p.cps) y.cps).size := rfl
    rw [h3]
    have h4 : s.length = s.cps.size := rfl
    rw [List.length_cons, h4, Nat.add_mul]
    omega
theorem sum_le (c : Nat) : ∀ xs : List Nat, (∀ x ∈ xs, x ≤ c) → xs.sum ≤ xs.length * c
  | [], _ => by simp
  | x :: xs, h => by
    have h1 := sum_le c xs fun y hy => h y (List.mem_cons_of_mem _ hy)
    have h2 := h x List.mem_cons_self
    rw [List.sum_cons, List.length_cons, Nat.add_mul]
    omega
/-- the rows, by strokes -/
def J (n : Nat) (f : Mt) : Str := Txt.join (Str.ofString "/") ((List.range n).map fun i => txt n (f i))
theorem J_len (hn : n ≤ 6) : (J n f).length ≤ 48 := by
  have h := join_size (Str.ofString "/") n ((List.range n).map fun i => txt n (f i)) fun x hx => by
    obtain ⟨i, _, rfl⟩ := List.mem_map.mp hx
    exact Nat.le_of_eq (txt_len n (f i))
  rw [List.length_map, List.length_range] at h
  have s : (Str.ofString "/").length = 1 := rfl
  rw [s] at h
  have : n * (1 + n) ≤ 6 * 7 := Nat.mul_le_mul hn (by omega)
  unfold J
  omega
theorem oJoin_L (hn : n ≤ 6) : oJoin (Str.ofString "/") (L n f) = some (.str (J n f)) := by
  unfold L
  show (textsOf _).bind _ = _
  rw [textsOf_map, Option.bind_some]
  have h1 : (((List.range n).map fun i => txt n (f i)).map (·.length)).sum ≤ 36 := by
    refine Nat.le_trans (sum_le n _ fun x hx => ?_) ?_
    · obtain ⟨z, hz, rfl⟩ := List.mem_map.mp hx
      obtain ⟨i, _, rfl⟩ := List.mem_map.mp hz
      exact Nat.le_of_eq (txt_len n (f i))
    · rw [List.length_map, List.length_map, List.length_range]
      exact Nat.mul_le_mul hn hn
  have h2 : ((List.range n).map fun i => txt n (f i)).length * (Str.ofString "/").length ≤ 6 := by
    rw [List.length_map, List.length_range, show (Str.ofString "/").length = 1 from rfl]
    omega
  have h3 : (Txt.join (Str.ofString "/") ((List.range n).map fun i => txt n (f i))).length ≤ 48 := J_len hn
  rw [if_pos ⟨by omega, by rw [sizeLine_eq]; omega⟩]
  rfl
def told (n : Nat) (f : Mt) : Str := Str.ofString "Table(" ++ J n f ++ Str.ofString ")"
theorem app_len (a b : Str) : (a ++ b).length = a.length + b.length := by
  show (a.cps ++ b.cps).size = _
  rw [Array.size_append]
  rfl
theorem told_len (hn : n ≤ 6) : (told n f).length ≤ 60 := by
  unfold told
  rw [app_len, app_len]
  have := J_len (n := n) (f := f) hn
  have a : (Str.ofString "Table(").length = 6 := rfl
  have b : (Str.ofString ")").length = 1 := rfl
  omega
theorem js_cons {fs : List Fe} {acc y : Str} (e : fe δ m = .ok (.str y) m1) (h : (acc ++ y).length ≤ sizeLine) : fJs (fe :: fs) acc δ m = fJs fs (acc ++ y) δ m1 := by
  conv => lhs; unfold fJs
  rw [e]
  simp only [Rs.bind]
  rw [if_pos h]
theorem F_repr (hm : Fm m) (h0 : 0 < n) (hn : n ≤ 6) : F_Table___repr [.dat (tbl n f)] m = .ok (.str (told n f)) m := by
  refine ev_run1 hm (fun k => rfl) ?_
  show g_Table___repr [.dat (tbl n f), .un] m = _
  unfold g_Table___repr
  have tx : fFrz (fCallN 1 F_texts_of (fCons (f1 (oFld ["Table"] "grades") (fVar 0)) (fNil))) [.dat (tbl n f), .un] m = .ok (L n f) (m ++ [none]) := ev_texts hm h0 hn (ev_fld (n := n) (f := f) rfl)
  refine (ev_seq (δ1 := [.dat (tbl n f), .dat (.str (J n f))]) (m1 := m ++ [none]) (ev_set (ev_s2 rfl tx rfl (oJoin_L hn)))).trans (ev_ret ?_)
  have jl := J_len (n := n) (f := f) hn
  have a : (Str.empty ++ Str.ofString "Table(") = Str.ofString "Table(" := by kernel_rfl
  have l1 : (Str.ofString "Table(" ++ J n f).length ≤ sizeLine := by
    rw [app_len, sizeLine_eq, show (Str.ofString "Table(").length = 6 from rfl]
    omega
  have l2 : (Str.ofString "Table(" ++ J n f ++ Str.ofString ")").length ≤ sizeLine := by
    have := told_len (n := n) (f := f) hn
    unfold told at this
    rw [sizeLine_eq]
    omega
  have j1 : f1 fmtD (fVar 1) [.dat (tbl n f), .dat (.str (J n f))] (m ++ [none]) = .ok (.str (J n f)) (m ++ [none]) := ev_f1 rfl rfl rfl
  refine (js_cons (m1 := m ++ [none]) (y := Str.ofString "Table(") rfl (by rw [a, sizeLine_eq]; decide)).trans ?_
  rw [a]
  refine (js_cons j1 l1).trans ?_
  exact (js_cons (m1 := m ++ [none]) (y := Str.ofString ")") rfl l2).trans rfl
theorem ev_repr (hm : Fm m1) (h0 : 0 < n) (hn : n ≤ 6) (e : fe δ m = .ok (tbl n f) m1) : fOw1 strD "Table" F_Table___repr (fCons fe fNil) δ m = .ok (.str (told n f)) m1 := by
  unfold fOw1
  rw [ev_one e]
  simp only [Rs.bind]
  rw [if_pos (isC_tbl (n := n) (f := f) m1), F_repr hm h0 hn]
  rfl
theorem ev_bool (h0 : 0 < n) (hn : n ≤ 6) (e : fe δ m = .ok (tbl n f) m1) : fOw1 boolD "Table" F_Table___bool (fCons fe fNil) δ m = .ok (.bl (eqB n (mul n f f) f)) m1 := by
  unfold fOw1
  rw [ev_one e]
  simp only [Rs.bind]
  rw [if_pos (isC_tbl (n := n) (f := f) m1), F_bool h0 hn]
  rfl
end
end K17

/-! k17: the law's identity; tables that are refused. -/
namespace K17
open PySem PySem.Spec PyProof.Rows L2 DM Alg Bag
section
variable {n : Nat} {f g : Mt} {m m1 m2 M : Mir} {δ : Sls} {fe ge : Fe}
theorem F_lident (h0 : 0 < n) (hn : n ≤ 6) : F_law_identity [.dat (.int n)] m = .ok (L n one) m := by
  refine ev_run0 ?_
  show g_law_identity [.dat (.int n), .un, .un] m = _
  unfold g_law_identity
  refine ev_ret (ev_lc (m1 := m) (m2 := m) (ds := (List.range n).map fun (k : Nat) => D.int (k : Nat)) (gd := none) ?_ (range_lt (by omega) _) ?_)
  · rw [← rng_nat]
    exact ev_range1 rfl (by omega)
  · refine lcL_map _ fun i _ => ⟨_, rfl, rfl, ev_join0 (y := .lst ((List.range n).map fun j => .str (ch (one i j)))) (y' := .lst ((List.range n).map fun j => .str (ch (one i j)))) (ev_lc (m1 := m) (m2 := m) (ds := (List.range n).map fun (k : Nat) => D.int (k : Nat)) (gd := none) ?_ (range_lt (by omega) _) ?_) rfl (oJoin_ch n (one i) h0 hn)⟩
    · rw [← rng_nat]
      exact ev_range1 rfl (by omega)
    · refine lcL_map _ fun k _ => ⟨_, rfl, rfl, ?_⟩
      unfold fIf
      rw [ev_fB (b := (((i : Nat) : Int) == ((k : Nat) : Int))) (m1 := m) (ev_f2 rfl rfl rfl rfl (oEq_int _ _))]
      simp only [Rs.bind]
      unfold one
      by_cases h : i = k
      · subst h
        rw [if_pos (beq_self_eq_true _), if_pos rfl]
        rfl
      · rw [if_neg h, if_neg]
        · rfl
        · intro e
          have := eq_of_beq e
          omega
/-- a table that is refused: the two tests give true -/
theorem F_initX {x : D} {N : Int} {c : Nat} (hl : fCB oLen (fCons (fVar 1) (fNil)) [.dat (.ref c), .dat x, .un, .un, .un] M = .ok (.int N) M) (ht : fOr (fNot (fB (fChain oLe oLe (fC (.int 1)) (fVar 2) (fC k_Map_PLACES)))) (fNot (fB (fCB oAll (fCons (fLc (fSeq (fVar 1)) (gN 3) (fYes) (fCallN 2 F_is_row (fCons (fVar 3) (fCons (fVar 2) (fNil)))) [3]) (fNil))))) [.dat (.ref c), .dat x, .dat (.int N), .un, .un] M = .ok true M) :
    F_Table___init [.dat (.ref c), .dat x] M = .exc xT M := by
  refine ev_runX (δ2 := [.dat (.ref c), .dat x, .dat (.int N), .un, .un]) ?_
  show g_Table___init [.dat (.ref c), .dat x, .un, .un, .un] M = _
  unfold g_Table___init
  refine (ev_seq (ev_set hl)).trans ?_
  refine ev_excIf ht ?_
  unfold sRaise0
  exact if_pos (by rw [sizeLine_eq]; decide)
theorem fm_snoc {d : D} (hd : ∀ k, D.low k d = true) : ∀ {m : Mir}, Fm m → Fm (m ++ [some d])
  | [], _, k, 0 => rfl
  | [], _, k, j + 1 => by
    show (D.low k d && cellsBelow k j []) = true
    rw [hd]
    cases j <;> rfl
  | c :: m, h, k, 0 => rfl
  | none :: m, h, k, j + 1 => fm_snoc hd (m := m) (fun k j => h k (j + 1)) k j
  | some e :: m, h, k, j + 1 => by
    have h1 : (D.low k e && cellsBelow k j m) = true := h k (j + 1)
    show (D.low k e && cellsBelow k j (m ++ [some d])) = true
    rw [(Bool.and_eq_true_iff.mp h1).1, fm_snoc hd (m := m) (fun k j => (Bool.and_eq_true_iff.mp (h k (j + 1))).2) k j]
    rfl
theorem ev_lamFnT {RR : Rs D → Rs D} {bs : Nat → Option LamD} {B : LamD} {i : Nat} {r : D} {rest : Mir} (e : fe δ m = .ok (.lam i) m1) (hb : bs i = some B) (h : RR (B.b (lamSl B δ) m1) = .ok r (m1 ++ rest)) (hm : Fm (m1 ++ rest)) (hr : ∀ k, D.low k r = true) : fLamFn RR bs fe δ m = .ok r m1 := by
  unfold fLamFn
  rw [e]
  simp only [Rs.bind]
  rw [hb]
  simp only []
  rw [h]
  show trimR m1.length r (m1 ++ rest) = _
  unfold trimR
  by_cases hl : (m1 ++ rest).length = m1.length
  · have : rest = [] := List.length_eq_zero_iff.mp (by rw [List.length_append] at hl; omega)
    rw [if_pos hl, this, List.append_nil]
  · rw [if_neg hl, if_pos (by rw [hr, hm]; rfl), List.take_left']
    rfl
theorem ev_makeX {ga : Fa} {x : D} (e : ga δ m = .ok [x] m1) (h : F_Table___init [.dat (.ref m1.length), .dat x] (m1 ++ [some (.ins "Table" [] [])]) = .exc xT (m1 ++ [some (.ins "Table" [] [])])) : fFrz (fMake "Table" 2 F_Table___init ga) δ m = .exc xT (m1 ++ [some (.ins "Table" [] [])]) := by
  have mk : fMake "Table" 2 F_Table___init ga δ m = .exc xT (m1 ++ [some (.ins "Table" [] [])]) := by
    unfold fMake
    rw [e]
    simp only [Rs.bind]
    rw [if_pos (show [x].length + 1 = 2 from rfl)]
    have fi : F_Table___init (Sl.dat (D.ref m1.length) :: List.map Sl.dat [x]) (m1 ++ [some (D.ins "Table" [] [])]) = .exc xT (m1 ++ [some (.ins "Table" [] [])]) := h
    rw [fi]
  unfold fFrz
  rw [mk]
  rfl
/-- what is told of it -/
theorem why_T : whyR errs flds fieldN (.exc xT M) = .ok (.tup [.str "InvalidTable", .non]) M := by kernel_rfl
end
end K17

/-! k17: bent rows. -/
namespace K17
open PySem PySem.Spec PyProof.Rows L2 DM Alg Bag
section
variable {n : Nat} {f g : Mt} {m m1 m2 M : Mir} {δ : Sls} {fe ge : Fe}
/-- the values that are no row of n letters -/
def NoRow (N : Nat) (x : D) : Prop := ∀ M : Mir, F_is_row [.dat x, .dat (.int N)] M = .ok (.bl false) M
theorem norow_non (N : Nat) : NoRow N .non := fun M => ev_run0 rfl
theorem norow_int (N : Nat) (a : Int) : NoRow N (.int a) := fun M => ev_run0 rfl
theorem norow_lst (N : Nat) (ds : List D) : NoRow N (.lst ds) := fun M => ev_run0 rfl
theorem norow_len (N : Nat) (z : Str) (h : z.length ≠ N) : NoRow N (.str z) := fun M => by
  refine ev_run0 ?_
  show g_is_row [.dat (.str z), .dat (.int N), .un] M = _
  unfold g_is_row
  refine ev_ret ((ev_andVT (m1 := M) rfl).trans ?_)
  have c : f2 oEq (fCB oLen (fCons (fVar 0) (fNil))) (fVar 1) [.dat (.str z), .dat (.int N), .un] M = .ok (.bl false) M := by
    refine ev_f2 (ev_CB (m1 := M) (xs := [.str z]) (ys := [.str z]) (d := .int z.length) rfl rfl rfl) rfl rfl rfl ?_
    rw [oEq_int, beq_false_of_ne (by omega)]
  unfold fAndV
  rw [c]
  rfl
/-- tests of rows, one by one -/
theorem tests_all {x : D} {N c : Nat} : ∀ (rows : List D) (r : D → Bool), (∀ y ∈ rows, F_is_row [.dat y, .dat (.int N)] M = .ok (.bl (r y)) M) → lcL (gN 3) fYes (fCallN 2 F_is_row (fCons (fVar 3) (fCons (fVar 2) (fNil)))) [.dat (.ref c), .dat x, .dat (.int N), .un, .un] none rows M = .ok (rows.map fun y => D.bl (r y)) M
  | [], _, _ => rfl
  | y :: rows, r, h => by
    have ih := tests_all (x := x) (N := N) (c := c) rows r fun z hz => h z (List.mem_cons_of_mem _ hz)
    have one : fCallN 2 F_is_row (fCons (fVar 3) (fCons (fVar 2) (fNil))) [.dat (.ref c), .dat x, .dat (.int N), .dat y, .un] M = .ok (.bl (r y)) M := ev_callN (as := [y, .int N]) (m1 := M) rfl rfl (h y List.mem_cons_self)
    exact lcL_cons (δ1 := [.dat (.ref c), .dat x, .dat (.int N), .dat y, .un]) rfl rfl one ih
theorem bools_of (r : D → Bool) : ∀ rows : List D, boolsOf (rows.map fun y => D.bl (r y)) = some (rows.map r)
  | [] => rfl
  | y :: rows => by
    rw [List.map_cons]
    show (boolsOf (rows.map fun y => D.bl (r y))).map _ = _
    rw [bools_of r rows]
    rfl
/-- rows of which one is none -/
theorem bent {rows : List D} {N c : Nat} (hl : rows.length = N) (hz : N < 1000) (r : D → Bool) (h : ∀ y ∈ rows, F_is_row [.dat y, .dat (.int N)] M = .ok (.bl (r y)) M) (hx : ∃ y ∈ rows, r y = false) :
    F_Table___init [.dat (.ref c), .dat (.lst rows)] M = .exc xT M := by
  have lenv : fCB oLen (fCons (fVar 1) (fNil)) [.dat (.ref c), .dat (.lst rows), .un, .un, .un] M = .ok (.int N) M := by
    refine ev_CB (xs := [.lst rows]) (ys := [.lst rows]) rfl rfl ?_
    show some (D.int _) = _
    rw [hl]
  refine F_initX lenv ?_
  have all : rows.all r = false := by
    obtain ⟨y, hy, e⟩ := hx
    rw [List.all_eq_false]
    exact ⟨y, hy, by rw [e]; exact Bool.false_ne_true⟩
  have t2 : fNot (fB (fCB oAll (fCons (fLc (fSeq (fVar 1)) (gN 3) (fYes) (fCallN 2 F_is_row (fCons (fVar 3) (fCons (fVar 2) (fNil)))) [3]) (fNil)))) [.dat (.ref c), .dat (.lst rows), .dat (.int N), .un, .un] M = .ok true M := by
    refine ev_not (b := false) (ev_fB (ev_CB (xs := [.lst (rows.map fun y => D.bl (r y))]) (ev_one (ev_lc (m1 := M) (gd := none) (ds := rows) (ev_fseq (x := .lst rows) rfl (fun k h => by cases h) rfl) (by rw [hl, sizeLine_eq]; omega) (tests_all rows r h))) rfl ?_))
    show (boolsOf _).map _ = _
    rw [bools_of, Option.map_some]
    have : (rows.map r).all id = rows.all r := by rw [List.all_map]; rfl
    rw [this, all]
  -- the first test gives what it gives
  have t1 : ∃ b, fNot (fB (fChain oLe oLe (fC (.int 1)) (fVar 2) (fC k_Map_PLACES))) [.dat (.ref c), .dat (.lst rows), .dat (.int N), .un, .un] M = .ok b M := by
    have l1 : oLe (.int 1) (.int N) = some (.bl (decide ((1 : Int) ≤ N))) := rfl
    have l2 : oLe (.int N) k_Map_PLACES = some (.bl (decide ((N : Int) ≤ 6))) := rfl
    have ch : ∃ b, fChain oLe oLe (fC (.int 1)) (fVar 2) (fC k_Map_PLACES) [.dat (.ref c), .dat (.lst rows), .dat (.int N), .un, .un] M = .ok (.bl b) M := by
      by_cases h : (1 : Int) ≤ N
      · refine ⟨decide ((N : Int) ≤ 6), ?_⟩
        show (match (oLe (.int 1) (.int N)) with
          | some (.bl true) => _
          | some (.bl false) => _
          | _ => _) = _
        rw [l1, decide_eq_true h]
        show ofO _ (oLe (.int N) k_Map_PLACES) = _
        rw [l2]
        rfl
      · refine ⟨false, ?_⟩
        show (match (oLe (.int 1) (.int N)) with
          | some (.bl true) => _
          | some (.bl false) => _
          | _ => _) = _
        rw [l1, decide_eq_false h]
    obtain ⟨b, e⟩ := ch
    exact ⟨!b, ev_not (ev_fB e)⟩
  obtain ⟨b, e⟩ := t1
  cases b with
  | true =>
    unfold fOr
    rw [e]
    rfl
  | false => exact (ev_orF e).trans t2
end
end K17

/-! k17: too few rows, too many rows, texts that are no rows. -/
namespace K17
open PySem PySem.Spec PyProof.Rows L2 DM Alg Bag
section
variable {n : Nat} {f g : Mt} {m m1 m2 M : Mir} {δ : Sls} {fe ge : Fe}
/-- rows whose number is out of bounds -/
theorem many_rows {rows : List D} {c : Nat} (h : ¬ (1 ≤ rows.length ∧ rows.length ≤ 6)) : F_Table___init [.dat (.ref c), .dat (.lst rows)] M = .exc xT M := by
  have lenv : fCB oLen (fCons (fVar 1) (fNil)) [.dat (.ref c), .dat (.lst rows), .un, .un, .un] M = .ok (.int rows.length) M := ev_CB (xs := [.lst rows]) (ys := [.lst rows]) rfl rfl rfl
  refine F_initX lenv ?_
  have l1 : oLe (.int 1) (.int rows.length) = some (.bl (decide ((1 : Int) ≤ rows.length))) := rfl
  have l2 : oLe (.int rows.length) k_Map_PLACES = some (.bl (decide ((rows.length : Int) ≤ 6))) := rfl
  have ch : fChain oLe oLe (fC (.int 1)) (fVar 2) (fC k_Map_PLACES) [.dat (.ref c), .dat (.lst rows), .dat (.int rows.length), .un, .un] M = .ok (.bl false) M := by
    show (match (oLe (.int 1) (.int rows.length)) with
      | some (.bl true) => _
      | some (.bl false) => _
      | _ => _) = _
    rw [l1]
    by_cases h1 : (1 : Int) ≤ rows.length
    · rw [decide_eq_true h1]
      show ofO _ (oLe (.int rows.length) k_Map_PLACES) = _
      rw [l2, decide_eq_false (by omega)]
      rfl
    · rw [decide_eq_false h1]
  have t1 := ev_not (ev_fB ch)
  unfold fOr
  rw [t1]
  rfl
theorem norow_q : ∀ n : Nat, 0 < n → n ≤ 6 → NoRow n (.str (strRep (Str.ofString "q") n))
  | 0, h, _ => absurd h (by decide)
  | 1, _, _ => fun M => ev_run0 (by kernel_rfl)
  | 2, _, _ => fun M => ev_run0 (by kernel_rfl)
  | 3, _, _ => fun M => ev_run0 (by kernel_rfl)
  | 4, _, _ => fun M => ev_run0 (by kernel_rfl)
  | 5, _, _ => fun M => ev_run0 (by kernel_rfl)
  | 6, _, _ => fun M => ev_run0 (by kernel_rfl)
  | n + 7, _, h => absurd h (by omega)
theorem xs_len : ∀ n : Nat, n ≤ 7 → (strRep (Str.ofString "x") n).length = n
  | 0, _ => by kernel_rfl
  | 1, _ => by kernel_rfl
  | 2, _ => by kernel_rfl
  | 3, _ => by kernel_rfl
  | 4, _ => by kernel_rfl
  | 5, _ => by kernel_rfl
  | 6, _ => by kernel_rfl
  | 7, _ => by kernel_rfl
  | n + 8, h => absurd h (by omega)
end
end K17

/-! k17: tables that are refused, the law's helper. -/
namespace K17
open PySem PySem.Spec PyProof.Rows L2 DM Alg Bag
local macro_rules | `(tactic| simp! [$args,*]) => `(tactic| simp -implicitDefEqProofs (disch := first | assumption | (refine id ?_; with_unfolding_all exact Eq.refl _) | (simp only [List.length_cons, List.length_nil, List.length_map, List.length_range, List.length_append, List.length_take, List.length_drop, List.length_replicate, List.length_reverse] <;> omega) | fail) only [DM.bind_ok, DM.bind_exc, DM.bind_bad, DM.thn_ok, DM.thn_exc, DM.thn_bad, DM.seqK_nx, DM.seqK_rt, DM.seqK_bk, DM.seqK_ct, DM.seqK_exc, DM.seqK_bad, DM.selS_t, DM.selS_f, DM.selE_t, DM.selE_f, DM.selT_t, DM.selT_f, DM.ap_yesK, DM.ap_noK, DM.ifS_ok, DM.ifS_exc, DM.ifE_ok, DM.ifE_exc, DM.ifT_ok, DM.ifT_exc, DM.andK_ok, DM.andK_exc, DM.orK_ok, DM.orK_exc, DM.ap_seq, DM.ap_if, DM.ap_nx, DM.ap_bk, DM.ap_ct, DM.ap_ret, DM.ap_retN, DM.ap_set, DM.ap_drop, DM.asgK_some, DM.ap_asg, DM.parK_2, DM.ap_par, DM.ap_for, DM.ap_gN, DM.ap_gT, DM.ap_gTl, DM.ap_gsNil, DM.ap_gsCons, DM.getK_some, DM.ap_var, DM.ap_c, DM.ofO_some, DM.ofO_none, DM.ap_f1, DM.op2_ss, DM.ap_f2, DM.blK_ok, DM.blK_exc, DM.ap_B, DM.truK_some, DM.ap_Tr, DM.ap_not, DM.ap_and, DM.ap_or, DM.ap_ifE, DM.ap_notV, DM.ap_andV, DM.ap_orV, DM.ap_nil, DM.ap_cons, DM.tupK_ok, DM.lstK_ok, DM.ap_tup, DM.ap_lst, DM.ap_CB, DM.ap_CK, DM.ap_ch2, DM.chnK_bl, DM.ap_chain, DM.tabK_str, DM.ap_Tab, DM.s2K_str, DM.ap_S2, DM.ap_Is, DM.isK_non, DM.isK_bl, DM.isK_int, DM.isK_str, DM.isK_lst, DM.isK_tup, DM.ty_nn, DM.ty_bl, DM.ty_int, DM.ty_str, DM.ty_lst, DM.ty_tup, DM.calK_1, DM.calK_2, DM.calK_3, DM.calK_4, DM.calK_5, DM.ap_callN, DM.ap_star, DM.ap_kw, DM.mthK_ins, DM.ap_mth, DM.vw_non, DM.vw_bl, DM.vw_int, DM.vw_str, DM.vw_lst, DM.vw_tup, DM.vw_ins, DM.vw_dK, DM.vw_dT, DM.vw_ref, DM.noTb_lst, DM.noTb_ins, DM.noTb_dK, DM.noTb_dT, DM.vws_nil, DM.vws_cons, DM.vwsK_ap, DM.vwsC_ap, DM.ob_some, DM.cell_0, DM.cell_s, DM.len_app, DM.app_app, DM.ap_run, DM.runK_rt, DM.runK_nx, DM.runK_exc, DM.trimR_same, DM.trimX_same, DM.trimR_app, DM.trimX_app, DM.elM_ok, DM.elS_t, DM.elS_f, DM.elT_ok, DM.elO_some, DM.ap_el, DM.ap_yes, DM.ap_lc, DM.lcK_ap, DM.gd_none, DM.lcA_some, DM.lcA_none, DM.lcS_ok, DM.lcR_nil, DM.lcR_cons, DM.trnK_some, DM.ctN_nx, DM.ctN_ct, DM.ctN_bk, DM.ctN_rt, DM.ctN_exc, DM.forR_nx, DM.forR_bk, DM.forR_rt, DM.forR_exc, DM.forL_nil, DM.forL_cons', DM.ap_sq, DM.sqR_lst, DM.sqR_tup, DM.sqR_str, DM.sqR_ref, DM.sqC_lst, DM.ap_rg1, DM.rg1_ok, DM.ap_rg2, DM.rg2_ok, DM.rng_nat0, DM.ap_zip, DM.zpK_l, DM.zpK_t, DM.ap_enum, DM.enK_l, DM.ap_enumT, DM.enT_t, DM.ap_newL, DM.nwK_ok, DM.apP_ok, DM.apC_lst, DM.ap1_lst, DM.ap0_ref, DM.ap_app, DM.exP_ok, DM.exC_lst, DM.ex1_lst, DM.ex0_ref, DM.ap_ext, DM.ppI_some, DM.ppC_lst, DM.pp0_ref, DM.ap_pop, DM.clC_lst, DM.cl0_ref, DM.ap_clr, DM.fzO_some, DM.ap_frz, DM.frz_non, DM.frz_bl, DM.frz_int, DM.frz_str, DM.frz_tup, DM.frz_lst, DM.frz_ins, DM.frz_ref, DM.fzL_ap, DM.fzI_ap, DM.fz1_lst, DM.fz1_ins, DM.mapF_nil, DM.mfB_ap, DM.mfA_ap, DM.mapF_cons, DM.jsP_ok, DM.jsK_str, DM.js_nil, DM.js_cons, DM.slO_some, DM.slK3_ap, DM.ap_sl, DM.part_none, DM.prK_int, DM.part_some, DM.ap_raise0, DM.rs1_ok, DM.ap_raise1, DM.cell_i0, DM.cell_i1, DM.cell_i2, DM.cell_i3, DM.cell_i4, DM.set_i0, DM.set_i1, DM.set_i2, DM.set_i3, DM.set_i4, DM.insE_ins, DM.nxK_ok, DM.ap_prop, DM.mkD_non, DM.mkR_ok, DM.mkR_exc, DM.mkK_0, DM.mkK_1, DM.mkK_2, DM.mkK_3, DM.mkK_4, DM.ap_make, DM.fldP_ok, DM.fldC_ins, DM.fld2_ref, DM.ap_fld, DM.putN_nil, DM.putN_s, DM.putN_n, DM.putD_nil, DM.putD_s, DM.putD_n, DM.oFld_at, DM.lkD_s, DM.lkD_n, DM.isO_ins, DM.ap_ow2, DM.ap_ow2E, DM.ngK_ok, DM.ap_owN, DM.plE_ok, DM.ap_owP, DM.toK_ok, DM.isB_ins, DM.ap_owT, DM.ow1K_1, DM.ap_ow1, DM.strD_ok, DM.boolD_ok, DM.lenD_ok, DM.isCK_ins, DM.ap_isC, DM.ap_mthKw, DM.perm_nil, DM.perm_1, DM.perm_01, DM.perm_10, DM.trO_ok, DM.lmB_some, DM.lmK_lam, DM.ap_lamFn, DM.why_ok, DM.got_ok, DM.cpI_some, DM.cpK_1, DM.ap_newCp, DM.ap_newLc, DM.lnK_ap, DM.putI_some, DM.putC_lst, DM.put3_ap, DM.ap_putL, DM.rlK_ok, DM.mul_r, DM.mul_l, DM.mod_ii, DM.fdv_ii, DM.add_ii, DM.add_ll, DM.add_tt, DM.add_ss, DM.f1K, DM.f2K, DM.f2K2, DM.setK, DM.drpK, DM.retK, DM.asgT, DM.forK, DM.trK, DM.notK, DM.ntvK, DM.conK, DM.conK2, DM.cbK, DM.flp, DM.ckK, DM.ckK2, DM.ch3, DM.chK2, DM.chK, DM.s2K2, DM.isV, DM.st2, DM.staK, DM.kwK, DM.mthA, DM.mthT, DM.mthV, DM.wipeD, DM.trn, DM.ap2, DM.ex2, DM.fzK, DM.slK, DM.slK2, DM.prV, DM.mkR, DM.ow2K, DM.ow2K2, DM.ow2X, DM.ow2X2, DM.owPK, DM.owPK2, DM.owTK, DM.mkwA, DM.mkwT, DM.mkwV, DM.isCV, DM.put1, DM.put2, DM.fld1, DM.lamSl, DM.itemsLT, List.map_cons, List.map_nil, List.getD_cons_zero, List.getD_cons_succ, DM.D.plain, DM.insOf, DM.oFld, DM.hasC, List.getElem?_cons_zero, List.getElem?_cons_succ, List.set_cons_zero, List.set_cons_succ, List.cons_append, List.nil_append, List.append_nil, List.replicate_succ, List.replicate_zero, List.length_cons, List.length_nil, DM.oLen, DM.oSub, DM.oLt, DM.oLe, DM.oGt, DM.oGe, DM.oInt, DM.oIs2, DM.oNotIs2, DM.oIsN, DM.oNotN, DM.oNeg, DM.tru, DM.D.low, DM.D.lows, List.any_cons, List.any_nil, Bool.or_false, Bool.or_true, Bool.false_or, Bool.true_or, Bool.not_true, Bool.not_false, Bool.and_true, Bool.true_and, Bool.and_false, Bool.false_and, Bool.not_not, $args,*])
section
variable {n : Nat} {f g : Mt} {m m1 m2 M : Mir} {δ : Sls} {fe ge : Fe}
theorem lpull0 {tb : List Str} {r : Rs D} {k : Int} (h : Ok tb m) (e : F_law_pull [.dat (.ref 0), .dat (.int k)] m = r) (h0 : 0 < k) (hn : k < 1073741824) : ∃ (d : Nat) (m' : Mir), r = .ok (.int d) m' ∧ (d : Int) < k ∧ Ok tb m' ∧ m'.length = m.length ∧ nlM m' = nlM m :=
  pull_r0 h (by rw [← pull_eq2]; exact e) h0 hn
theorem lof0 {tb : List Str} {r : Rs D} {ds : List D} (h : Ok tb m) (e : F_law_of [.dat (.ref 0), .dat (.lst ds)] m = r) (h0 : 0 < ds.length) (hn : ds.length < 1000000) : ∃ (y : D) (m' : Mir), r = .ok y m' ∧ y ∈ ds ∧ Ok tb m' ∧ m'.length = m.length ∧ nlM m' = nlM m :=
  of_l0 h (by rw [← of_eq]; exact e) h0 hn
theorem pw5 : oPow (.int 10) (.int 5) = some (.int 100000) := by rfl
theorem pw6 : oPow (.int 10) (.int 6) = some (.int 1000000) := by rfl
theorem lenL : (rws n f).length = n := by unfold rws; rw [List.length_map, List.length_range]
theorem L_eq : L n f = .lst (rws n f) := rfl
theorem lamR (h : Ok ltab M) (i : Nat) : fLam 1 "_law_table_refused.<locals>.<lambda>" i δ M = .ok (.lam i) M := h.lam (j := 0) rfl
theorem why_I (d : D) : whyR errs flds fieldN (.exc (xI d) M) = .ok (.tup [.str "InvalidNumber", d]) M := by kernel_rfl
theorem cut_lo (ds : List D) (k : Nat) : DM.cutD ds none (some (k : Int)) = ds.take k := by
  unfold DM.cutD
  rw [HT.sIx_nat, HT.sIx_none, Nat.sub_zero, List.drop_zero]
  by_cases h : k ≤ ds.length
  · rw [Nat.min_eq_left h]
  · rw [Nat.min_eq_right (by omega), List.take_length, List.take_of_length_le (by omega)]
theorem cut_hi (ds : List D) (k : Nat) : DM.cutD ds (some (k : Int)) none = ds.drop k := by
  unfold DM.cutD
  rw [HT.sIx_nat, HT.sIx_none]
  by_cases h : k ≤ ds.length
  · rw [Nat.min_eq_left h, List.take_of_length_le (by rw [List.length_drop]; omega)]
  · rw [Nat.min_eq_right (by omega), List.drop_length, List.drop_of_length_le (by omega), List.take_nil]
theorem nls_map {α : Type} {a : α → D} (h : ∀ x, D.nl (a x) = true) : ∀ xs : List α, D.nls (xs.map a) = true
  | [] => rfl
  | x :: xs => by
    rw [List.map_cons, D.nls, h x, nls_map h xs]
    rfl
theorem nl_L : D.nl (L n f) = true := nls_map (fun _ => rfl) _
theorem nl_tbl : D.nl (tbl n f) = true := by
  show (D.nl (T n f) && true) = true
  have : D.nl (T n f) = true := nls_map (a := fun i => rowT n (f i)) (fun i => nls_map (a := fun j => gi (f i j)) (fun _ => rfl) _) _
  rw [this]; rfl
def TX : D := .tup [.str "InvalidTable", .non]
theorem okx (x : Exn) : whyR errs flds fieldN (.exc x M) = hdl errs flds fieldN x M := rfl
theorem oNe_TX : oNe (.tup [.str "InvalidTable", .non]) (.tup [.str "InvalidTable", .non]) = some (.bl false) := by kernel_rfl
theorem rep_x : ∀ k : Nat, k ≤ 7 → oMulS (.str "x") (.int k) = some (.str (strRep "x" k))
  | 0, _ => by rfl
  | 1, _ => by rfl
  | 2, _ => by rfl
  | 3, _ => by rfl
  | 4, _ => by rfl
  | 5, _ => by rfl
  | 6, _ => by rfl
  | 7, _ => by rfl
  | n + 8, h => absurd h (by omega)
theorem rep_q : ∀ k : Nat, k ≤ 7 → oMulS (.str "q") (.int k) = some (.str (strRep "q" k))
  | 0, _ => by rfl
  | 1, _ => by rfl
  | 2, _ => by rfl
  | 3, _ => by rfl
  | 4, _ => by rfl
  | 5, _ => by rfl
  | 6, _ => by rfl
  | 7, _ => by rfl
  | n + 8, h => absurd h (by omega)
theorem vw_tbl : view M (tbl n f) = some (.ins "Table" ["grades"] [T n f]) := rfl
theorem rep_l (d : D) (k : Nat) (hk : k ≤ 7) : oMul (.lst [d]) (.int k) = some (.lst (List.replicate k d)) := by
  have e : (List.replicate ((k : Int)).toNat [d]).flatten = List.replicate k d := by
    rw [Int.toNat_natCast]
    clear hk
    induction k with
    | zero => rfl
    | succ k ih => rw [List.replicate_succ, List.flatten_cons, ih]; rfl
  simp only [oMul]
  rw [if_pos ⟨by omega, by omega, by rw [sizeLine_eq]; simp; omega⟩, e]
def Bad (rows : List D) : Prop := ∀ (c : Nat) (M : Mir), F_Table___init [.dat (.ref c), .dat (.lst rows)] M = .exc xT M
theorem bad_bent (hn : n ≤ 6) {x : D} {k : Nat} (hk : k < n) (hx : NoRow n x) : Bad ((rws n f).take k ++ [x] ++ (rws n f).drop (k + 1)) := fun c M => by
  classical
  refine bent (N := n) ?_ (by omega) (fun y => decide (y ≠ x)) ?_ ⟨x, by simp, by simp⟩
  · simp only [List.length_append, List.length_take, List.length_drop, List.length_cons, List.length_nil, lenL]
    omega
  · intro y hy
    by_cases e : y = x
    · subst e
      rw [hx M]
      simp
    · have : y ∈ rws n f := by
        simp only [List.mem_append, List.mem_singleton] at hy
        rcases hy with (hy | hy) | hy
        · exact List.mem_of_mem_take hy
        · exact absurd hy e
        · exact List.mem_of_mem_drop hy
      obtain ⟨i, hi, rfl⟩ := List.mem_map.mp this
      rw [F_row (f i) M hn]
      simp [e]
theorem len_txt (r : Nat → Fin 7) : (txt n r).length = n := by
  unfold txt
  show ((List.range n).map fun j => code (r j)).toArray.size = n
  rw [List.size_toArray, List.length_map, List.length_range]
theorem refuse1 {rows : List D} (h : Ok ltab M) (hb : Bad rows) (s0 s1 s2 s3 s4 s5 s6 s7 s8 s9 s11 : Sl) : b_law_table_refused_1 [s0, s1, s2, s3, s4, s5, s6, s7, s8, s9, .dat (.lst rows), s11] M = .nx [s0, s1, s2, s3, s4, s5, s6, s7, s8, s9, .dat (.lst rows), s11] M := by
  have fm := h.fm
  have fm2 : Fm (M ++ [some (D.ins "Table" [] [])]) := fm_snoc (fun k => rfl) fm
  simp! [b_law_table_refused_1, lamR h, bs_law_table_refused, lb_law_table_refused_0, hb _ _, why_T, oNe_TX]
theorem F_refused (h : Ok ltab M) (hl : nlM M = true) (h0 : 0 < n) (h6 : n ≤ 6) : ∃ M', F_law_table_refused [.dat (.ref 0), .dat (tbl n f), .dat (L n f)] M = .ok (.bl true) M' ∧ Ok ltab M' ∧ M'.length = M.length ∧ nlM M' = true := by
  have nl0 : nlSs [.dat (.ref 0), .dat (tbl n f), .dat (L n f)] = true := by
    show (true && (D.nl (tbl n f) && (D.nl (L n f) && true))) = true
    rw [nl_tbl, nl_L]; rfl
  unfold F_law_table_refused
  rw [runL_ap nl0 hl]
  simp! [g_law_table_refused, L_eq, lenL, pw5, pw6, oNeg]
  generalize e1 : F_law_of _ _ = r
  obtain ⟨x1, M1, rfl, hx1, k1, l1, n1⟩ := lof0 h e1 (by simp) (by simp)
  simp! [pw5, pw6, oNeg]
  generalize e2 : F_law_of _ _ = r
  obtain ⟨x2, M2, rfl, hx2, k2, l2, n2⟩ := lof0 k1 e2 (by simp) (by simp)
  have o1 : Out 0 ((n : Int) - 1) x1 := by
    simp only [List.mem_cons, List.not_mem_nil, or_false] at hx1
    rcases hx1 with rfl | rfl | rfl | rfl
    · exact .inr ⟨_, rfl, by omega⟩
    · exact .inr ⟨_, rfl, by omega⟩
    · exact .inr ⟨_, rfl, by omega⟩
    · exact .inl rfl
  have o2 : Out 1 6 x2 := by
    simp only [List.mem_cons, List.not_mem_nil, or_false] at hx2
    rcases hx2 with rfl | rfl | rfl | rfl | rfl
    · exact .inr ⟨_, rfl, by omega⟩
    · exact .inr ⟨_, rfl, by omega⟩
    · exact .inr ⟨_, rfl, by omega⟩
    · exact .inr ⟨_, rfl, by omega⟩
    · exact .inl rfl
  simp! [lamR k2, bs_law_table_refused, lb_law_table_refused_1, lb_law_table_refused_2, lb_law_table_refused_3, F_valueX1 h0 o1, F_valueX0 o1, F_identityX o2, why_I, vw_tbl]
  have s1 : okN 9 (.lst [.tup [.str "InvalidNumber", x1], .tup [.str "InvalidNumber", x1], .tup [.str "InvalidNumber", x2]]) = true := by
    rcases o1 with rfl | ⟨a, rfl, _⟩ <;> rcases o2 with rfl | ⟨b, rfl, _⟩ <;> kernel_rfl
  have s2 : ∀ m, F_law_same 9 [.dat (.lst [.tup [.str "InvalidNumber", x1], .tup [.str "InvalidNumber", x1], .tup [.str "InvalidNumber", x2]]), .dat (.lst [.tup [.str "InvalidNumber", x1], .tup [.str "InvalidNumber", x1], .tup [.str "InvalidNumber", x2]])] m = .ok (.bl true) m := fun m => by
    rw [same_eq 9]
    exact same_ok 9 _ m s1
  simp! [s2]
  generalize e3 : F_law_pull _ _ = r
  obtain ⟨k, M3, rfl, hk, k3, l3, n3⟩ := lpull0 k2 e3 (by omega) (by omega)
  have sub1 : (n : Int) - 1 = ((n - 1 : Nat) : Int) := by omega
  have add1 : (n : Int) + 1 = ((n + 1 : Nat) : Int) := by omega
  simp! [sub1, add1, rep_x (n - 1) (by omega), rep_x (n + 1) (by omega), rep_q n (by omega), rep_l _ n (by omega)]
  generalize e4 : F_law_of _ _ = r
  obtain ⟨x3, M4, rfl, hx3, k4, l4, n4⟩ := lof0 k3 e4 (by simp) (by simp)
  have add2 : (k : Int) + 1 = ((k + 1 : Nat) : Int) := by omega
  have sl1 : oSl (.lst (rws n f)) none (some (k : Int)) = some (.lst ((rws n f).take k)) := by
    show some (D.lst (DM.cutD _ _ _)) = _
    rw [cut_lo]
  have sl2 : oSl (.lst (rws n f)) (some ((k + 1 : Nat) : Int)) none = some (.lst ((rws n f).drop (k + 1))) := by
    show some (D.lst (DM.cutD _ _ _)) = _
    rw [cut_hi]
  have ll := lenL (n := n) (f := f)
  have ix0 : oIx (.lst (rws n f)) (.int 0) = some (.str (txt n (f 0))) := by
    show atI (rws n f) ((0 : Nat) : Int) = _
    rw [atI_nat _ _ (by omega)]
    unfold rws
    rw [List.getElem?_map, List.getElem?_range h0]
    rfl
  have hb1 : Bad ((rws n f).take k ++ [x3] ++ (rws n f).drop (k + 1)) := by
    refine bad_bent h6 (by omega) ?_
    simp only [List.mem_cons, List.not_mem_nil, or_false] at hx3
    rcases hx3 with rfl | rfl | rfl | rfl | rfl | rfl | rfl
    · exact norow_q n h0 h6
    · exact norow_len _ _ (by rw [xs_len _ (by omega)]; omega)
    · exact norow_len _ _ (by rw [xs_len _ (by omega)]; omega)
    · exact norow_non _
    · exact norow_int _ _
    · exact norow_lst _ _
    · exact norow_len _ _ (by show (0 : Nat) ≠ n; omega)
  have hb2 : Bad [] := fun c M => many_rows (by simp)
  have hb3 : Bad (List.replicate 7 (.str (strRep "x" 7))) := fun c M => many_rows (by simp)
  have hb4 : Bad (rws n f ++ [.str (txt n (f 0))]) := by
    by_cases h7 : n = 6
    · exact fun c M => many_rows (by simp [ll]; omega)
    · intro c M
      refine bent (N := n + 1) (by simp [ll]) (by omega) (fun _ => false) ?_ ⟨.str (txt n (f 0)), by simp, rfl⟩
      intro y hy
      simp only [List.mem_append, List.mem_singleton] at hy
      have : ∃ i, y = .str (txt n (f i)) := by
        rcases hy with hy | rfl
        · obtain ⟨i, hi, rfl⟩ := List.mem_map.mp hy
          exact ⟨i, rfl⟩
        · exact ⟨0, rfl⟩
      obtain ⟨i, rfl⟩ := this
      exact norow_len (n + 1) _ (by rw [len_txt]; omega) M
  have r7 : oMulS (.str "x") (.int 7) = some (.str (strRep "x" 7)) := rep_x 7 (by omega)
  have r7l : oMul (.lst [.str (strRep "x" 7)]) (.int 7) = some (.lst (List.replicate 7 (.str (strRep "x" 7)))) := rep_l _ 7 (by omega)
  have fm4 := k4.fm
  simp only [List.replicate_succ, List.replicate_zero] at hb3
  simp! [add2, sl1, sl2, ix0, r7, r7l, refuse1 k4 hb1, refuse1 k4 hb2, refuse1 k4 hb3, refuse1 k4 hb4]
  have nl : nlM M4 = true := by rw [n4, n3, n2, n1]; exact hl
  have hlen : M.length = M4.length := by omega
  simp! []
  exact ⟨M4, rfl, k4, by omega, nl⟩
end
end K17

/-! k17: a turn of the law, the law. -/
namespace K17
open PySem PySem.Spec PyProof.Rows L2 DM Alg Bag
local macro_rules | `(tactic| simp! [$args,*]) => `(tactic| simp -implicitDefEqProofs (disch := first | assumption | (refine id ?_; with_unfolding_all exact Eq.refl _) | omega | (simp only [List.length_cons, List.length_nil, List.length_map, List.length_range, List.length_append, List.length_take, List.length_drop, List.length_replicate, List.length_reverse] <;> omega) | (refine Bag.fm_app (by assumption) ?_; repeat (first | exact Bag.Flat.nil | refine Bag.Flat.none ?_ | refine Bag.Flat.some (by first | assumption | with_unfolding_all exact Eq.refl _) ?_)) | fail) only [DM.bind_ok, DM.bind_exc, DM.bind_bad, DM.thn_ok, DM.thn_exc, DM.thn_bad, DM.seqK_nx, DM.seqK_rt, DM.seqK_bk, DM.seqK_ct, DM.seqK_exc, DM.seqK_bad, DM.selS_t, DM.selS_f, DM.selE_t, DM.selE_f, DM.selT_t, DM.selT_f, DM.ap_yesK, DM.ap_noK, DM.ifS_ok, DM.ifS_exc, DM.ifE_ok, DM.ifE_exc, DM.ifT_ok, DM.ifT_exc, DM.andK_ok, DM.andK_exc, DM.orK_ok, DM.orK_exc, DM.ap_seq, DM.ap_if, DM.ap_nx, DM.ap_bk, DM.ap_ct, DM.ap_ret, DM.ap_retN, DM.ap_set, DM.ap_drop, DM.asgK_some, DM.ap_asg, DM.parK_2, DM.ap_par, DM.ap_for, DM.ap_gN, DM.ap_gT, DM.ap_gTl, DM.ap_gsNil, DM.ap_gsCons, DM.getK_some, DM.ap_var, DM.ap_c, DM.ofO_some, DM.ofO_none, DM.ap_f1, DM.op2_ss, DM.ap_f2, DM.blK_ok, DM.blK_exc, DM.ap_B, DM.truK_some, DM.ap_Tr, DM.ap_not, DM.ap_and, DM.ap_or, DM.ap_ifE, DM.ap_notV, DM.ap_andV, DM.ap_orV, DM.ap_nil, DM.ap_cons, DM.tupK_ok, DM.lstK_ok, DM.ap_tup, DM.ap_lst, DM.ap_CB, DM.ap_CK, DM.ap_ch2, DM.chnK_bl, DM.ap_chain, DM.tabK_str, DM.ap_Tab, DM.s2K_str, DM.ap_S2, DM.ap_Is, DM.isK_non, DM.isK_bl, DM.isK_int, DM.isK_str, DM.isK_lst, DM.isK_tup, DM.ty_nn, DM.ty_bl, DM.ty_int, DM.ty_str, DM.ty_lst, DM.ty_tup, DM.calK_1, DM.calK_2, DM.calK_3, DM.calK_4, DM.calK_5, DM.ap_callN, DM.ap_star, DM.ap_kw, DM.mthK_ins, DM.ap_mth, DM.vw_non, DM.vw_bl, DM.vw_int, DM.vw_str, DM.vw_lst, DM.vw_tup, DM.vw_ins, DM.vw_dK, DM.vw_dT, DM.vw_ref, DM.noTb_lst, DM.noTb_ins, DM.noTb_dK, DM.noTb_dT, DM.vws_nil, DM.vws_cons, DM.vwsK_ap, DM.vwsC_ap, DM.ob_some, DM.cell_0, DM.cell_s, DM.len_app, DM.app_app, DM.ap_run, DM.runK_rt, DM.runK_nx, DM.runK_exc, DM.trimR_same, DM.trimX_same, DM.trimR_app, DM.trimX_app, DM.elM_ok, DM.elS_t, DM.elS_f, DM.elT_ok, DM.elO_some, DM.ap_el, DM.ap_yes, DM.ap_lc, DM.lcK_ap, DM.gd_none, DM.lcA_some, DM.lcA_none, DM.lcS_ok, DM.lcR_nil, DM.lcR_cons, DM.trnK_some, DM.ctN_nx, DM.ctN_ct, DM.ctN_bk, DM.ctN_rt, DM.ctN_exc, DM.forR_nx, DM.forR_bk, DM.forR_rt, DM.forR_exc, DM.forL_nil, DM.forL_cons', DM.ap_sq, DM.sqR_lst, DM.sqR_tup, DM.sqR_str, DM.sqR_ref, DM.sqC_lst, DM.ap_rg1, DM.rg1_ok, DM.ap_rg2, DM.rg2_ok, DM.rng_nat0, DM.ap_zip, DM.zpK_l, DM.zpK_t, DM.ap_enum, DM.enK_l, DM.ap_enumT, DM.enT_t, DM.ap_newL, DM.nwK_ok, DM.apP_ok, DM.apC_lst, DM.ap1_lst, DM.ap0_ref, DM.ap_app, DM.exP_ok, DM.exC_lst, DM.ex1_lst, DM.ex0_ref, DM.ap_ext, DM.ppI_some, DM.ppC_lst, DM.pp0_ref, DM.ap_pop, DM.clC_lst, DM.cl0_ref, DM.ap_clr, DM.fzO_some, DM.ap_frz, DM.frz_non, DM.frz_bl, DM.frz_int, DM.frz_str, DM.frz_tup, DM.frz_lst, DM.frz_ins, DM.frz_ref, DM.fzL_ap, DM.fzI_ap, DM.fz1_lst, DM.fz1_ins, DM.mapF_nil, DM.mfB_ap, DM.mfA_ap, DM.mapF_cons, DM.jsP_ok, DM.jsK_str, DM.js_nil, DM.js_cons, DM.slO_some, DM.slK3_ap, DM.ap_sl, DM.part_none, DM.prK_int, DM.part_some, DM.ap_raise0, DM.rs1_ok, DM.ap_raise1, DM.cell_i0, DM.cell_i1, DM.cell_i2, DM.cell_i3, DM.cell_i4, DM.set_i0, DM.set_i1, DM.set_i2, DM.set_i3, DM.set_i4, DM.cell_i5, DM.set_i5, DM.cell_i6, DM.set_i6, DM.cell_i7, DM.set_i7, DM.cell_i8, DM.set_i8, DM.cell_i9, DM.set_i9, DM.cell_i10, DM.set_i10, DM.cell_i11, DM.set_i11, DM.insE_ins, DM.nxK_ok, DM.ap_prop, DM.mkD_non, DM.mkR_ok, DM.mkR_exc, DM.mkK_0, DM.mkK_1, DM.mkK_2, DM.mkK_3, DM.mkK_4, DM.ap_make, DM.fldP_ok, DM.fldC_ins, DM.fld2_ref, DM.ap_fld, DM.putN_nil, DM.putN_s, DM.putN_n, DM.putD_nil, DM.putD_s, DM.putD_n, DM.oFld_at, DM.lkD_s, DM.lkD_n, DM.isO_ins, DM.ap_ow2, DM.ap_ow2E, DM.ngK_ok, DM.ap_owN, DM.plE_ok, DM.ap_owP, DM.toK_ok, DM.isB_ins, DM.ap_owT, DM.ow1K_1, DM.ap_ow1, DM.strD_ok, DM.boolD_ok, DM.lenD_ok, DM.isCK_ins, DM.ap_isC, DM.ap_mthKw, DM.perm_nil, DM.perm_1, DM.perm_01, DM.perm_10, DM.trO_ok, DM.lmB_some, DM.lmK_lam, DM.ap_lamFn, DM.why_ok, DM.got_ok, DM.cpI_some, DM.cpK_1, DM.ap_newCp, DM.ap_newLc, DM.lnK_ap, DM.putI_some, DM.putC_lst, DM.put3_ap, DM.ap_putL, DM.rlK_ok, DM.mul_r, DM.mul_l, DM.mod_ii, DM.fdv_ii, DM.add_ii, DM.add_ll, DM.add_tt, DM.add_ss, DM.sub_ii, DM.lt_ii, DM.le_ii, DM.gt_ii, DM.ge_ii, DM.neg_i, DM.len_l, DM.len_t, DM.len_s, DM.int_i, DM.is2_non, DM.is2_bl, DM.is2_int, DM.is2_str, DM.is2_lst, DM.is2_tup, DM.ni2_non, DM.ni2_bl, DM.ni2_int, DM.ni2_str, DM.ni2_lst, DM.ni2_tup, DM.tru_bl, DM.tru_int, DM.tru_non, DM.tup_l, DM.tup_t, DM.list_l, DM.list_t, DM.list_s, DM.rev_l, DM.eq_ii, DM.eq_bb, DM.ne_bb, DM.ne_ii, DM.sl_l, DM.sl_t, DM.itLT_l, DM.itLT_t, DM.f1K, DM.f2K, DM.f2K2, DM.setK, DM.drpK, DM.retK, DM.asgT, DM.forK, DM.trK, DM.notK, DM.ntvK, DM.conK, DM.conK2, DM.cbK, DM.flp, DM.ckK, DM.ckK2, DM.ch3, DM.chK2, DM.chK, DM.s2K2, DM.isV, DM.st2, DM.staK, DM.kwK, DM.mthA, DM.mthT, DM.mthV, DM.wipeD, DM.trn, DM.ap2, DM.ex2, DM.fzK, DM.slK, DM.slK2, DM.prV, DM.mkR, DM.ow2K, DM.ow2K2, DM.ow2X, DM.ow2X2, DM.owPK, DM.owPK2, DM.owTK, DM.mkwA, DM.mkwT, DM.mkwV, DM.isCV, DM.put1, DM.put2, DM.fld1, DM.lamSl, List.map_cons, List.map_nil, List.getD_cons_zero, List.getD_cons_succ, DM.D.plain, DM.insOf, DM.hasC, List.getElem?_cons_zero, List.getElem?_cons_succ, List.set_cons_zero, List.set_cons_succ, List.cons_append, List.nil_append, List.append_nil, List.replicate_succ, List.replicate_zero, List.length_cons, List.length_nil, DM.D.low, DM.D.lows, List.any_cons, List.any_nil, Bool.or_false, Bool.or_true, Bool.false_or, Bool.true_or, Bool.not_true, Bool.not_false, Bool.and_true, Bool.true_and, Bool.and_false, Bool.false_and, Bool.not_not, $args,*])
section
variable {n : Nat} {f g : Mt} {m m1 m2 M : Mir} {δ : Sls} {fe ge : Fe}
theorem lpull {tb : List Str} {r : Rs D} {k : Int} {cs : Mir} (h : Ok tb m) (e : F_law_pull [.dat (.ref 0), .dat (.int k)] (m ++ cs) = r) (h0 : 0 < k) (hn : k < 1073741824) : ∃ (d : Nat) (m' : Mir), r = .ok (.int d) (m' ++ cs) ∧ (d : Int) < k ∧ Ok tb m' ∧ m'.length = m.length ∧ nlM m' = nlM m :=
  pull_r h (by rw [← pull_eq2]; exact e) h0 hn
theorem lof {tb : List Str} {r : Rs D} {ds : List D} {cs : Mir} (h : Ok tb m) (e : F_law_of [.dat (.ref 0), .dat (.lst ds)] (m ++ cs) = r) (h0 : 0 < ds.length) (hn : ds.length < 1000000) : ∃ (y : D) (m' : Mir), r = .ok y (m' ++ cs) ∧ y ∈ ds ∧ Ok tb m' ∧ m'.length = m.length ∧ nlM m' = nlM m :=
  of_l h (by rw [← of_eq]; exact e) h0 hn
theorem drawn_r {r : Rs D} (h : Ok ltab m) (e : F_law_drawn_rows [.dat (.ref 0), .dat (.int n)] m = r) (h0 : 0 < n) (hn : n ≤ 6) : ∃ (f : Mt) (m' : Mir), r = .ok (L n f) m' ∧ Ok ltab m' ∧ m'.length = m.length ∧ nlM m' = nlM m := by
  obtain ⟨f, m', e1, ⟨h1, h2⟩, h3⟩ := F_drawn (n := n) (⟨⟨h, rfl⟩, rfl⟩ : GlT (m.drop 1) m.length m) h0 hn
  refine ⟨f, m', e.symm.trans e1, h1, h3, ?_⟩
  obtain ⟨ns, i, k, z, rest, rfl, _⟩ := h.ex
  obtain ⟨ns', i', k', z', rest', rfl, _⟩ := h1.ex
  rw [nlM_bag, nlM_bag]
  exact congrArg nlM h2
theorem fz1_tbl : fz1 8 (some (tbl n f)) m = some (tbl n f, m) := rfl
theorem fz1_L : fz1 8 (some (L n f)) m = some (L n f, m) := by
  show (mapF (frzD 8) (rws n f) m).bind fzL = _
  unfold rws
  rw [mapF_str]
  rfl
theorem F_places : F_Table_places [.dat (tbl n f)] m = .ok (.int n) m := by
  have e : oFld ["Table"] "grades" (tbl n f) = some (T n f) := rfl
  have v : view m (tbl n f) = some (tbl n f) := rfl
  have v2 : view m (T n f) = some (T n f) := rfl
  simp! [F_Table_places, g_Table_places, e, v, v2, len_T n f]
theorem isO_tbl {k : Rs D} : isO "Table" (some (tbl n f)) k = k := if_pos rfl
theorem insE_tbl {k : Rs D} : insE "Table" k (some (tbl n f)) "Table" = k := insE_ins rfl
theorem mthK_tbl {p : Str} {k : Rs D} (h : lkD p ["grades"] [T n f] = none) : mthK "Table" p (some (tbl n f)) k = k := mthK_ins rfl h
theorem lsame {x : D} (h : okN 9 x = true) : F_law_same 9 [.dat x, .dat x] M = .ok (.bl true) M := by
  rw [same_eq 9]
  exact same_ok 9 x M h
theorem okN_L {k n : Nat} (f : Mt) (hn : n ≤ 6) : okN (k + 2) (L n f) = true := okn_l (by simp; omega) fun d hd => by
  obtain ⟨i, _, rfl⟩ := List.mem_map.mp hd
  exact okn_s (strOk_txt n (f i) hn)
theorem strOk_ch : ∀ a : Fin 7, PyData.strOk (ch a) = true := by decide +kernel
theorem ne_ch : ∀ a : Fin 7, oNe (.str (ch a)) (.str (ch a)) = some (.bl false) := by
  intro a
  match a with
  | 0 => kernel_rfl
  | 1 => kernel_rfl
  | 2 => kernel_rfl
  | 3 => kernel_rfl
  | 4 => kernel_rfl
  | 5 => kernel_rfl
  | 6 => kernel_rfl
theorem F_eqP {y : D} (hv : view m y = some y) (hp : y.plain = true) : F_Table___eq [.dat (tbl n f), .dat y] m = .ok (.bl false) m := by
  simp! [F_Table___eq, g_Table___eq, hv, isCK_no "Table" hp]
theorem isCK_tbl : isCK "Table" (some (tbl n f)) m = .ok (.bl true) m := isCK_ins rfl
theorem clC_L {k : Nat} : clC k (some (L n f)) m = .ok .non (m.set k (some (.lst []))) := rfl
theorem plE_L {k : Rs D} : plE (some (L n f)) k = k := plE_ok rfl
theorem rows_rev : (rws n f).reverse = rws n fun i => f (n - 1 - i) := by
  refine List.ext_getElem (by simp [rws]) fun i h1 h2 => ?_
  simp [rws]
theorem txt_x : ∀ n : Nat, n ≤ 6 → strRep "x" n = txt n fun _ => 6
  | 0, _ => by kernel_rfl
  | 1, _ => by kernel_rfl
  | 2, _ => by kernel_rfl
  | 3, _ => by kernel_rfl
  | 4, _ => by kernel_rfl
  | 5, _ => by kernel_rfl
  | 6, _ => by kernel_rfl
  | n + 7, h => absurd h (by omega)
theorem rows_last (h0 : 0 < n) (h6 : n ≤ 6) : (rws n f).take (n - 1) ++ [.str (strRep "x" n)] = rws n fun i => if i = n - 1 then (fun _ => 6) else f i := by
  rw [txt_x n h6]
  refine List.ext_getElem (by simp [rws]; omega) fun i h1 h2 => ?_
  by_cases hi : i < n - 1
  · rw [List.getElem_append_left (by simp [rws]; omega)]
    simp [rws, Nat.ne_of_lt hi]
  · have : i = n - 1 := by
      simp [rws] at h1
      omega
    subst this
    rw [List.getElem_append_right (by simp [rws])]
    simp [rws]
/-- between the turns -/
def Iv (δ : Sls) (m : Mir) : Prop := (∃ l : Sls, l.length = 9 ∧ δ = .un :: .dat (.ref 0) :: l) ∧ Ok ltab m ∧ nlM m = true
theorem turn (a2 a3 a4 a5 a6 a7 a8 a9 a10 : Sl) (h : Ok ltab m) (hl : nlM m = true) : ∃ δ2 m', b_law_1 [.un, .dat (.ref 0), a2, a3, a4, a5, a6, a7, a8, a9, a10] m = .nx δ2 m' ∧ Iv δ2 m' := by
  simp! [b_law_1]
  generalize e1 : F_law_pull _ _ = r
  obtain ⟨d, m1, rfl, hd, k1, l1, n1⟩ := lpull0 h e1 (by omega) (by omega)
  obtain ⟨n, hn⟩ : ∃ n : Nat, n = d + 1 := ⟨_, rfl⟩
  have hd1 : (1 : Int) + (d : Int) = (n : Int) := by omega
  simp! [hd1]
  generalize e2 : F_law_drawn_rows _ _ = r
  obtain ⟨f, m2, rfl, k2, l2, n2⟩ := drawn_r k1 e2 (by omega) (by omega)
  have vL : ∀ m, view m (L n f) = some (L n f) := fun _ => rfl
  have tL : oTuple [L n f] = some (.tup (rws n f)) := rfl
  have iL : itemsLT (L n f) = some (rws n f) := rfl
  have fl : fz1 8 (some (.lst (rws n f))) = fz1 8 (some (L n f)) := rfl
  simp! [vL, tL, iL]
  generalize e3 : F_law_of _ _ = r
  obtain ⟨x, m3, rfl, hx, k3, l3, n3⟩ := lof k2 e3 (by simp) (by simp)
  have h0 : 0 < n := by omega
  have h6 : n ≤ 6 := by omega
  have R : RowsAt x n f (m3 ++ [some (.lst (rws n f))] ++ [some (.ins "Table" [] [])]) := by
    simp only [List.mem_cons, List.not_mem_nil, or_false] at hx
    rcases hx with rfl | rfl
    · refine rows_ref ?_
      rw [List.append_assoc]
      exact cell_i0 (by omega)
    · exact rows_tup
  have fi := F_init (m := m3 ++ [some (.lst (rws n f))]) (x := x) (n := n) (f := f) R h0 h6
  have fm3 := k3.fm
  have vt : ∀ m, view m (tbl n f) = some (tbl n f) := fun _ => rfl
  have lw : D.low 0 (.lst (rws n f)) = true := low0_map (fun _ => rfl) _
  have lwL : D.low 0 (L n f) = true := lw
  have nn : ∀ k : Nat, k < n → (n : Int) - 1 - (k : Int) = ((n - 1 - k : Nat) : Int) := fun k hk => by omega
  simp! [] at fi
  simp! [fi, fz1_tbl, vt, mthK_tbl, F_rows, fz1_L, insE_tbl, F_places, isO_tbl, F_repr]
  have lv : ∀ (M : Mir) (a7 a8 a9 : Sl), lcR (gN 10) fYes (fMth "Table" "value" 3 F_Table_value (fVar 6) (fCons (fVar 10) (fCons (f2 oSub (f2 oSub (fVar 3) (fC (.int 1))) (fVar 10)) fNil))) [.un, .dat (.ref 0), a2, .dat (.int n), .dat (L n f), .dat (.ref m2.length), .dat (tbl n f), a7, a8, a9, .un] none ((List.range n).map fun (i : Nat) => D.int (i : Nat)) M = .ok (.lst ((List.range n).map fun k => .str (ch (f k (n - 1 - k))))) M := fun M a7 a8 a9 => by
    refine lc_map _ _ _ (by simp; omega) rfl fun k hk => ?_
    have hk : k < n := List.mem_range.mp hk
    simp! [vt, mthK_tbl, nn k hk, F_value hk (show n - 1 - k < n by omega)]
  have lv2 : ∀ (M : Mir) (a7 a8 a9 : Sl), lcR (gN 10) fYes (f2 oIx (f2 oIx (fVar 4) (fVar 10)) (f2 oSub (f2 oSub (fVar 3) (fC (.int 1))) (fVar 10))) [.un, .dat (.ref 0), a2, .dat (.int n), .dat (L n f), .dat (.ref m2.length), .dat (tbl n f), a7, a8, a9, .un] none ((List.range n).map fun (i : Nat) => D.int (i : Nat)) M = .ok (.lst ((List.range n).map fun k => .str (ch (f k (n - 1 - k))))) M := fun M a7 a8 a9 => by
    refine lc_map _ _ _ (by simp; omega) rfl fun k hk => ?_
    have hk : k < n := List.mem_range.mp hk
    simp! [vL, nn k hk, ix_L hk, ix_txt (r := f k) (show n - 1 - k < n by omega)]
  have jl := J_len (f := f) h6
  have tol := told_len (f := f) h6
  have oj := oJoin_L (f := f) h6
  have at1 : oAdd (.str "Table(") (.str (J n f)) = some (.str ("Table(" ++ J n f)) := add_ss (by show 6 + _ ≤ _; omega)
  have at2 : oAdd (.str ("Table(" ++ J n f)) (.str ")") = some (.str (told n f)) := add_ss (by
    have : (told n f).length = ("Table(" ++ J n f : Str).length + (")" : Str).length := app_len _ _
    omega)
  have ok7 : okN 9 (.lst [L n f, .int n, .lst ((List.range n).map fun k => .str (ch (f k (n - 1 - k)))), .str (told n f)]) = true :=
    okn_l (by simp) (okn_cons (okN_L f h6) (okn_cons okn_i (okn_cons (okn_l (by simp; omega) fun d hd => by
      obtain ⟨i, _, rfl⟩ := List.mem_map.mp hd
      exact okn_s (strOk_ch _)) (okn_cons (okn_s (strOk_app (strOk_app (by decide +kernel) (strOk_join (by decide +kernel) _ fun y hy => by
        obtain ⟨i, _, rfl⟩ := List.mem_map.mp hy
        exact strOk_txt n (f i) h6)) (by decide +kernel))) okn_nil))))
  have ix0 : ixN (rws n f).length 0 = some 0 := by
    unfold ixN
    rw [lenL, if_pos (by omega), if_pos (by omega)]
    rfl
  simp! [rng_nat0, lv, lv2, vL, vt, isO_tbl, F_repr, oj, at1, at2, lsame ok7, ix0]
  have lwS : D.low 0 (.lst ((rws n f).set 0 (.str "q"))) = true := by
    have : ∀ (ds : List D) (k : Nat) (d : D), D.lows 0 ds = true → D.low 0 d = true → D.lows 0 (ds.set k d) = true := by
      intro ds
      induction ds with
      | nil => intro k d h _; exact h
      | cons e ds ih =>
        intro k d h hd
        obtain ⟨h1, h2⟩ := Bool.and_eq_true_iff.mp (show (D.low 0 e && D.lows 0 ds) = true from h)
        cases k with
        | zero =>
          show (D.low 0 d && D.lows 0 ds) = true
          rw [hd, h2]; rfl
        | succ k =>
          show (D.low 0 e && D.lows 0 (ds.set k d)) = true
          rw [h1, ih k d h2 hd]; rfl
    exact this _ _ _ lw rfl
  have sub1 : (n : Int) - 1 = ((n - 1 : Nat) : Int) := by omega
  have fv0 : ∀ m, F_Table_value [.dat (tbl n f), .dat (.int ((n - 1 : Nat) : Int)), .dat (.int 0)] m = .ok (.str (ch (f (n - 1) 0))) m := fun m => F_value (a := n - 1) (b := 0) (by omega) h0
  have ixl : oIx (L n f) (.int ((n - 1 : Nat) : Int)) = some (.str (txt n (f (n - 1)))) := ix_L (by omega)
  have ixt : oIx (.str (txt n (f (n - 1)))) (.int 0) = some (.str (ch (f (n - 1) 0))) := ix_txt (r := f (n - 1)) (k := 0) h0
  have eqS : ∀ g : Mt, eqB n g g = true := fun g => eqB_iff.mpr .rfl'
  have sl9 : oSl (L n f) none (some (-1)) = some (.lst ((rws n f).take (n - 1))) := by
    show some (D.lst (DM.cutD (rws n f) none (some (-1)))) = _
    unfold DM.cutD HT.sIx
    simp only [lenL, List.drop_zero]
    rw [if_pos (by decide)]
    congr 3
    omega
  have rvL : oRev (L n f) = some (L n fun i => f (n - 1 - i)) := by
    show some (D.lst (rws n f).reverse) = _
    rw [rows_rev]; rfl
  have lsL : oListS [L n f] = some (L n f) := rfl
  have rpx := rep_x n (by omega)
  have ltk : ((rws n f).take (n - 1)).length = n - 1 := by rw [List.length_take, lenL]; omega
  have ad9 : oAdd (.lst ((rws n f).take (n - 1))) (.lst [.str (strRep "x" n)]) = some (L n fun i => if i = n - 1 then (fun _ => 6) else f i) := by
    rw [add_ll (by rw [ltk]; simp; omega), rows_last h0 h6]; rfl
  simp! [vt, mthK_tbl, F_rows, clC_L, fz1_L, vL, oNe_L n f f h6, eqS, sub1, fv0, ixl, ixt, ne_ch, sl9, rvL, lsL, rpx, ad9]
  generalize e4 : F_law_of _ _ = r
  obtain ⟨y, m4, rfl, hy, k4, l4, n4⟩ := lof k3 e4 (by simp) (by simp)
  obtain ⟨g, rfl⟩ : ∃ g, y = L n g := by
    simp only [List.mem_cons, List.not_mem_nil, or_false] at hy
    rcases hy with rfl | rfl | rfl <;> exact ⟨_, rfl⟩
  have fm4 := k4.fm
  have fi2 := F_init (m := m4 ++ [some (.lst ((rws n f).set 0 (.str "q"))), none, none, some (.lst []), none]) (x := L n g) (n := n) (f := g) rows_lst h0 h6
  simp! [] at fi2
  have vLg : ∀ m (g : Mt), view m (L n g) = some (L n g) := fun _ _ => rfl
  have vtg : ∀ m (g : Mt), view m (tbl n g) = some (tbl n g) := fun _ _ => rfl
  have hpL : (L n f).plain = true := rfl
  have hp3 : (D.int 3).plain = true := rfl
  have eq3 : ∀ m, F_Table___eq [.dat (tbl n f), .dat (.int 3)] m = .ok (.bl false) m := fun m => F_eqP rfl rfl
  have eqL : ∀ m, F_Table___eq [.dat (tbl n f), .dat (L n f)] m = .ok (.bl false) m := fun m => F_eqP rfl rfl
  have okB : ∀ b, okN 9 (.bl b) = true := fun _ => rfl
  have ti := fun (m : Mir) (hm : Fm m) => F_times (n := n) (f := f) (g := f) hm h6
  simp! [fi2, vtg, vLg, fz1_tbl, isO_tbl, F_eq h0 h6, oEq_L n g f h6, lsame (okB _), plE_L, eq3, eqL, F_bool h0 h6, ti, oEq_L n _ f h6]
  have idn := fun (m : Mir) (hm : Fm m) => F_identity (n := n) hm h0 h6
  have lwo : D.low 0 (L n one) = true := low0_map (fun _ => rfl) _
  have okM : Ok ltab (m4 ++ [some (.lst ((rws n f).set 0 (.str "q"))), none, none, some (.lst []), none, none, none]) := by
    refine Flat.ok ?_ k4
    exact .some lwS (.none (.none (.some rfl (.none (.none (.none .nil))))))
  have nls_set : ∀ (ds : List D) (k : Nat) (d : D), D.nls ds = true → D.nl d = true → D.nls (ds.set k d) = true := by
    intro ds
    induction ds with
    | nil => intro k d h _; exact h
    | cons e ds ih =>
      intro k d h hd
      obtain ⟨h1, h2⟩ := Bool.and_eq_true_iff.mp (show (D.nl e && D.nls ds) = true from h)
      cases k with
      | zero =>
        show (D.nl d && D.nls ds) = true
        rw [hd, h2]; rfl
      | succ k =>
        show (D.nl e && D.nls (ds.set k d)) = true
        rw [h1, ih k d h2 hd]; rfl
  have nlM4 : nlM (m4 ++ [some (.lst ((rws n f).set 0 (.str "q"))), none, none, some (.lst []), none, none, none]) = true := by
    rw [nlM_app, n4, n3, n2, n1, hl]
    show (D.nls ((rws n f).set 0 (.str "q")) && (D.nls [] && true)) = true
    rw [nls_set (rws n f) 0 (.str "q") nl_L rfl]
    rfl
  simp! [idn, F_lident h0 h6, oNe_L n one one h6, eqS, vtg, vLg, mthK_tbl, F_rows, fz1_L]
  generalize e5 : F_law_table_refused _ _ = r
  obtain ⟨m5, e6, k5, l5, n5⟩ := F_refused (n := n) (f := f) okM nlM4 h0 h6
  obtain rfl := e5.symm.trans e6
  simp! []
  exact ⟨_, _, rfl, ⟨_, rfl, rfl⟩, k5, n5⟩
theorem run : ∀ ns : List Int, ns.length ≤ 63 → ∃ m, g_law (.un :: .dat (.ref 0) :: List.replicate 9 .un) (bag0T ns ltab) = .rt (.bl true) m := fun ns _ => by
  simp! [g_law]
  obtain ⟨δ, m, e, _⟩ := for_inv (tg := gN 2) (gs := b_law_1) Iv (rng 0 (Int.toNat 6)) [.un, .dat (.ref 0), .un, .un, .un, .un, .un, .un, .un, .un, .un] (bag0T ns ltab) (fun d _ δ m ⟨⟨l, hlen, e⟩, h, hl⟩ => by
    subst e
    match l, hlen with
    | [a2, a3, a4, a5, a6, a7, a8, a9, a10], _ =>
      obtain ⟨δ2, m', e, h'⟩ := turn (.dat d) a3 a4 a5 a6 a7 a8 a9 a10 h hl
      refine ⟨δ2, m', ?_, h'⟩
      simp! [e]) ⟨⟨_, rfl, rfl⟩, Ok.start ns, by
      show nlM (some (bagL ns 0 0 3846) :: [some (.tbl "_law_table_refused.<locals>.<lambda>")]) = true
      rw [nlM_bag]; rfl⟩
  rw [e]
  exact ⟨m, rfl⟩
end
end K17

namespace K17
open PySem PySem.Spec PyProof.Rows L2 DM
theorem all_mk {l : PySem.W.OpenLaw} {w : World} {K : PySem.W.Frag} {h : Heap} {mg : Str → Option Value} {fa : Addr} (X : K.In h) (G : h.Ns mainGlobals mg) (hfa : mg "law" = some (.ref fa))
    {cT0 pT0 : Addr}
    {u0 : Value} (e0 : PySem.W.nsIn K mainGlobals "GRADES" = some (some u0)) (er0 : readC K 9 u0 = some k_GRADES)
    {q1 : Addr} {es1 : Array DictEntry} {m1 : Nat} (e1 : PySem.W.nsIn K mainGlobals "GRADE_OF" = some (some (.ref q1))) (el1 : K.lookup q1 = some ⟨.type "dict", none, .dict es1 m1, #[]⟩) (ek1 : PySem.W.KeysLit w.params es1.toList) (er1 : ∀ p ∈ k_GRADE_OF, ∃ u, PySem.W.nsIn K q1 p.1 = some (some u) ∧ readC K 9 u = some p.2)
    {u2 : Value} (e2 : PySem.W.nsIn K mainGlobals "JOINED" = some (some u2)) (er2 : readC K 9 u2 = some k_JOINED)
    {u3 : Value} (e3 : PySem.W.nsIn K mainGlobals "NONE" = some (some u3)) (er3 : readC K 9 u3 = some k_NONE)
    {u4 : Value} (e4 : PySem.W.nsIn K mainGlobals "NOTHING" = some (some u4)) (er4 : readC K 9 u4 = some k_NOTHING)
    (b_abs : PySem.W.nsIn K mainGlobals "abs" = some none)
    (b_all : PySem.W.nsIn K mainGlobals "all" = some none)
    (b_bool : PySem.W.nsIn K mainGlobals "bool" = some none)
    (b_int : PySem.W.nsIn K mainGlobals "int" = some none)
    (b_isinstance : PySem.W.nsIn K mainGlobals "isinstance" = some none)
    (b_len : PySem.W.nsIn K mainGlobals "len" = some none)
    (b_list : PySem.W.nsIn K mainGlobals "list" = some none)
    (b_min : PySem.W.nsIn K mainGlobals "min" = some none)
    (b_range : PySem.W.nsIn K mainGlobals "range" = some none)
    (b_repr : PySem.W.nsIn K mainGlobals "repr" = some none)
    (b_str : PySem.W.nsIn K mainGlobals "str" = some none)
    (b_tuple : PySem.W.nsIn K mainGlobals "tuple" = some none)
    (b_zip : PySem.W.nsIn K mainGlobals "zip" = some none)
    {E0 : Addr} (aE0 : PySem.W.nsIn K mainGlobals "InvalidNumber" = some (some (.ref E0)))
    {E1 : Addr} (aE1 : PySem.W.nsIn K mainGlobals "InvalidTable" = some (some (.ref E1)))
    {E2 : Addr} (aE2 : PySem.W.nsIn K mainGlobals "DryError" = some (some (.ref E2)))
    {E3 : Addr} (aE3 : PySem.W.nsIn K mainGlobals "Missing" = some (some (.ref E3)))
    {E4 : Addr} (aE4 : PySem.W.nsIn K mainGlobals "NothingLeft" = some (some (.ref E4)))
    (b_super : PySem.W.nsIn K mainGlobals "super" = some none) (ttop : (l.prog.main.scope.names.lookup ("super" : Str)).isSome = false) (topq : PySem.W.nsIn K cStatics "thirdparty.any" = some none)
    {nm_0} {q_0} {N_0} {bs_0} {bm_0} {sn_0} {sub_0} {ab_0} {col_0} {dd_0} {k0_0} {k1_0} {k2_0} {k3_0} {k5_0}
    {fI_0 cc_0 cda_0 : Addr} {oc_0 doc_0 pm_0 ctv_0 c_0 c1_0 : Value} {od_0 d_0 d1_0 : Option Addr} {osl_0 sl_0 sl1_0 : Array (Option Value)} {vs_0 : Array Value} {file_0 : Str} {tf_0 : Tok}
    (elC_0 : K.lookup E0 = some (excClassObj nm_0 q_0 E0 N_0 bs_0 bm_0 true sn_0 sub_0 ab_0 col_0 dd_0 k0_0 k1_0 k2_0 k3_0 k5_0 "ValueError.__new__"))
    (erv_0 : PySem.HandSPX.refsVE bm_0 = true)
    (esa_0 : PySem.W.findIn K (.ref E0) "__setattr__" = some (some (.builtin "object.__setattr__")))
    (eex_0 : PySem.W.subIn K (.ref E0) (.type "BaseException") = some true)
    (ety_0 : PySem.W.typeIn K (.ref E0) = some (.type "type"))
    (ekC_0 : PySem.W.keepIn K (.ref E0) = true)
    (ehi_0 : PySem.W.findIn K (.ref E0) "__init__" = some (some (.ref fI_0)))
    (eht_0 : PySem.W.typeIn K (.ref fI_0) = some (.type "function"))
    (elf_0 : K.lookup fI_0 = some ⟨oc_0, od_0, .func ((Nf "__init__" "InvalidNumber.__init__" (defArgs (inClass (top 6) 0)) (defBody (inClass (top 6) 0)) (defScope (inClass (top 6) 0)) cc_0 cda_0).fd doc_0 pm_0 ctv_0), osl_0⟩)
    (elc_0 : K.lookup cda_0 = some ⟨c_0, d_0, .fields vs_0, sl_0⟩)
    (ev2_0 : vs_0[2]? = some (.str file_0 tf_0))
    (ehf_0 : ((l.prog.main.file : Str) == file_0) = true)
    (elcell_0 : K.lookup cc_0 = some ⟨c1_0, d1_0, .cell (some (.ref E0)), sl1_0⟩)
    (eown_0 : PySem.W.mroIn K E0 (.ref E0) = some true)
    (eup_0 : PySem.W.ks_superIn K E0 E0 "__init__" = some (some (.builtin "ValueError.__init__")))
    (eve_0 : PySem.W.subIn K (.ref E0) (.type "ValueError") = some true)
    (ehcd_0 : PySem.W.codeIn K (.ref cda_0) "InvalidNumber.__init__" = true)
    (efn0_0 : PySem.W.findIn K (.ref E0) "tag" = some none)
    (efn1_0 : PySem.W.findIn K (.ref E0) "given" = some none)
    (eem_0 : PySem.W.exmAny K (.ref E0) [.ref E2, .ref E3, .ref E4] = some true)
    (exb_0 : xfB K E0 = true)
    {nm_1} {q_1} {N_1} {bs_1} {bm_1} {sn_1} {sub_1} {ab_1} {col_1} {dd_1} {k0_1} {k1_1} {k2_1} {k3_1} {k5_1}
    {fI_1 cc_1 cda_1 : Addr} {oc_1 doc_1 pm_1 ctv_1 c_1 c1_1 : Value} {od_1 d_1 d1_1 : Option Addr} {osl_1 sl_1 sl1_1 : Array (Option Value)} {vs_1 : Array Value} {file_1 : Str} {tf_1 : Tok}
    (elC_1 : K.lookup E1 = some (excClassObj nm_1 q_1 E1 N_1 bs_1 bm_1 true sn_1 sub_1 ab_1 col_1 dd_1 k0_1 k1_1 k2_1 k3_1 k5_1 "ValueError.__new__"))
    (erv_1 : PySem.HandSPX.refsVE bm_1 = true)
    (esa_1 : PySem.W.findIn K (.ref E1) "__setattr__" = some (some (.builtin "object.__setattr__")))
    (eex_1 : PySem.W.subIn K (.ref E1) (.type "BaseException") = some true)
    (ety_1 : PySem.W.typeIn K (.ref E1) = some (.type "type"))
    (ekC_1 : PySem.W.keepIn K (.ref E1) = true)
    (ehi_1 : PySem.W.findIn K (.ref E1) "__init__" = some (some (.ref fI_1)))
    (eht_1 : PySem.W.typeIn K (.ref fI_1) = some (.type "function"))
    (elf_1 : K.lookup fI_1 = some ⟨oc_1, od_1, .func ((Nf "__init__" "InvalidTable.__init__" (defArgs (inClass (top 10) 0)) (defBody (inClass (top 10) 0)) (defScope (inClass (top 10) 0)) cc_1 cda_1).fd doc_1 pm_1 ctv_1), osl_1⟩)
    (elc_1 : K.lookup cda_1 = some ⟨c_1, d_1, .fields vs_1, sl_1⟩)
    (ev2_1 : vs_1[2]? = some (.str file_1 tf_1))
    (ehf_1 : ((l.prog.main.file : Str) == file_1) = true)
    (elcell_1 : K.lookup cc_1 = some ⟨c1_1, d1_1, .cell (some (.ref E1)), sl1_1⟩)
    (eown_1 : PySem.W.mroIn K E1 (.ref E1) = some true)
    (eup_1 : PySem.W.ks_superIn K E1 E1 "__init__" = some (some (.builtin "ValueError.__init__")))
    (eve_1 : PySem.W.subIn K (.ref E1) (.type "ValueError") = some true)
    (ehcd_1 : PySem.W.codeIn K (.ref cda_1) "InvalidTable.__init__" = true)
    (efn0_1 : PySem.W.findIn K (.ref E1) "tag" = some none)
    (efn1_1 : PySem.W.findIn K (.ref E1) "given" = some none)
    (eem_1 : PySem.W.exmAny K (.ref E1) [.ref E2, .ref E3, .ref E4] = some true)
    (exb_1 : xfB K E1 = true)
    {C0 : Addr} (aC0 : PySem.W.nsIn K mainGlobals "Table" = some (some (.ref C0)))
    (pg0 : PySem.W.plainGet K C0 Str.empty = true) (hd0 : PySem.W.hasDictIn K C0 = true) (po0 : PySem.W.plainOver K C0 = true) (sa0 : PySem.W.findIn K (.ref C0) "__setattr__" = some (some (.builtin "object.__setattr__")))
    (mt0 : PySem.W.mroIn K C0 (.type "object") = some true)
    (ca0 : PySem.W.findIn K (.ref C0) "__class__" = some (some (.builtin "object.__class__"))) (cn0 : PySem.W.specialIn K (.builtin "object.__class__") "__get__" = some (some (.builtin "getset_descriptor.__get__"))) (cx0 : PySem.W.takesIn K (.builtin "object.__class__") = some true)
    (ic0 : PySem.W.isClsIn K C0 = true) (yt0 : PySem.W.typeIn K (.ref C0) = some (.type "type"))
    (fl0_0 : PySem.W.findIn K (.ref C0) "grades" = some none)
    {K0 : Addr} {uc0 : Value} (ak0 : PySem.W.nsIn K mainGlobals "Map" = some (some (.ref K0))) (rk0 : PySem.W.readsIn K K0 (.type "type") = true) (gk0 : PySem.W.specialIn K (.ref K0) "__getattribute__" = some (some (.builtin "type.__getattribute__"))) (fk0 : PySem.W.findCls K (.ref K0) (.type "type") "PLACES" = some (.val uc0)) (vk0 : readC K 9 uc0 = some k_Map_PLACES)
    {f0 : Addr} {od0 an0 : Option Addr} {sl0 : Array (Option Value)} {oc0 kV0 dc0 pm0 cd0 ct0 : Value} (a0 : PySem.W.nsIn K mainGlobals "is_integer" = some (some (.ref f0))) (l0 : K.lookup f0 = some ⟨oc0, od0, .func (PySem.W.fnOf "is_integer" "is_integer" (defArgs (top 16)) (defBody (top 16)) (defScope (top 16)) .none kV0 dc0 pm0 an0 cd0 ct0), sl0⟩) (c0 : PySem.W.codeIn K cd0 "is_integer" = true) (k0 : PySem.W.keepIn K (.ref f0) = true)
    {f1 : Addr} {od1 an1 : Option Addr} {sl1 : Array (Option Value)} {oc1 kV1 dc1 pm1 cd1 ct1 : Value} (a1 : PySem.W.nsIn K mainGlobals "is_within" = some (some (.ref f1))) (l1 : K.lookup f1 = some ⟨oc1, od1, .func (PySem.W.fnOf "is_within" "is_within" (defArgs (top 17)) (defBody (top 17)) (defScope (top 17)) .none kV1 dc1 pm1 an1 cd1 ct1), sl1⟩) (c1 : PySem.W.codeIn K cd1 "is_within" = true) (k1 : PySem.W.keepIn K (.ref f1) = true)
    {f2 : Addr} {od2 an2 : Option Addr} {sl2 : Array (Option Value)} {oc2 kV2 dc2 pm2 cd2 ct2 : Value} (a2 : PySem.W.nsIn K mainGlobals "product_of" = some (some (.ref f2))) (l2 : K.lookup f2 = some ⟨oc2, od2, .func (PySem.W.fnOf "product_of" "product_of" (defArgs (top 28)) (defBody (top 28)) (defScope (top 28)) .none kV2 dc2 pm2 an2 cd2 ct2), sl2⟩) (c2 : PySem.W.codeIn K cd2 "product_of" = true) (k2 : PySem.W.keepIn K (.ref f2) = true)
    {f3 : Addr} {od3 an3 : Option Addr} {sl3 : Array (Option Value)} {oc3 kV3 dc3 pm3 cd3 ct3 : Value} (a3 : PySem.W.nsIn K mainGlobals "identity_rows" = some (some (.ref f3))) (l3 : K.lookup f3 = some ⟨oc3, od3, .func (PySem.W.fnOf "identity_rows" "identity_rows" (defArgs (top 30)) (defBody (top 30)) (defScope (top 30)) .none kV3 dc3 pm3 an3 cd3 ct3), sl3⟩) (c3 : PySem.W.codeIn K cd3 "identity_rows" = true) (k3 : PySem.W.keepIn K (.ref f3) = true)
    {f4 : Addr} {od4 an4 : Option Addr} {sl4 : Array (Option Value)} {oc4 kV4 dc4 pm4 cd4 ct4 : Value} (a4 : PySem.W.nsIn K mainGlobals "texts_of" = some (some (.ref f4))) (l4 : K.lookup f4 = some ⟨oc4, od4, .func (PySem.W.fnOf "texts_of" "texts_of" (defArgs (top 33)) (defBody (top 33)) (defScope (top 33)) .none kV4 dc4 pm4 an4 cd4 ct4), sl4⟩) (c4 : PySem.W.codeIn K cd4 "texts_of" = true) (k4 : PySem.W.keepIn K (.ref f4) = true)
    {f5 : Addr} {od5 an5 : Option Addr} {sl5 : Array (Option Value)} {oc5 kV5 dc5 pm5 cd5 ct5 : Value} (a5 : PySem.W.nsIn K mainGlobals "is_row" = some (some (.ref f5))) (l5 : K.lookup f5 = some ⟨oc5, od5, .func (PySem.W.fnOf "is_row" "is_row" (defArgs (top 34)) (defBody (top 34)) (defScope (top 34)) .none kV5 dc5 pm5 an5 cd5 ct5), sl5⟩) (c5 : PySem.W.codeIn K cd5 "is_row" = true) (k5 : PySem.W.keepIn K (.ref f5) = true)
    {f6 : Addr} {od6 an6 : Option Addr} {sl6 : Array (Option Value)} {oc6 kV6 dc6 pm6 cd6 ct6 : Value} (a6 : PySem.W.nsIn K mainGlobals "_law_pull" = some (some (.ref f6))) (l6 : K.lookup f6 = some ⟨oc6, od6, .func (PySem.W.fnOf "_law_pull" "_law_pull" (defArgs (top 37)) (defBody (top 37)) (defScope (top 37)) .none kV6 dc6 pm6 an6 cd6 ct6), sl6⟩) (c6 : PySem.W.codeIn K cd6 "_law_pull" = true) (k6 : PySem.W.keepIn K (.ref f6) = true)
    {f7 : Addr} {od7 an7 : Option Addr} {sl7 : Array (Option Value)} {oc7 kV7 dc7 pm7 cd7 ct7 : Value} (a7 : PySem.W.nsIn K mainGlobals "_law_of" = some (some (.ref f7))) (l7 : K.lookup f7 = some ⟨oc7, od7, .func (PySem.W.fnOf "_law_of" "_law_of" (defArgs (top 38)) (defBody (top 38)) (defScope (top 38)) .none kV7 dc7 pm7 an7 cd7 ct7), sl7⟩) (c7 : PySem.W.codeIn K cd7 "_law_of" = true) (k7 : PySem.W.keepIn K (.ref f7) = true)
    {f8 : Addr} {od8 an8 : Option Addr} {sl8 : Array (Option Value)} {oc8 kV8 dc8 pm8 cd8 ct8 : Value} (a8 : PySem.W.nsIn K mainGlobals "_law_same" = some (some (.ref f8))) (l8 : K.lookup f8 = some ⟨oc8, od8, .func (PySem.W.fnOf "_law_same" "_law_same" (defArgs (top 39)) (defBody (top 39)) (defScope (top 39)) .none kV8 dc8 pm8 an8 cd8 ct8), sl8⟩) (c8 : PySem.W.codeIn K cd8 "_law_same" = true) (k8 : PySem.W.keepIn K (.ref f8) = true)
    {f9 : Addr} {od9 an9 : Option Addr} {sl9 : Array (Option Value)} {oc9 kV9 dc9 pm9 cd9 ct9 : Value} (a9 : PySem.W.nsIn K mainGlobals "_law_bag" = some (some (.ref f9))) (l9 : K.lookup f9 = some ⟨oc9, od9, .func (PySem.W.fnOf "_law_bag" "_law_bag" (defArgs (top 40)) (defBody (top 40)) (defScope (top 40)) .none kV9 dc9 pm9 an9 cd9 ct9), sl9⟩) (c9 : PySem.W.codeIn K cd9 "_law_bag" = true) (k9 : PySem.W.keepIn K (.ref f9) = true)
    {f10 : Addr} {od10 an10 : Option Addr} {sl10 : Array (Option Value)} {oc10 kV10 dc10 pm10 cd10 ct10 : Value} (a10 : PySem.W.nsIn K mainGlobals "_law_field" = some (some (.ref f10))) (l10 : K.lookup f10 = some ⟨oc10, od10, .func (PySem.W.fnOf "_law_field" "_law_field" (defArgs (top 41)) (defBody (top 41)) (defScope (top 41)) .none kV10 dc10 pm10 an10 cd10 ct10), sl10⟩) (c10 : PySem.W.codeIn K cd10 "_law_field" = true) (k10 : PySem.W.keepIn K (.ref f10) = true)
    {f11 : Addr} {od11 an11 : Option Addr} {sl11 : Array (Option Value)} {oc11 kV11 dc11 pm11 cd11 ct11 : Value} (a11 : PySem.W.nsIn K mainGlobals "_law_place" = some (some (.ref f11))) (l11 : K.lookup f11 = some ⟨oc11, od11, .func (PySem.W.fnOf "_law_place" "_law_place" (defArgs (top 42)) (defBody (top 42)) (defScope (top 42)) .none kV11 dc11 pm11 an11 cd11 ct11), sl11⟩) (c11 : PySem.W.codeIn K cd11 "_law_place" = true) (k11 : PySem.W.keepIn K (.ref f11) = true)
    {f12 : Addr} {od12 an12 : Option Addr} {sl12 : Array (Option Value)} {oc12 kV12 dc12 pm12 cd12 ct12 : Value} (a12 : PySem.W.nsIn K mainGlobals "_law_why" = some (some (.ref f12))) (l12 : K.lookup f12 = some ⟨oc12, od12, .func (PySem.W.fnOf "_law_why" "_law_why" (defArgs (top 43)) (defBody (top 43)) (defScope (top 43)) .none kV12 dc12 pm12 an12 cd12 ct12), sl12⟩) (c12 : PySem.W.codeIn K cd12 "_law_why" = true) (k12 : PySem.W.keepIn K (.ref f12) = true)
    {f13 : Addr} {od13 an13 : Option Addr} {sl13 : Array (Option Value)} {oc13 kV13 dc13 pm13 cd13 ct13 : Value} (a13 : PySem.W.nsIn K mainGlobals "_law_joined" = some (some (.ref f13))) (l13 : K.lookup f13 = some ⟨oc13, od13, .func (PySem.W.fnOf "_law_joined" "_law_joined" (defArgs (top 44)) (defBody (top 44)) (defScope (top 44)) .none kV13 dc13 pm13 an13 cd13 ct13), sl13⟩) (c13 : PySem.W.codeIn K cd13 "_law_joined" = true) (k13 : PySem.W.keepIn K (.ref f13) = true)
    {f14 : Addr} {od14 an14 : Option Addr} {sl14 : Array (Option Value)} {oc14 kV14 dc14 pm14 cd14 ct14 : Value} (a14 : PySem.W.nsIn K mainGlobals "_law_best" = some (some (.ref f14))) (l14 : K.lookup f14 = some ⟨oc14, od14, .func (PySem.W.fnOf "_law_best" "_law_best" (defArgs (top 45)) (defBody (top 45)) (defScope (top 45)) .none kV14 dc14 pm14 an14 cd14 ct14), sl14⟩) (c14 : PySem.W.codeIn K cd14 "_law_best" = true) (k14 : PySem.W.keepIn K (.ref f14) = true)
    {f15 : Addr} {od15 an15 : Option Addr} {sl15 : Array (Option Value)} {oc15 kV15 dc15 pm15 cd15 ct15 : Value} (a15 : PySem.W.nsIn K mainGlobals "_law_times" = some (some (.ref f15))) (l15 : K.lookup f15 = some ⟨oc15, od15, .func (PySem.W.fnOf "_law_times" "_law_times" (defArgs (top 46)) (defBody (top 46)) (defScope (top 46)) .none kV15 dc15 pm15 an15 cd15 ct15), sl15⟩) (c15 : PySem.W.codeIn K cd15 "_law_times" = true) (k15 : PySem.W.keepIn K (.ref f15) = true)
    {f16 : Addr} {od16 an16 : Option Addr} {sl16 : Array (Option Value)} {oc16 kV16 dc16 pm16 cd16 ct16 : Value} (a16 : PySem.W.nsIn K mainGlobals "_law_identity" = some (some (.ref f16))) (l16 : K.lookup f16 = some ⟨oc16, od16, .func (PySem.W.fnOf "_law_identity" "_law_identity" (defArgs (top 47)) (defBody (top 47)) (defScope (top 47)) .none kV16 dc16 pm16 an16 cd16 ct16), sl16⟩) (c16 : PySem.W.codeIn K cd16 "_law_identity" = true) (k16 : PySem.W.keepIn K (.ref f16) = true)
    {f17 : Addr} {od17 an17 : Option Addr} {sl17 : Array (Option Value)} {oc17 kV17 dc17 pm17 cd17 ct17 : Value} (a17 : PySem.W.nsIn K mainGlobals "_law_drawn_rows" = some (some (.ref f17))) (l17 : K.lookup f17 = some ⟨oc17, od17, .func (PySem.W.fnOf "_law_drawn_rows" "_law_drawn_rows" (defArgs (top 48)) (defBody (top 48)) (defScope (top 48)) .none kV17 dc17 pm17 an17 cd17 ct17), sl17⟩) (c17 : PySem.W.codeIn K cd17 "_law_drawn_rows" = true) (k17 : PySem.W.keepIn K (.ref f17) = true)
    {f18 : Addr} {od18 an18 : Option Addr} {sl18 : Array (Option Value)} {oc18 kV18 dc18 pm18 ct18 : Value} (a18 : PySem.W.nsIn K mainGlobals "_law_table_refused" = some (some (.ref f18))) (l18 : K.lookup f18 = some ⟨oc18, od18, .func (PySem.W.fnOf "_law_table_refused" "_law_table_refused" (defArgs (top 49)) (defBody (top 49)) (defScope (top 49)) .none kV18 dc18 pm18 an18 (.ref cT0) ct18), sl18⟩) (c18 : PySem.W.codeIn K (.ref cT0) "_law_table_refused" = true) (k18 : PySem.W.keepIn K (.ref f18) = true)
    {f19 : Addr} {od19 an19 : Option Addr} {sl19 : Array (Option Value)} {oc19 kV19 dc19 pm19 cd19 ct19 : Value} (a19 : PySem.W.nsIn K mainGlobals "law" = some (some (.ref f19))) (l19 : K.lookup f19 = some ⟨oc19, od19, .func (PySem.W.fnOf "law" "law" (defArgs (top 50)) (defBody (top 50)) (defScope (top 50)) .none kV19 dc19 pm19 an19 cd19 ct19), sl19⟩) (c19 : PySem.W.codeIn K cd19 "law" = true) (k19 : PySem.W.keepIn K (.ref f19) = true)
    {f20 : Addr} {od20 an20 : Option Addr} {sl20 : Array (Option Value)} {oc20 kV20 dc20 pm20 cd20 ct20 : Value} (a20 : PySem.W.findIn K (.ref C0) "__init__" = some (some (.ref f20))) (l20 : K.lookup f20 = some ⟨oc20, od20, .func (PySem.W.fnOf "__init__" "Table.__init__" (defArgs (inClass (top 35) 0)) (defBody (inClass (top 35) 0)) (defScope (inClass (top 35) 0)) .none kV20 dc20 pm20 an20 cd20 ct20), sl20⟩) (c20 : PySem.W.codeIn K cd20 "Table.__init__" = true) (k20 : PySem.W.keepIn K (.ref f20) = true) (i20 : PySem.W.isFn K (.ref f20) = true)
    (mk20 : PySem.W.makesIn K C0 = true) (kc20 : PySem.W.keepIn K (.ref C0) = true)
    {ps21 : Addr} {rs21 : List Value} (rs_21 : PySem.W.readsIn K C0 (.type "type") = true) (gs_21 : PySem.W.specialIn K (.ref C0) "__getattribute__" = some (some (.builtin "type.__getattribute__"))) (cs_21 : PySem.W.findCls K (.ref C0) (.type "type") "identity" = some (.get (.builtin "staticmethod.__get__") (.ref ps21) .none (.ref C0)))
    {f21 : Addr} {od21 an21 : Option Addr} {sl21 : Array (Option Value)} {oc21 kV21 dc21 pm21 cd21 ct21 : Value} (a21 : PySem.W.recIn K ps21 "staticmethod" = some (.ref f21 :: rs21)) (l21 : K.lookup f21 = some ⟨oc21, od21, .func (PySem.W.fnOf "identity" "Table.identity" (defArgs (inClass (top 35) 1)) (defBody (inClass (top 35) 1)) (defScope (inClass (top 35) 1)) .none kV21 dc21 pm21 an21 cd21 ct21), sl21⟩) (c21 : PySem.W.codeIn K cd21 "Table.identity" = true) (k21 : PySem.W.keepIn K (.ref f21) = true) (i21 : PySem.W.isFn K (.ref f21) = true)
    {p22 : Addr} {rp22 : List Value} (fp_22 : PySem.W.findIn K (.ref C0) "places" = some (some (.ref p22))) (gp_22 : PySem.W.specialIn K (.ref p22) "__get__" = some (some (.builtin "property.__get__"))) (tp_22 : PySem.W.takesIn K (.ref p22) = some true)
    {f22 : Addr} {od22 an22 : Option Addr} {sl22 : Array (Option Value)} {oc22 kV22 dc22 pm22 cd22 ct22 : Value} (a22 : PySem.W.recIn K p22 "property" = some (.ref f22 :: rp22)) (l22 : K.lookup f22 = some ⟨oc22, od22, .func (PySem.W.fnOf "places" "Table.places" (defArgs (inClass (top 35) 3)) (defBody (inClass (top 35) 3)) (defScope (inClass (top 35) 3)) .none kV22 dc22 pm22 an22 cd22 ct22), sl22⟩) (c22 : PySem.W.codeIn K cd22 "Table.places" = true) (k22 : PySem.W.keepIn K (.ref f22) = true) (i22 : PySem.W.isFn K (.ref f22) = true)
    {f23 : Addr} {od23 an23 : Option Addr} {sl23 : Array (Option Value)} {oc23 kV23 dc23 pm23 cd23 ct23 : Value} (a23 : PySem.W.findIn K (.ref C0) "rows" = some (some (.ref f23))) (l23 : K.lookup f23 = some ⟨oc23, od23, .func (PySem.W.fnOf "rows" "Table.rows" (defArgs (inClass (top 35) 4)) (defBody (inClass (top 35) 4)) (defScope (inClass (top 35) 4)) .none kV23 dc23 pm23 an23 cd23 ct23), sl23⟩) (c23 : PySem.W.codeIn K cd23 "Table.rows" = true) (k23 : PySem.W.keepIn K (.ref f23) = true) (i23 : PySem.W.isFn K (.ref f23) = true)
    {f24 : Addr} {od24 an24 : Option Addr} {sl24 : Array (Option Value)} {oc24 kV24 dc24 pm24 cd24 ct24 : Value} (a24 : PySem.W.findIn K (.ref C0) "value" = some (some (.ref f24))) (l24 : K.lookup f24 = some ⟨oc24, od24, .func (PySem.W.fnOf "value" "Table.value" (defArgs (inClass (top 35) 5)) (defBody (inClass (top 35) 5)) (defScope (inClass (top 35) 5)) .none kV24 dc24 pm24 an24 cd24 ct24), sl24⟩) (c24 : PySem.W.codeIn K cd24 "Table.value" = true) (k24 : PySem.W.keepIn K (.ref f24) = true) (i24 : PySem.W.isFn K (.ref f24) = true)
    {f25 : Addr} {od25 an25 : Option Addr} {sl25 : Array (Option Value)} {oc25 kV25 dc25 pm25 cd25 ct25 : Value} (a25 : PySem.W.findIn K (.ref C0) "__eq__" = some (some (.ref f25))) (l25 : K.lookup f25 = some ⟨oc25, od25, .func (PySem.W.fnOf "__eq__" "Table.__eq__" (defArgs (inClass (top 35) 10)) (defBody (inClass (top 35) 10)) (defScope (inClass (top 35) 10)) .none kV25 dc25 pm25 an25 cd25 ct25), sl25⟩) (c25 : PySem.W.codeIn K cd25 "Table.__eq__" = true) (k25 : PySem.W.keepIn K (.ref f25) = true) (i25 : PySem.W.isFn K (.ref f25) = true)
    {f26 : Addr} {od26 an26 : Option Addr} {sl26 : Array (Option Value)} {oc26 kV26 dc26 pm26 cd26 ct26 : Value} (a26 : PySem.W.findIn K (.ref C0) "__bool__" = some (some (.ref f26))) (l26 : K.lookup f26 = some ⟨oc26, od26, .func (PySem.W.fnOf "__bool__" "Table.__bool__" (defArgs (inClass (top 35) 11)) (defBody (inClass (top 35) 11)) (defScope (inClass (top 35) 11)) .none kV26 dc26 pm26 an26 cd26 ct26), sl26⟩) (c26 : PySem.W.codeIn K cd26 "Table.__bool__" = true) (k26 : PySem.W.keepIn K (.ref f26) = true) (i26 : PySem.W.isFn K (.ref f26) = true)
    {f27 : Addr} {od27 an27 : Option Addr} {sl27 : Array (Option Value)} {oc27 kV27 dc27 pm27 cd27 ct27 : Value} (a27 : PySem.W.findIn K (.ref C0) "__repr__" = some (some (.ref f27))) (l27 : K.lookup f27 = some ⟨oc27, od27, .func (PySem.W.fnOf "__repr__" "Table.__repr__" (defArgs (inClass (top 35) 12)) (defBody (inClass (top 35) 12)) (defScope (inClass (top 35) 12)) .none kV27 dc27 pm27 an27 cd27 ct27), sl27⟩) (c27 : PySem.W.codeIn K cd27 "Table.__repr__" = true) (k27 : PySem.W.keepIn K (.ref f27) = true) (i27 : PySem.W.isFn K (.ref f27) = true)
    {tc_0 : Value} {td_0 : Option Addr} {ts_0 : Array (Option Value)} {tv_0 : Array Value} (tl_0 : K.lookup cT0 = some ⟨tc_0, td_0, .fields tv_0, ts_0⟩) (t11_0 : tv_0[11]? = some (.ref pT0)) (th_0 : PySem.W.codeHdIn K cT0 pT0 = true) (tn_0 : K.lookup pT0 = none) (te_0 : h.get? pT0 = some { cls := .none, data := .fields #[] })
    (hnd0 : ([pT0] : List Addr).Nodup)
    (run : ∀ ns : List Int, ns.length ≤ 63 → ∃ m, g_law (.un :: .dat (.ref 0) :: List.replicate 9 .un) (bag0T ns ["_law_table_refused.<locals>.<lambda>"]) = .rt (.bl true) m) :
    LamX.LawAtS l w K (L2N.CX l.prog w) 13 63 "_law_script" mg fa h := by
  have e := hfa.symm.trans (PySem.W.mg_of X G a19)
  cases e
  have T : Txt l.prog K w mg (fun c => bif c == "Table" then C0 else bif c == "InvalidNumber" then E0 else bif c == "InvalidTable" then E1 else bif c == "DryError" then E2 else bif c == "Missing" then E3 else bif c == "NothingLeft" then E4 else cT0) := ⟨gc_of 9 (PySem.W.mg_of X G e0) er0,
    tc_of (PySem.W.mg_of X G e1) el1 ek1 (lookup_cases er1),
    gc_of 9 (PySem.W.mg_of X G e2) er2,
    gc_of 9 (PySem.W.mg_of X G e3) er3,
    gc_of 9 (PySem.W.mg_of X G e4) er4,
    PySem.W.mg_none_of X G b_abs,
    PySem.W.mg_none_of X G b_all,
    PySem.W.mg_none_of X G b_bool,
    PySem.W.mg_none_of X G b_int,
    PySem.W.mg_none_of X G b_isinstance,
    PySem.W.mg_none_of X G b_len,
    PySem.W.mg_none_of X G b_list,
    PySem.W.mg_none_of X G b_min,
    PySem.W.mg_none_of X G b_range,
    PySem.W.mg_none_of X G b_repr,
    PySem.W.mg_none_of X G b_str,
    PySem.W.mg_none_of X G b_tuple,
    PySem.W.mg_none_of X G b_zip,
    ⟨f0, _, PySem.W.mg_of X G a0, fun_mk (st := top 16) l0 c0 k0, (fun_mk (st := top 16) l0 c0 k0).binds (ps := ["value"]) fun _ _ _ _ _ _ us hl => match us, hl with | [_], _ => rfl⟩,
    ⟨f1, _, PySem.W.mg_of X G a1, fun_mk (st := top 17) l1 c1 k1, (fun_mk (st := top 17) l1 c1 k1).binds (ps := ["value", "low", "high"]) fun _ _ _ _ _ _ us hl => match us, hl with | [_, _, _], _ => rfl⟩,
    ⟨f2, _, PySem.W.mg_of X G a2, fun_mk (st := top 28) l2 c2 k2, (fun_mk (st := top 28) l2 c2 k2).binds (ps := ["one", "other"]) fun _ _ _ _ _ _ us hl => match us, hl with | [_, _], _ => rfl⟩,
    ⟨f3, _, PySem.W.mg_of X G a3, fun_mk (st := top 30) l3 c3 k3, (fun_mk (st := top 30) l3 c3 k3).binds (ps := ["places"]) fun _ _ _ _ _ _ us hl => match us, hl with | [_], _ => rfl⟩,
    ⟨f4, _, PySem.W.mg_of X G a4, fun_mk (st := top 33) l4 c4 k4, (fun_mk (st := top 33) l4 c4 k4).binds (ps := ["rows"]) fun _ _ _ _ _ _ us hl => match us, hl with | [_], _ => rfl⟩,
    ⟨f5, _, PySem.W.mg_of X G a5, fun_mk (st := top 34) l5 c5 k5, (fun_mk (st := top 34) l5 c5 k5).binds (ps := ["value", "places"]) fun _ _ _ _ _ _ us hl => match us, hl with | [_, _], _ => rfl⟩,
    ⟨f6, _, PySem.W.mg_of X G a6, fun_mk (st := top 37) l6 c6 k6, (fun_mk (st := top 37) l6 c6 k6).binds (ps := ["_law_bag_here", "_law_sides"]) fun _ _ _ _ _ _ us hl => match us, hl with | [_, _], _ => rfl⟩,
    ⟨f7, _, PySem.W.mg_of X G a7, fun_mk (st := top 38) l7 c7 k7, (fun_mk (st := top 38) l7 c7 k7).binds (ps := ["_law_bag_here", "_law_some"]) fun _ _ _ _ _ _ us hl => match us, hl with | [_, _], _ => rfl⟩,
    ⟨f8, _, PySem.W.mg_of X G a8, fun_mk (st := top 39) l8 c8 k8, (fun_mk (st := top 39) l8 c8 k8).binds (ps := ["_law_found", "_law_due"]) fun _ _ _ _ _ _ us hl => match us, hl with | [_, _], _ => rfl⟩,
    ⟨f9, _, PySem.W.mg_of X G a9, fun_mk (st := top 40) l9 c9 k9, (fun_mk (st := top 40) l9 c9 k9).binds (ps := ["_law_script"]) fun _ _ _ _ _ _ us hl => match us, hl with | [_], _ => rfl⟩,
    ⟨f10, _, PySem.W.mg_of X G a10, fun_mk (st := top 41) l10 c10 k10, (fun_mk (st := top 41) l10 c10 k10).binds (ps := ["_law_one"]) fun _ _ _ _ _ _ us hl => match us, hl with | [_], _ => rfl⟩,
    ⟨f11, _, PySem.W.mg_of X G a11, fun_mk (st := top 42) l11 c11 k11, (fun_mk (st := top 42) l11 c11 k11).binds (ps := ["_law_one"]) fun _ _ _ _ _ _ us hl => match us, hl with | [_], _ => rfl⟩,
    ⟨f12, _, PySem.W.mg_of X G a12, fun_mk (st := top 43) l12 c12 k12, (fun_mk (st := top 43) l12 c12 k12).binds (ps := ["_law_ask"]) fun _ _ _ _ _ _ us hl => match us, hl with | [_], _ => rfl⟩,
    ⟨f13, _, PySem.W.mg_of X G a13, fun_mk (st := top 44) l13 c13 k13, (fun_mk (st := top 44) l13 c13 k13).binds (ps := ["_law_one", "_law_other"]) fun _ _ _ _ _ _ us hl => match us, hl with | [_, _], _ => rfl⟩,
    ⟨f14, _, PySem.W.mg_of X G a14, fun_mk (st := top 45) l14 c14 k14, (fun_mk (st := top 45) l14 c14 k14).binds (ps := ["_law_some"]) fun _ _ _ _ _ _ us hl => match us, hl with | [_], _ => rfl⟩,
    ⟨f15, _, PySem.W.mg_of X G a15, fun_mk (st := top 46) l15 c15 k15, (fun_mk (st := top 46) l15 c15 k15).binds (ps := ["_law_one", "_law_other"]) fun _ _ _ _ _ _ us hl => match us, hl with | [_, _], _ => rfl⟩,
    ⟨f16, _, PySem.W.mg_of X G a16, fun_mk (st := top 47) l16 c16 k16, (fun_mk (st := top 47) l16 c16 k16).binds (ps := ["_law_many"]) fun _ _ _ _ _ _ us hl => match us, hl with | [_], _ => rfl⟩,
    ⟨f17, _, PySem.W.mg_of X G a17, fun_mk (st := top 48) l17 c17 k17, (fun_mk (st := top 48) l17 c17 k17).binds (ps := ["_law_bag_here", "_law_many"]) fun _ _ _ _ _ _ us hl => match us, hl with | [_, _], _ => rfl⟩,
    ⟨f18, _, _, _, _, _, _, _, _, PySem.W.mg_of X G a18, l18, c18, k18, (fun_mk (st := top 49) l18 c18 k18).binds (ps := ["_law_bag_here", "_law_table", "_law_rows_here"]) fun _ _ _ _ _ _ us hl => match us, hl with | [_, _, _], _ => rfl⟩,
    ⟨f20, _, PySem.W.mg_of X G aC0, ⟨mk20, a20, i20, kc20⟩, fun_mk (st := (inClass (top 35) 0)) l20 c20 k20, (fun_mk (st := (inClass (top 35) 0)) l20 c20 k20).binds (ps := ["self", "rows"]) fun _ _ _ _ _ _ us hl => match us, hl with | [_, _], _ => rfl⟩,
    ⟨f21, _, PySem.W.mg_of X G aC0, ⟨⟨_, ps21, rs21, ⟨rs_21, gs_21⟩, cs_21, a21⟩, k21⟩, fun_mk (st := (inClass (top 35) 1)) l21 c21 k21, (fun_mk (st := (inClass (top 35) 1)) l21 c21 k21).binds (ps := ["places"]) fun _ _ _ _ _ _ us hl => match us, hl with | [_], _ => rfl⟩,
    ⟨p22, f22, _, ⟨fp_22, gp_22, tp_22, rp22, a22⟩, fun_mk (st := (inClass (top 35) 3)) l22 c22 k22, (fun_mk (st := (inClass (top 35) 3)) l22 c22 k22).binds (ps := ["self"]) fun _ _ _ _ _ _ us hl => match us, hl with | [_], _ => rfl⟩,
    ⟨f23, _, ⟨a23, i23, k23⟩, fun_mk (st := (inClass (top 35) 4)) l23 c23 k23, (fun_mk (st := (inClass (top 35) 4)) l23 c23 k23).binds (ps := ["self"]) fun _ _ _ _ _ _ us hl => match us, hl with | [_], _ => rfl⟩,
    ⟨f24, _, ⟨a24, i24, k24⟩, fun_mk (st := (inClass (top 35) 5)) l24 c24 k24, (fun_mk (st := (inClass (top 35) 5)) l24 c24 k24).binds (ps := ["self", "origin", "goal"]) fun _ _ _ _ _ _ us hl => match us, hl with | [_, _, _], _ => rfl⟩,
    ⟨f25, _, ⟨a25, i25, k25⟩, fun_mk (st := (inClass (top 35) 10)) l25 c25 k25, (fun_mk (st := (inClass (top 35) 10)) l25 c25 k25).binds (ps := ["self", "other"]) fun _ _ _ _ _ _ us hl => match us, hl with | [_, _], _ => rfl⟩,
    ⟨f26, _, ⟨a26, i26, k26⟩, fun_mk (st := (inClass (top 35) 11)) l26 c26 k26, (fun_mk (st := (inClass (top 35) 11)) l26 c26 k26).binds (ps := ["self"]) fun _ _ _ _ _ _ us hl => match us, hl with | [_], _ => rfl⟩,
    ⟨f27, _, ⟨a27, i27, k27⟩, fun_mk (st := (inClass (top 35) 12)) l27 c27 k27, (fun_mk (st := (inClass (top 35) 12)) l27 c27 k27).binds (ps := ["self"]) fun _ _ _ _ _ _ us hl => match us, hl with | [_], _ => rfl⟩,
    PySem.W.mg_of X G aE2,
    PySem.W.mg_of X G aE3,
    PySem.W.mg_of X G aE4,
    erT_of (PySem.W.mg_of X G aE0) elC_0 erv_0 esa_0 eex_0 ety_0 ekC_0 ehi_0 eht_0 elf_0 rfl elc_0 ev2_0 ehf_0 elcell_0 eown_0 (PySem.W.mg_none_of X G b_super) ttop topq eup_0 eve_0 ehcd_0 (fun us hl => match us, hl with | [_, _], _ => rfl) efn0_0,
    efn1_0,
    erT_of (PySem.W.mg_of X G aE1) elC_1 erv_1 esa_1 eex_1 ety_1 ekC_1 ehi_1 eht_1 elf_1 rfl elc_1 ev2_1 ehf_1 elcell_1 eown_1 (PySem.W.mg_none_of X G b_super) ttop topq eup_1 eve_1 ehcd_1 (fun us hl => match us, hl with | [_], _ => rfl) efn0_1,
    ErF.of ⟨eem_0, xfB_ok exb_0, ⟨efn0_0, efn1_0, True.intro⟩, ⟨eem_1, xfB_ok exb_1, ⟨efn0_1, efn1_1, True.intro⟩, True.intro⟩⟩ rfl,
    ⟨pg0, hd0, po0, sa0⟩,
    PySem.W.mg_of X G aC0,
    isClsC ⟨pg0, hd0, po0, sa0⟩ ca0 cn0 cx0 mt0 ic0 yt0,
    FldOk.cons ⟨pg0, hd0, po0, sa0⟩ fl0_0 (FldOk.nil),
    cv_of 9 (PySem.W.mg_of X G ak0) rk0 gk0 fk0 vk0⟩
  refine ⟨_, [(cT0, pT0)], spLawT K [(pT0, "_law_table_refused.<locals>.<lambda>")], ?_, ?_, ?_, fun s v => .of_eq rfl, fun H a ns hl _ hT hS => ⟨a, ns, rfl, hS, hl, ?_, fun _ => rfl⟩, fun base _ _ TB => ok_law l19 c19 (TB (cT0, pT0) (by simp)) hnd0 T run⟩
  · intro p hp
    rcases List.mem_cons.mp hp with rfl | hp
    · exact te_0
    cases hp
  · intro p hp
    rcases List.mem_cons.mp hp with rfl | hp
    · exact tn_0
    cases hp
  · intro p hp
    rcases List.mem_cons.mp hp with rfl | hp
    · exact PySem.W.codeHd_of_K X th_0
    cases hp
  · intro p hp
    have hp2 : p.1 ∈ [(cT0, pT0)].map (·.2) := by simp at hp ⊢; rcases hp with rfl <;> simp
    obtain ⟨z, hz, e⟩ := List.mem_map.mp hp2
    rw [← e]; exact hT z hz
theorem walk {l : PySem.W.OpenLaw} {q : Program} {loose : List Str} {XP : (Str → Option Value) → Heap → Prop} {YP : World → Heap → Prop} {d : DefRec} {K : Params → PySem.W.Frag} (hn : l.most = some 63) (hdf : d.params.defaults = [])
    (hY : ∀ (w : World) (h : Heap), YP w h → (K w.params).In h)
    (F : ∀ (w : World) (mg : Str → Option Value) (fa : Addr) (h : Heap), YP w h → (K w.params).In h → h.Ns mainGlobals mg → mg d.name = some (.ref fa) → LamX.LawAtS l w (K w.params) (L2N.CX l.prog w) 13 63 "_law_script" mg fa h) :
    PySem.W.WalkO q loose XP YP l.row.toRowW d [] (fun f vs => PySem.call f vs) :=
  LamX.walk_ofTs (n := 63) (k := 13) (CX := fun w => L2N.CX l.prog w) hn (by decide) hdf ⟨rfl, by decide, by decide⟩ hY F fun _ _ _ _ _ z => by
    obtain ⟨_, _, _, _, _, _, _, _, _, _, _, _, z⟩ := z
    exact z
end K17
local macro_rules | `(tactic| walk_at "keys_lit") => `(tactic| (repeat (refine ⟨⟨_, _, rfl, rfl⟩, ?_⟩)); exact trivial)
open PySem PySem.W PyProof.Rows
set_option maxRecDepth 100000 in
set_option maxHeartbeats 0 in
theorem PySem.Challenge.cw_neverdry_k17_tables_told_holds : PySem.Challenge.rw_neverdry_k17_tables_told.Holds := by
  w_on; o_law; k_head; (case hw => w_witness2)
  k_fill
  refine K17.walk (l := PySem.Challenge.rw_neverdry_k17_tables_told) rfl rfl (fun w h Y => PySem.W.km_in_of Y) ?F
  case F =>
    intro w mg fa h Y KX G hmg
    refine' K17.all_mk KX G hmg ?e0 ?er0 ?e1 ?el1 ?ek1 ?er1 ?e2 ?er2 ?e3 ?er3 ?e4 ?er4 ?b_abs ?b_all ?b_bool ?b_int ?b_isinstance ?b_len ?b_list ?b_min ?b_range ?b_repr ?b_str ?b_tuple ?b_zip ?aE0 ?aE1 ?aE2 ?aE3 ?aE4 ?b_super ?ttop ?topq ?elC_0 ?erv_0 ?esa_0 ?eex_0 ?ety_0 ?ekC_0 ?ehi_0 ?eht_0 ?elf_0 ?elc_0 ?ev2_0 ?ehf_0 ?elcell_0 ?eown_0 ?eup_0 ?eve_0 ?ehcd_0 ?efn0_0 ?efn1_0 ?eem_0 ?exb_0 ?elC_1 ?erv_1 ?esa_1 ?eex_1 ?ety_1 ?ekC_1 ?ehi_1 ?eht_1 ?elf_1 ?elc_1 ?ev2_1 ?ehf_1 ?elcell_1 ?eown_1 ?eup_1 ?eve_1 ?ehcd_1 ?efn0_1 ?efn1_1 ?eem_1 ?exb_1 ?aC0 ?pg0 ?hd0 ?po0 ?sa0 ?mt0 ?ca0 ?cn0 ?cx0 ?ic0 ?yt0 ?fl0_0 ?ak0 ?rk0 ?gk0 ?fk0 ?vk0 ?a0 ?l0 ?c0 ?k0 ?a1 ?l1 ?c1 ?k1 ?a2 ?l2 ?c2 ?k2 ?a3 ?l3 ?c3 ?k3 ?a4 ?l4 ?c4 ?k4 ?a5 ?l5 ?c5 ?k5 ?a6 ?l6 ?c6 ?k6 ?a7 ?l7 ?c7 ?k7 ?a8 ?l8 ?c8 ?k8 ?a9 ?l9 ?c9 ?k9 ?a10 ?l10 ?c10 ?k10 ?a11 ?l11 ?c11 ?k11 ?a12 ?l12 ?c12 ?k12 ?a13 ?l13 ?c13 ?k13 ?a14 ?l14 ?c14 ?k14 ?a15 ?l15 ?c15 ?k15 ?a16 ?l16 ?c16 ?k16 ?a17 ?l17 ?c17 ?k17 ?a18 ?l18 ?c18 ?k18 ?a19 ?l19 ?c19 ?k19 ?a20 ?l20 ?c20 ?k20 ?i20 ?mk20 ?kc20 ?rs_21 ?gs_21 ?cs_21 ?a21 ?l21 ?c21 ?k21 ?i21 ?fp_22 ?gp_22 ?tp_22 ?a22 ?l22 ?c22 ?k22 ?i22 ?a23 ?l23 ?c23 ?k23 ?i23 ?a24 ?l24 ?c24 ?k24 ?i24 ?a25 ?l25 ?c25 ?k25 ?i25 ?a26 ?l26 ?c26 ?k26 ?i26 ?a27 ?l27 ?c27 ?k27 ?i27 ?tl_0 ?t11_0 ?th_0 ?tn_0 ?te_0 ?hnd K17.run
    (case e0 => k_is); (case er0 => kernel_rfl)
    (case e1 => k_is); (case el1 => k_is); (case ek1 => exact by repeat (first | exact trivial | refine ⟨⟨_, _, rfl, rfl⟩, ?_⟩)); (case er1 => (intro p hp; simp only [K17.k_GRADE_OF, List.mem_cons, List.not_mem_nil, or_false] at hp; rcases hp with rfl | rfl | rfl | rfl | rfl | rfl | rfl) <;> (exact ⟨_, by k_is, by kernel_rfl⟩))
    (case e2 => k_is); (case er2 => kernel_rfl)
    (case e3 => k_is); (case er3 => kernel_rfl)
    (case e4 => k_is); (case er4 => kernel_rfl)
    (case b_abs => k_is)
    (case b_all => k_is)
    (case b_bool => k_is)
    (case b_int => k_is)
    (case b_isinstance => k_is)
    (case b_len => k_is)
    (case b_list => k_is)
    (case b_min => k_is)
    (case b_range => k_is)
    (case b_repr => k_is)
    (case b_str => k_is)
    (case b_tuple => k_is)
    (case b_zip => k_is)
    (case aE0 => k_is)
    (case aE1 => k_is)
    (case aE2 => k_is)
    (case aE3 => k_is)
    (case aE4 => k_is)
    (case b_super => k_is); (case ttop => first | rfl | kernel_rfl); (case topq => first | k_is | kernel_rfl)
    (case elC_0 => k_is)
    (case erv_0 => kernel_rfl)
    (case esa_0 => k_is)
    (case eex_0 => kernel_rfl)
    (case ety_0 => k_is)
    (case ekC_0 => k_is)
    (case ehi_0 => k_is)
    (case eht_0 => k_is)
    (case elf_0 => k_is)
    (case elc_0 => k_is)
    (case ev2_0 => exact rfl)
    (case ehf_0 => first | rfl | kernel_rfl)
    (case elcell_0 => k_is)
    (case eown_0 => first | k_is | kernel_rfl)
    (case eup_0 => kernel_rfl)
    (case eve_0 => kernel_rfl)
    (case ehcd_0 => first | k_is | kernel_rfl)
    (case efn0_0 => k_is)
    (case efn1_0 => k_is)
    (case eem_0 => kernel_rfl)
    (case exb_0 => kernel_rfl)
    (case elC_1 => k_is)
    (case erv_1 => kernel_rfl)
    (case esa_1 => k_is)
    (case eex_1 => kernel_rfl)
    (case ety_1 => k_is)
    (case ekC_1 => k_is)
    (case ehi_1 => k_is)
    (case eht_1 => k_is)
    (case elf_1 => k_is)
    (case elc_1 => k_is)
    (case ev2_1 => exact rfl)
    (case ehf_1 => first | rfl | kernel_rfl)
    (case elcell_1 => k_is)
    (case eown_1 => first | k_is | kernel_rfl)
    (case eup_1 => kernel_rfl)
    (case eve_1 => kernel_rfl)
    (case ehcd_1 => first | k_is | kernel_rfl)
    (case efn0_1 => k_is)
    (case efn1_1 => k_is)
    (case eem_1 => kernel_rfl)
    (case exb_1 => kernel_rfl)
    (case aC0 => k_is)
    (case pg0 => k_is); (case hd0 => k_is); (case po0 => k_is); (case sa0 => k_is)
    (case mt0 => k_is)
    (case ca0 => k_is); (case cn0 => k_is); (case cx0 => k_is)
    (case ic0 => k_is); (case yt0 => k_is)
    (case fl0_0 => k_is)
    (case ak0 => k_is); (case rk0 => k_is); (case gk0 => k_is); (case fk0 => k_is); (case vk0 => kernel_rfl)
    (case a0 => k_is); (case l0 => k_is); (case c0 => k_is); (case k0 => k_is)
    (case a1 => k_is); (case l1 => k_is); (case c1 => k_is); (case k1 => k_is)
    (case a2 => k_is); (case l2 => k_is); (case c2 => k_is); (case k2 => k_is)
    (case a3 => k_is); (case l3 => k_is); (case c3 => k_is); (case k3 => k_is)
    (case a4 => k_is); (case l4 => k_is); (case c4 => k_is); (case k4 => k_is)
    (case a5 => k_is); (case l5 => k_is); (case c5 => k_is); (case k5 => k_is)
    (case a6 => k_is); (case l6 => k_is); (case c6 => k_is); (case k6 => k_is)
    (case a7 => k_is); (case l7 => k_is); (case c7 => k_is); (case k7 => k_is)
    (case a8 => k_is); (case l8 => k_is); (case c8 => k_is); (case k8 => k_is)
    (case a9 => k_is); (case l9 => k_is); (case c9 => k_is); (case k9 => k_is)
    (case a10 => k_is); (case l10 => k_is); (case c10 => k_is); (case k10 => k_is)
    (case a11 => k_is); (case l11 => k_is); (case c11 => k_is); (case k11 => k_is)
    (case a12 => k_is); (case l12 => k_is); (case c12 => k_is); (case k12 => k_is)
    (case a13 => k_is); (case l13 => k_is); (case c13 => k_is); (case k13 => k_is)
    (case a14 => k_is); (case l14 => k_is); (case c14 => k_is); (case k14 => k_is)
    (case a15 => k_is); (case l15 => k_is); (case c15 => k_is); (case k15 => k_is)
    (case a16 => k_is); (case l16 => k_is); (case c16 => k_is); (case k16 => k_is)
    (case a17 => k_is); (case l17 => k_is); (case c17 => k_is); (case k17 => k_is)
    (case a18 => k_is); (case l18 => k_is); (case c18 => k_is); (case k18 => k_is)
    (case a19 => k_is); (case l19 => k_is); (case c19 => k_is); (case k19 => k_is)
    (case a20 => k_is); (case l20 => k_is); (case c20 => k_is); (case k20 => k_is); (case i20 => k_is)
    (case mk20 => k_is); (case kc20 => k_is)
    (case rs_21 => k_is); (case gs_21 => k_is); (case cs_21 => k_is)
    (case a21 => k_is); (case l21 => k_is); (case c21 => k_is); (case k21 => k_is); (case i21 => k_is)
    (case fp_22 => k_is); (case gp_22 => k_is); (case tp_22 => k_is)
    (case a22 => k_is); (case l22 => k_is); (case c22 => k_is); (case k22 => k_is); (case i22 => k_is)
    (case a23 => k_is); (case l23 => k_is); (case c23 => k_is); (case k23 => k_is); (case i23 => k_is)
    (case a24 => k_is); (case l24 => k_is); (case c24 => k_is); (case k24 => k_is); (case i24 => k_is)
    (case a25 => k_is); (case l25 => k_is); (case c25 => k_is); (case k25 => k_is); (case i25 => k_is)
    (case a26 => k_is); (case l26 => k_is); (case c26 => k_is); (case k26 => k_is); (case i26 => k_is)
    (case a27 => k_is); (case l27 => k_is); (case c27 => k_is); (case k27 => k_is); (case i27 => k_is)
    (case tl_0 => k_is); (case t11_0 => exact rfl); (case th_0 => kernel_rfl); (case tn_0 => kernel_rfl); (case te_0 => exact PySem.W.km_tabs_of Y _ (by simp))
    (case hnd => simp)

