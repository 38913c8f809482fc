import PyProof.Rows.All
import Wide.All
import OpenK.AllK
import Wide.FinOn
import HandS.ForMost
import HandS.Walk
import HandS.Zip
import HandS.IsInst
import HandS.Wide
import HandS.Flow
import HandS.TupAny
import KE.DatumOrd
import HandS.Style
import HandS.NoneIn
import HandS.EndBits
import HandS.HeadEnd
import HandS.HeadHook2
import KE.GoesMore
import KE.GoesZip
import KE.KDictZip
import HandS.RaiseMore
import HandS.Conv
import HandS.SortKw
import HandS.NamedTupSort
import HandS.Head0
import HandS.Head1
import HandS.Head2
import HandS.HeadHook1
import PySem.Challenge.RW_tugrings_k13_equilibria_have_least_energ
set_option Elab.async false
set_option linter.all false
set_option maxRecDepth 100000
set_option maxHeartbeats 0
/-! The data layer: Python values as trees (D), mutable lists as cells of a store, and how they lie in the layer's heap. -/
namespace Tg
open PySem PySem.Spec PyProof.Rows L2

inductive D where
  | non
  | bl (b : Bool)
  | int (i : Int)
  | str (x : Str)
  | tup (xs : List D)
  | lst (xs : List D)
  | scr (xs : List D)
  | dic
  | loc (n : Nat)

abbrev Sto := List (List D)
abbrev En := List (Option D)
abbrev Fg := PySem.W.Frag

/-- a tuple that stands apart from the cells -/
def ImT (K : Fg) (r m : List Addr) (H : Hp) (a : Addr) (xs : List V) : Prop :=
  (H a = some (.tup xs) ∧ (a ∉ m ∧ a ∉ r) ∧ xs.length ≤ sizeLine) ∨
    ∃ (o : Obj) (its : Array Value) (n : Nat), K.lookup a = some o ∧ o.cls = .type "tuple" ∧ o.data = .seq its n ∧ its.size ≤ sizeLine ∧ Vals xs its.toList
def ImS (K : Fg) (r m : List Addr) (H : Hp) (a : Addr) (xs : List V) : Prop :=
  (Rd H a (.lst xs) ∧ (a ∉ m ∧ a ∉ r)) ∨
    ∃ (o : Obj) (its : Array Value) (n : Nat), K.lookup a = some o ∧ o.cls = .type "list" ∧ o.dict = none ∧ o.data = .seq its n ∧ its.size ≤ sizeLine ∧ Vals xs its.toList

mutual
def Den (K : Fg) (r m : List Addr) (H : Hp) : D → V → Prop
  | .non, v => v = .non
  | .bl b, v => v = .bl b
  | .int i, v => v = .int i
  | .str x, v => v = .str x
  | .tup ds, v => ∃ a xs, v = .ref a ∧ ImT K r m H a xs ∧ Dens K r m H ds xs
  | .lst ds, v => ∃ a xs, v = .ref a ∧ H a = some (.lst xs) ∧ (a ∉ m ∧ a ∉ r) ∧ xs.length ≤ sizeLine ∧ Dens K r m H ds xs
  | .scr ds, v => ∃ a xs, v = .ref a ∧ ImS K r m H a xs ∧ ds.length ≤ 1000 ∧ Dens K r m H ds xs
  | .dic, v => ∃ a, v = .ref a ∧ H a = some (.dK []) ∧ (a ∉ m ∧ a ∉ r)
  | .loc n, v => ∃ a, v = .ref a ∧ m[n]? = some a
def Dens (K : Fg) (r m : List Addr) (H : Hp) : List D → List V → Prop
  | [], xs => xs = []
  | d :: ds, xs => ∃ x q, xs = x :: q ∧ Den K r m H d x ∧ Dens K r m H ds q
end

/-- the cells lie in the heap -/
structure Good (K : Fg) (r m : List Addr) (st : Sto) (H : Hp) : Prop where
  len : m.length = st.length
  nd : m.Nodup
  res : ∀ a ∈ r, H a ≠ none
  cell : ∀ (i : Nat) (a : Addr) (c : List D), m[i]? = some a → st[i]? = some c → ∃ xs, H a = some (.lst xs) ∧ xs.length ≤ sizeLine ∧ Dens K r m H c xs
/-- later heaps -/
structure Le (m : List Addr) (H : Hp) (m' : List Addr) (H' : Hp) : Prop where
  ext : ∃ r, m' = m ++ r ∧ ∀ a ∈ r, H a = none
  keep : ∀ a o, H a = some o → a ∉ m → H' a = some o
  there : ∀ a, H' a = none → H a = none

section
variable {K : Fg} {r m m1 m2 : List Addr} {H H1 H2 : Hp} {st : Sto}
theorem Le.refl (m : List Addr) (H : Hp) : Le m H m H := ⟨⟨[], by simp, fun _ h => nomatch h⟩, fun _ _ h _ => h, fun _ h => h⟩
theorem Le.trans (a : Le m H m1 H1) (b : Le m1 H1 m2 H2) : Le m H m2 H2 := by
  obtain ⟨⟨r, e, f⟩, k, t⟩ := a
  obtain ⟨⟨r2, e2, f2⟩, k2, t2⟩ := b
  refine ⟨⟨r ++ r2, by rw [e2, e, List.append_assoc], fun x hx => ?_⟩, fun x o h n => ?_, fun x h => t x (t2 x h)⟩
  · rcases List.mem_append.mp hx with h | h
    · exact f x h
    · exact t x (f2 x h)
  · refine k2 x o (k x o h n) ?_
    rw [e]
    intro z
    rcases List.mem_append.mp z with z | z
    · exact n z
    · rw [f x z] at h
      cases h
theorem Le.out1 (l : Le m H m1 H1) {a : Addr} {o : HO} (h : H a = some o) (n : a ∉ m) : a ∉ m1 := by
  obtain ⟨⟨r, e, f⟩, _, _⟩ := l
  rw [e]
  intro z
  rcases List.mem_append.mp z with z | z
  · exact n z
  · rw [f a z] at h
    cases h
theorem Le.out (l : Le m H m1 H1) {a : Addr} {o : HO} (h : H a = some o) (n : a ∉ m ∧ a ∉ r) : a ∉ m1 ∧ a ∉ r := ⟨l.out1 h n.1, n.2⟩
theorem Le.at (l : Le m H m1 H1) {n : Nat} {a : Addr} (h : m[n]? = some a) : m1[n]? = some a := by
  obtain ⟨⟨r, e, _⟩, _, _⟩ := l
  rw [e, List.getElem?_append_left (List.getElem?_eq_some_iff.mp h).1]
  exact h
theorem ImT.mono (l : Le m H m1 H1) {a : Addr} {xs : List V} (h : ImT K r m H a xs) : ImT K r m1 H1 a xs := by
  rcases h with ⟨h, n, z⟩ | h
  · exact .inl ⟨l.keep a _ h n.1, l.out h n, z⟩
  · exact .inr h
theorem ImS.mono (l : Le m H m1 H1) {a : Addr} {xs : List V} (h : ImS K r m H a xs) : ImS K r m1 H1 a xs := by
  rcases h with ⟨h | ⟨o, h⟩, n⟩ | h
  · exact .inl ⟨.inl (l.keep a _ h n.1), l.out h n⟩
  · exact .inl ⟨.inr ⟨o, l.keep a _ h n.1⟩, l.out h n⟩
  · exact .inr h
theorem ImT.sq {a : Addr} {xs : List V} (h : ImT K r m H a xs) : SqT K H a xs := by
  rcases h with ⟨h, _⟩ | h
  · exact .inl (.inl h)
  · exact .inr h
theorem ImS.sq {a : Addr} {xs : List V} (h : ImS K r m H a xs) : SqL K H a xs := by
  rcases h with ⟨h, _⟩ | h
  · exact .inl h
  · exact .inr h
theorem ImT.len {a : Addr} {xs : List V} (h : ImT K r m H a xs) : xs.length ≤ sizeLine := by
  rcases h with ⟨_, _, h⟩ | ⟨o, its, n, _, _, _, h, r⟩
  · exact h
  · rw [r.length]
    simpa using h
mutual
theorem Den.mono (l : Le m H m1 H1) : ∀ (d : D) (v : V), Den K r m H d v → Den K r m1 H1 d v
  | .non, _, h => h
  | .bl _, _, h => h
  | .int _, _, h => h
  | .str _, _, h => h
  | .tup ds, _, h => by
    obtain ⟨a, xs, e, i, q⟩ := h
    exact ⟨a, xs, e, i.mono l, Dens.mono l ds xs q⟩
  | .lst ds, _, h => by
    obtain ⟨a, xs, e, i, n, z, q⟩ := h
    exact ⟨a, xs, e, l.keep a _ i n.1, l.out i n, z, Dens.mono l ds xs q⟩
  | .scr ds, _, h => by
    obtain ⟨a, xs, e, i, z, q⟩ := h
    exact ⟨a, xs, e, i.mono l, z, Dens.mono l ds xs q⟩
  | .dic, _, h => by
    obtain ⟨a, e, i, n⟩ := h
    exact ⟨a, e, l.keep a _ i n.1, l.out i n⟩
  | .loc n, _, h => by
    obtain ⟨a, e, i⟩ := h
    exact ⟨a, e, l.at i⟩
theorem Dens.mono (l : Le m H m1 H1) : ∀ (ds : List D) (vs : List V), Dens K r m H ds vs → Dens K r m1 H1 ds vs
  | [], _, h => h
  | d :: ds, _, h => by
    obtain ⟨x, r, e, a, b⟩ := h
    exact ⟨x, r, e, Den.mono l d x a, Dens.mono l ds _ b⟩
end
theorem Dens.len : ∀ {ds : List D} {vs : List V}, Dens K r m H ds vs → ds.length = vs.length
  | [], _, h => by
    cases h
    rfl
  | d :: ds, _, h => by
    obtain ⟨x, r, rfl, _, b⟩ := h
    rw [List.length_cons, List.length_cons, Dens.len b]
theorem Dens.get : ∀ {ds : List D} {vs : List V} {i : Nat} {d : D}, Dens K r m H ds vs → ds[i]? = some d → ∃ v, vs[i]? = some v ∧ Den K r m H d v
  | [], _, _, _, _, e => by simp at e
  | d :: ds, _, 0, _, h, e => by
    obtain ⟨x, r, rfl, a, _⟩ := h
    simp at e
    subst e
    exact ⟨x, rfl, a⟩
  | d :: ds, _, i + 1, _, h, e => by
    obtain ⟨x, r, rfl, _, b⟩ := h
    exact Dens.get (i := i) b (by simpa using e)
theorem Dens.getV {ds : List D} {vs : List V} {i : Nat} {v : V} (h : Dens K r m H ds vs) (e : vs[i]? = some v) : ∃ d, ds[i]? = some d ∧ Den K r m H d v := by
  have hl := h.len
  have hi : i < ds.length := by
    rw [hl]
    exact (List.getElem?_eq_some_iff.mp e).1
  obtain ⟨w, e2, q⟩ := h.get (List.getElem?_eq_getElem hi)
  rw [e] at e2
  cases e2
  exact ⟨_, List.getElem?_eq_getElem hi, q⟩
theorem Dens.append : ∀ {ds es : List D} {vs ws : List V}, Dens K r m H ds vs → Dens K r m H es ws → Dens K r m H (ds ++ es) (vs ++ ws)
  | [], _, _, _, h, q => by
    cases h
    exact q
  | d :: ds, _, _, _, h, q => by
    obtain ⟨x, r, rfl, a, b⟩ := h
    exact ⟨x, r ++ _, rfl, a, b.append q⟩
theorem Dens.one {d : D} {v : V} (h : Den K r m H d v) : Dens K r m H [d] [v] := ⟨v, [], rfl, h, rfl⟩
theorem Dens.cons {d : D} {v : V} {ds : List D} {vs : List V} (h : Den K r m H d v) (q : Dens K r m H ds vs) : Dens K r m H (d :: ds) (v :: vs) := ⟨v, vs, rfl, h, q⟩
theorem Dens.drop : ∀ {ds : List D} {vs : List V} (n : Nat), Dens K r m H ds vs → Dens K r m H (ds.drop n) (vs.drop n)
  | _, _, 0, h => h
  | [], _, n + 1, h => by
    cases h
    rfl
  | d :: ds, _, n + 1, h => by
    obtain ⟨x, r, rfl, _, b⟩ := h
    exact Dens.drop n b
theorem Dens.take : ∀ {ds : List D} {vs : List V} (n : Nat), Dens K r m H ds vs → Dens K r m H (ds.take n) (vs.take n)
  | _, _, 0, _ => rfl
  | [], _, n + 1, h => by
    cases h
    rfl
  | d :: ds, _, n + 1, h => by
    obtain ⟨x, r, rfl, a, b⟩ := h
    exact ⟨x, r.take n, rfl, a, Dens.take n b⟩
theorem Dens.set : ∀ {ds : List D} {vs : List V} (n : Nat) {d : D} {v : V}, Den K r m H d v → Dens K r m H ds vs → Dens K r m H (ds.set n d) (vs.set n v)
  | [], _, _, _, _, _, h => by
    cases h
    rfl
  | d :: ds, _, 0, _, _, q, h => by
    obtain ⟨x, r, rfl, _, b⟩ := h
    exact ⟨_, r, rfl, q, b⟩
  | d :: ds, _, n + 1, _, _, q, h => by
    obtain ⟨x, r, rfl, a, b⟩ := h
    exact ⟨x, _, rfl, a, Dens.set n q b⟩
theorem Dens.eraseIdx : ∀ {ds : List D} {vs : List V} (n : Nat), Dens K r m H ds vs → Dens K r m H (ds.eraseIdx n) (vs.eraseIdx n)
  | [], _, _, h => by
    cases h
    rfl
  | d :: ds, _, 0, h => by
    obtain ⟨x, r, rfl, _, b⟩ := h
    exact b
  | d :: ds, _, n + 1, h => by
    obtain ⟨x, r, rfl, a, b⟩ := h
    exact ⟨x, _, rfl, a, Dens.eraseIdx n b⟩
theorem Dens.ints : ∀ (ns : List Int) (vs : List V), Dens K r m H (ns.map D.int) vs → vs = ns.map V.int
  | [], _, h => h
  | n :: ns, _, h => by
    obtain ⟨x, r, rfl, a, b⟩ := h
    cases a
    rw [Dens.ints ns r b]
    rfl
theorem Dens.of_ints : ∀ (ns : List Int), Dens K r m H (ns.map D.int) (ns.map V.int)
  | [] => rfl
  | n :: ns => ⟨_, _, rfl, rfl, Dens.of_ints ns⟩
theorem Dens.bls : ∀ (ns : List Bool) (vs : List V), Dens K r m H (ns.map D.bl) vs → vs = ns.map V.bl
  | [], _, h => h
  | n :: ns, _, h => by
    obtain ⟨x, r, rfl, a, b⟩ := h
    cases a
    rw [Dens.bls ns r b]
    rfl

/-! ### new objects -/
theorem Good.fresh (g : Good K r m st H) {p : Addr} (h : H p = none) : p ∉ m ∧ p ∉ r := by
  refine ⟨fun z => ?_, fun z => g.res p z h⟩
  obtain ⟨i, e⟩ := List.getElem?_of_mem z
  have hi : i < st.length := by
    rw [← g.len]
    exact (List.getElem?_eq_some_iff.mp e).1
  obtain ⟨xs, q, _⟩ := g.cell i p _ e (List.getElem?_eq_getElem hi)
  rw [h] at q
  cases q
theorem le_upd {p : Addr} {o : HO} (h : H p = none) : Le m H m (upd H p o) := by
  refine ⟨⟨[], by simp, fun _ z => nomatch z⟩, fun a u e _ => ?_, fun a e => ?_⟩
  · rw [upd_ne (ne_of_none e h)]
    exact e
  · by_cases q : a = p
    · rw [q]
      exact h
    · rw [upd_ne q] at e
      exact e
theorem Good.mono (g : Good K r m st H) (l : Le m H m H1) (hc : ∀ a xs, a ∈ m → H a = some (.lst xs) → H1 a = some (.lst xs)) : Good K r m st H1 :=
  ⟨g.len, g.nd, fun a ha e => g.res a ha (l.there a e), fun i a c e f => by
    obtain ⟨xs, q, z, d⟩ := g.cell i a c e f
    exact ⟨xs, hc a xs (List.mem_of_getElem? e) q, z, d.mono l⟩⟩
theorem Good.upd (g : Good K r m st H) {p : Addr} {o : HO} (h : H p = none) : Good K r m st (upd H p o) :=
  g.mono (le_upd h) fun a xs _ e => by
    rw [upd_ne (ne_of_none e h)]
    exact e
/-- a new cell -/
theorem Good.snoc (g : Good K r m st H) {p : Addr} {xs : List V} {c : List D} (h : H p = none) (z : xs.length ≤ sizeLine) (q : Dens K r m H c xs) :
    Le m H (m ++ [p]) (L2.upd H p (.lst xs)) ∧ Good K r (m ++ [p]) (st ++ [c]) (L2.upd H p (.lst xs)) := by
  have l : Le m H (m ++ [p]) (L2.upd H p (.lst xs)) := by
    refine ⟨⟨[p], rfl, fun a e => ?_⟩, (le_upd h).keep, (le_upd (m := m) h).there⟩
    rw [List.mem_singleton.mp e]
    exact h
  refine ⟨l, ?_, ?_, ?_, fun i a d e f => ?_⟩
  · rw [List.length_append, List.length_append, g.len]
    rfl
  · rw [List.nodup_append]
    refine ⟨g.nd, by simp, fun a ha b hb => ?_⟩
    rw [List.mem_singleton.mp hb]
    intro e
    rw [e] at ha
    exact (g.fresh h).1 ha
  · intro a ha e
    exact g.res a ha (l.there a e)
  · by_cases hi : i < m.length
    · rw [List.getElem?_append_left hi] at e
      rw [List.getElem?_append_left (by rw [← g.len]; exact hi)] at f
      obtain ⟨ys, a1, a2, a3⟩ := g.cell i a d e f
      refine ⟨ys, ?_, a2, a3.mono l⟩
      rw [upd_ne (ne_of_none a1 h)]
      exact a1
    · have hm : m.length ≤ i := Nat.le_of_not_lt hi
      rw [List.getElem?_append_right hm] at e
      rw [List.getElem?_append_right (by rw [← g.len]; exact hm)] at f
      have hz : i - m.length = 0 := by
        have := (List.getElem?_eq_some_iff.mp e).1
        simp at this
        omega
      rw [hz] at e
      rw [← g.len, hz] at f
      simp at e f
      subst e f
      exact ⟨xs, upd_same, z, q.mono l⟩
/-- a cell is written -/
theorem Good.put (g : Good K r m st H) {n : Nat} {p : Addr} {xs : List V} {c : List D} (hn : m[n]? = some p) (z : xs.length ≤ sizeLine) (q : Dens K r m H c xs) :
    Le m H m (L2.upd H p (.lst xs)) ∧ Good K r m (st.set n c) (L2.upd H p (.lst xs)) := by
  have hp : p ∈ m := List.mem_of_getElem? hn
  have hs : ∃ o, H p = some o := by
    have hi : n < st.length := by
      rw [← g.len]
      exact (List.getElem?_eq_some_iff.mp hn).1
    obtain ⟨ys, a, _⟩ := g.cell n p _ hn (List.getElem?_eq_getElem hi)
    exact ⟨_, a⟩
  have l : Le m H m (L2.upd H p (.lst xs)) := by
    refine ⟨⟨[], by simp, fun _ z => nomatch z⟩, fun a u e na => ?_, fun a e => ?_⟩
    · rw [upd_ne (fun z => na (by rw [z]; exact hp))]
      exact e
    · by_cases qa : a = p
      · rw [qa, upd_same] at e
        cases e
      · rw [upd_ne qa] at e
        exact e
  refine ⟨l, by rw [List.length_set]; exact g.len, g.nd, fun a ha e => g.res a ha (l.there a e), fun i a d e f => ?_⟩
  by_cases hi : i = n
  · subst hi
    rw [hn] at e
    cases e
    have hl : i < st.length := by
      have := (List.getElem?_eq_some_iff.mp f).1
      rwa [List.length_set] at this
    rw [List.getElem?_set_self hl] at f
    cases f
    exact ⟨xs, upd_same, z, q.mono l⟩
  · rw [List.getElem?_set_ne (Ne.symm hi)] at f
    obtain ⟨ys, a1, a2, a3⟩ := g.cell i a d e f
    refine ⟨ys, ?_, a2, a3.mono l⟩
    rw [upd_ne]
    · exact a1
    · intro z
      subst z
      obtain ⟨h1, e1⟩ := List.getElem?_eq_some_iff.mp e
      obtain ⟨h2, e2⟩ := List.getElem?_eq_some_iff.mp hn
      exact hi ((List.getElem_inj g.nd).mp (e1.trans e2.symm))
end

/-! ### slots -/
def EnvR (K : Fg) (r m : List Addr) (H : Hp) (env : En) (σ : L2.St) : Prop :=
  env.length = σ.length ∧ ∀ (i : Nat) (d : D), env[i]? = some (some d) → ∃ v, σ[i]? = some (some v) ∧ Den K r m H d v
section
variable {K : Fg} {r m m1 : List Addr} {H H1 : Hp} {env : En} {σ : L2.St}
theorem EnvR.mono (l : Le m H m1 H1) (h : EnvR K r m H env σ) : EnvR K r m1 H1 env σ :=
  ⟨h.1, fun i d e => by
    obtain ⟨v, a, b⟩ := h.2 i d e
    exact ⟨v, a, b.mono l⟩⟩
theorem EnvR.set (h : EnvR K r m H env σ) {i : Nat} {d : D} {v : V} (q : Den K r m H d v) : EnvR K r m H (env.set i (some d)) (σ.set i (some v)) := by
  refine ⟨by rw [List.length_set, List.length_set]; exact h.1, fun j e f => ?_⟩
  by_cases hj : i = j
  · subst hj
    have hl : i < env.length := by
      have := (List.getElem?_eq_some_iff.mp f).1
      rwa [List.length_set] at this
    rw [List.getElem?_set_self hl] at f
    cases f
    exact ⟨v, List.getElem?_set_self (by rw [← h.1]; exact hl), q⟩
  · rw [List.getElem?_set_ne hj] at f
    rw [List.getElem?_set_ne hj]
    exact h.2 j e f
def wipeE (env : En) : List Nat → En
  | [] => env
  | v :: vs => (wipeE env vs).set v none
theorem wipeE_length (env : En) : ∀ vs : List Nat, (wipeE env vs).length = env.length
  | [] => rfl
  | v :: vs => by
    unfold wipeE
    rw [List.length_set, wipeE_length env vs]
theorem EnvR.setN (h : EnvR K r m H env σ) (i : Nat) : EnvR K r m H (env.set i none) (σ.set i none) := by
  refine ⟨by rw [List.length_set, List.length_set]; exact h.1, fun j e f => ?_⟩
  by_cases hj : i = j
  · subst hj
    have hl : i < env.length := by
      have := (List.getElem?_eq_some_iff.mp f).1
      rwa [List.length_set] at this
    rw [List.getElem?_set_self hl] at f
    cases f
  · rw [List.getElem?_set_ne hj] at f
    rw [List.getElem?_set_ne hj]
    exact h.2 j e f
theorem EnvR.wipe (h : EnvR K r m H env σ) : ∀ vs : List Nat, EnvR K r m H (wipeE env vs) (L2.wipe σ vs)
  | [] => h
  | v :: vs => by
    unfold wipeE L2.wipe
    exact (EnvR.wipe h vs).setN v
end
end Tg
/-! Expressions as functions of slots and store; each with its rule. -/
namespace Tg
open PySem PySem.Spec PyProof.Rows L2

abbrev DE := En → Sto → Option (D × Sto)
abbrev DB := En → Sto → Option (Bool × Sto)
abbrev DA := En → Sto → Option (List D × Sto)

def tE (K : Fg) (f : DE) : TE := fun σ H Q => ∃ r m st env d st', Good K r m st H ∧ EnvR K r m H env σ ∧ f env st = some (d, st') ∧
  ∀ m' H' v, Le m H m' H' → Good K r m' st' H' → Den K r m' H' d v → Q v H'
def tBo (K : Fg) (f : DB) : TT := fun σ H Q => ∃ r m st env b st', Good K r m st H ∧ EnvR K r m H env σ ∧ f env st = some (b, st') ∧
  ∀ m' H', Le m H m' H' → Good K r m' st' H' → Q b H'
def tAr (K : Fg) (f : DA) : TA := fun σ H Q => ∃ r m st env ds st', Good K r m st H ∧ EnvR K r m H env σ ∧ f env st = some (ds, st') ∧
  ∀ m' H' vs, Le m H m' H' → Good K r m' st' H' → Dens K r m' H' ds vs → Q vs H'

section
variable {X : Cx} {e : Expr} {K : Fg}
theorem pe_imp {t t' : TE} (h : PE X e t) (q : ∀ σ H Q, t' σ H Q → t σ H Q) : PE X e t' := ⟨fun pins s σ H Q I w => h.run pins s σ H Q I (q _ _ _ w)⟩
theorem pt_imp {t t' : TT} (h : PT X e t) (q : ∀ σ H Q, t' σ H Q → t σ H Q) : PT X e t' := ⟨fun pins s σ H Q I w => h.run pins s σ H Q I (q _ _ _ w)⟩
theorem pw_imp {t t' : TT} (h : PW X e t) (q : ∀ σ H Q, t' σ H Q → t σ H Q) : PW X e t' := ⟨fun wh pins s σ H Q I w => h.run wh pins s σ H Q I (q _ _ _ w)⟩
theorem pa_imp {es : List Expr} {t t' : TA} (h : PA X es t) (q : ∀ σ H Q, t' σ H Q → t σ H Q) : PA X es t' := ⟨fun pos pins s σ H Q I w => h.run pos pins s σ H Q I (q _ _ _ w)⟩
end

/-! ### data as the library's own -/
mutual
def pyD : D → PyData
  | .bl b => .bool b
  | .int i => .int i
  | .str x => .str x
  | .tup xs => .tuple (pyDs xs)
  | .lst xs => .list (pyDs xs)
  | _ => .none
def pyDs : List D → List PyData
  | [] => []
  | d :: ds => pyD d :: pyDs ds
end
mutual
def lay : D → Bool
  | .non => true
  | .bl _ => true
  | .int _ => true
  | .str x => PyData.strOk x
  | .tup xs => lays xs
  | .lst xs => lays xs
  | _ => false
def lays : List D → Bool
  | [] => true
  | d :: ds => lay d && lays ds
end
mutual
def dep : D → Nat
  | .tup xs => deps xs + 1
  | .lst xs => deps xs + 1
  | _ => 0
def deps : List D → Nat
  | [] => 0
  | d :: ds => max (dep d) (deps ds)
end
mutual
theorem lay_can : ∀ d : D, lay d = true → (pyD d).canLay0 = true
  | .non, _ => by simp [pyD, PyData.canLay0]
  | .bl _, _ => by simp [pyD, PyData.canLay0]
  | .int _, _ => by simp [pyD, PyData.canLay0]
  | .str _, h => by simpa [pyD, PyData.canLay0, lay] using h
  | .tup xs, h => by
    simp only [pyD, PyData.canLay0]
    exact lays_can xs (by simpa [lay] using h)
  | .lst xs, h => by
    simp only [pyD, PyData.canLay0]
    exact lays_can xs (by simpa [lay] using h)
  | .scr _, h => by simp [lay] at h
  | .dic, h => by simp [lay] at h
  | .loc _, h => by simp [lay] at h
theorem lays_can : ∀ ds : List D, lays ds = true → PyData.canLayAll0 (pyDs ds) = true
  | [], _ => by simp [pyDs, PyData.canLayAll0]
  | d :: ds, h => by
    simp only [lays, Bool.and_eq_true] at h
    simp only [pyDs, PyData.canLayAll0, Bool.and_eq_true]
    exact ⟨lay_can d h.1, lays_can ds h.2⟩
end
mutual
theorem dep_eq : ∀ d : D, (pyD d).depth = dep d
  | .non => by simp [pyD, PyData.depth, dep]
  | .bl _ => by simp [pyD, PyData.depth, dep]
  | .int _ => by simp [pyD, PyData.depth, dep]
  | .str _ => by simp [pyD, PyData.depth, dep]
  | .tup xs => by
    simp only [pyD, PyData.depth, dep]
    rw [deps_eq xs]
  | .lst xs => by
    simp only [pyD, PyData.depth, dep]
    rw [deps_eq xs]
  | .scr _ => by simp [pyD, PyData.depth, dep]
  | .dic => by simp [pyD, PyData.depth, dep]
  | .loc _ => by simp [pyD, PyData.depth, dep]
theorem deps_eq : ∀ ds : List D, PyData.depthAll (pyDs ds) = deps ds
  | [] => by simp [pyDs, PyData.depthAll, deps]
  | d :: ds => by
    simp only [pyDs, PyData.depthAll, deps]
    rw [dep_eq d, deps_eq ds]
end
def okD (d : D) : Bool := lay d && decide (dep d ≤ 64)
theorem okD_shaped {d : D} (h : okD d = true) : SeqAt.shaped (pyD d) = true := by
  unfold okD at h
  simp only [Bool.and_eq_true, decide_eq_true_eq] at h
  unfold SeqAt.shaped
  rw [lay_can d h.1, dep_eq d]
  simpa using h.2
def eqD (d e : D) : Bool := PyData.eqv (pyD d) (pyD e)

section
variable {X : Cx} {pins : List (Addr × Obj)} {σ : L2.St} {H : Hp} {s : Shared} {r m : List Addr}
mutual
theorem Den.reads (I : Inv X pins σ H s) : ∀ (d : D) (v : V) (u : Value), Den X.K r m H d v → lay d = true → RelV v u → ∃ as, Reads s.heap u (pyD d) as
  | .non, _, _, h, _, r => by
    cases h
    cases r
    exact ⟨_, Reads.none⟩
  | .bl b, _, _, h, _, r => by
    cases h
    cases r
    exact ⟨_, Reads.bool b⟩
  | .int i, _, _, h, _, r => by
    cases h
    obtain ⟨t, rfl⟩ := r
    exact ⟨_, Reads.int i t⟩
  | .str x, _, _, h, _, r => by
    cases h
    obtain ⟨t, rfl⟩ := r
    exact ⟨_, Reads.str x t⟩
  | .tup ds, _, _, h, l, r => by
    obtain ⟨a, xs, rfl, i, q⟩ := h
    cases r
    obtain ⟨its, rv, ⟨o, ho, hc, n, hd⟩, _⟩ := I.tuple i.sq
    obtain ⟨as, hr⟩ := Dens.reads I ds _ its q (by simpa [lay] using l) rv
    exact ⟨_, Reads.tuple ho hc hd hr⟩
  | .lst ds, _, _, h, l, r => by
    obtain ⟨a, xs, rfl, i, _, _, q⟩ := h
    cases r
    obtain ⟨its, rv, ⟨o, n, ho, hc, _, hd⟩, _⟩ := I.list (SqL.of i)
    obtain ⟨as, hr⟩ := Dens.reads I ds _ its q (by simpa [lay] using l) rv
    exact ⟨_, Reads.list ho hc hd hr⟩
  | .scr _, _, _, _, l, _ => by simp [lay] at l
  | .dic, _, _, _, l, _ => by simp [lay] at l
  | .loc _, _, _, _, l, _ => by simp [lay] at l
theorem Dens.reads (I : Inv X pins σ H s) : ∀ (ds : List D) (vs : List V) (us : List Value), Dens X.K r m H ds vs → lays ds = true → Vals vs us → ∃ as, ReadsAll s.heap us (pyDs ds) as
  | [], _, _, h, _, r => by
    cases h
    cases r
    exact ⟨_, ReadsAll.nil⟩
  | d :: ds, _, _, h, l, r => by
    obtain ⟨x, rs, rfl, h1, h2⟩ := h
    simp only [lays, Bool.and_eq_true] at l
    cases r with
    | cons r1 r2 =>
      obtain ⟨as, q1⟩ := Den.reads I d _ _ h1 l.1 r1
      obtain ⟨bs, q2⟩ := Dens.reads I ds _ _ h2 l.2 r2
      exact ⟨_, ReadsAll.cons q1 q2⟩
end
end
section
variable {X : Cx}
/-- data as it is read: a cell's items count as a list -/
def Sees (K : Fg) (H : Hp) (d : D) (x : V) : Prop := ∃ r m, Den K r m H d x ∨ ∃ ds a vs, d = .lst ds ∧ x = .ref a ∧ H a = some (.lst vs) ∧ Dens K r m H ds vs
theorem Sees.reads {pins : List (Addr × Obj)} {σ : L2.St} {H : Hp} {s : Shared} (I : Inv X pins σ H s) {d : D} {v : V} {u : Value} (h : Sees X.K H d v) (l : lay d = true) (r : RelV v u) : ∃ as, Reads s.heap u (pyD d) as := by
  obtain ⟨r', m, h | ⟨ds, a, vs, rfl, rfl, i, q⟩⟩ := h
  · exact Den.reads I d v u h l r
  · cases r
    obtain ⟨its, rv, ⟨o, n, ho, hc, _, hd⟩, _⟩ := I.list (SqL.of i)
    obtain ⟨as, hr⟩ := Dens.reads I ds _ its q (by simpa [lay] using l) rv
    exact ⟨_, Reads.list ho hc hd hr⟩
def rEqP (K : Fg) : R2 := fun x y H Q => ∃ d e, Sees K H d x ∧ Sees K H e y ∧ okD d = true ∧ okD e = true ∧ Q (.bl (eqD d e)) H
def rNeP (K : Fg) : R2 := fun x y H Q => ∃ d e, Sees K H d x ∧ Sees K H e y ∧ okD d = true ∧ okD e = true ∧ Q (.bl (!eqD d e)) H
theorem okD_lay {d : D} (h : okD d = true) : lay d = true := (Bool.and_eq_true_iff.mp h).1
theorem op_eqP (hu : X.A.units + 64 < cLine) : OpR X (compareOp .Eq) (rEqP X.K) := by
  intro pins s σ H x y v u Q I rx ry h
  obtain ⟨d, e, hd, he, sd, se, q⟩ := h
  obtain ⟨as, r1⟩ := hd.reads I (okD_lay sd) rx
  obtain ⟨bs, r2⟩ := he.reads I (okD_lay se) ry
  exact SeqAt.compareEq_shaped r1 r2 (okD_shaped sd) (okD_shaped se) hu ⟨.bl _, H, I, rfl, q⟩
theorem op_neP (hu : X.A.units + 64 < cLine) : OpR X (compareOp .NotEq) (rNeP X.K) := by
  intro pins s σ H x y v u Q I rx ry h
  obtain ⟨d, e, hd, he, sd, se, q⟩ := h
  obtain ⟨as, r1⟩ := hd.reads I (okD_lay sd) rx
  obtain ⟨bs, r2⟩ := he.reads I (okD_lay se) ry
  exact SeqAt.compareNe_shaped r1 r2 (okD_shaped sd) (okD_shaped se) hu ⟨.bl _, H, I, rfl, q⟩
end

/-! ### combinators -/
def eVar (i : Nat) : DE := fun env st => match env[i]? with
  | some (some d) => some (d, st)
  | _ => none
def eC (d : D) : DE := fun _ st => some (d, st)
def eOp (o : Sto → D → D → Option D) (fa fb : DE) : DE := fun env st =>
  (fa env st).bind fun p => (fb env p.2).bind fun q => (o q.2 p.1 q.1).map fun d => (d, q.2)
def eUn (o : D → Option D) (fa : DE) : DE := fun env st => (fa env st).bind fun p => (o p.1).map fun d => (d, p.2)
def aNil : DA := fun _ st => some ([], st)
def aCons (fa : DE) (fr : DA) : DA := fun env st => (fa env st).bind fun p => (fr env p.2).bind fun q => some (p.1 :: q.1, q.2)
def eBlt (g : Sto → List D → Option D) (fa : DA) : DE := fun env st => (fa env st).bind fun p => (g p.2 p.1).map fun d => (d, p.2)
/-- a new cell -/
def eNew (g : Sto → List D → Option (List D)) (fa : DA) : DE := fun env st => (fa env st).bind fun p => (g p.2 p.1).map fun c => (.loc p.2.length, p.2 ++ [c])
def eTup (fa : DA) : DE := fun env st => (fa env st).bind fun p => some (.tup p.1, p.2)
def eLst (fa : DA) : DE := fun env st => (fa env st).bind fun p => some (.lst p.1, p.2)
def eMLst (fa : DA) : DE := fun env st => (fa env st).bind fun p => some (.loc p.2.length, p.2 ++ [p.1])
def eIf (c : DB) (fa fb : DE) : DE := fun env st => (c env st).bind fun p => if p.1 then fa env p.2 else fb env p.2
def eAnd (fa fb : DE) : DE := fun env st => (fa env st).bind fun p => match p.1 with
  | .bl true => fb env p.2
  | .bl false => some (.bl false, p.2)
  | _ => none
def eOr (fa fb : DE) : DE := fun env st => (fa env st).bind fun p => match p.1 with
  | .bl true => some (.bl true, p.2)
  | .bl false => fb env p.2
  | _ => none
def eNot (fa : DE) : DE := fun env st => (fa env st).bind fun p => match p.1 with
  | .bl b => some (.bl (!b), p.2)
  | _ => none
def bVal (fa : DE) : DB := fun env st => (fa env st).bind fun p => match p.1 with
  | .bl b => some (b, p.2)
  | _ => none
def bAnd (fa fb : DB) : DB := fun env st => (fa env st).bind fun p => if p.1 then fb env p.2 else some (false, p.2)
def bOr (fa fb : DB) : DB := fun env st => (fa env st).bind fun p => if p.1 then some (true, p.2) else fb env p.2
def bNot (fa : DB) : DB := fun env st => (fa env st).bind fun p => some (!p.1, p.2)
/-- a op b op' c -/
def eChain (o o' : Sto → D → D → Option D) (fa fb fc : DE) : DE := fun env st =>
  (fa env st).bind fun p => (fb env p.2).bind fun q => (o q.2 p.1 q.1).bind fun z => match z with
    | .bl true => (fc env q.2).bind fun r => (o' r.2 q.1 r.1).map fun d => (d, r.2)
    | .bl false => some (.bl false, q.2)
    | _ => none

section
variable {K : Fg} {σ : L2.St} {H : Hp} {Q : VK}
theorem t_var {i : Nat} (h : tE K (eVar i) σ H Q) : tVar i σ H Q := by
  obtain ⟨r, m, st, env, d, st', g, e, f, q⟩ := h
  unfold eVar at f
  split at f
  · next d' hd =>
    cases f
    obtain ⟨v, a, b⟩ := e.2 i _ hd
    exact ⟨v, a, q m H v (Le.refl m H) g b⟩
  · cases f
theorem t_c {d : D} {v : V} (hv : ∀ r m H, Den K r m H d v) (h : tE K (eC d) σ H Q) : tC v σ H Q := by
  obtain ⟨r, m, st, env, d', st', g, e, f, q⟩ := h
  cases f
  exact q m H v (Le.refl m H) g (hv r m H)
def OpD (K : Fg) (o : Sto → D → D → Option D) (rr : R2) : Prop := ∀ (r m : List Addr) (st : Sto) (H : Hp) (dx dy d : D) (x y : V) (Q : VK), Good K r m st H → Den K r m H dx x → Den K r m H dy y → o st dx dy = some d →
  (∀ m' H' v, Le m H m' H' → Good K r m' st H' → Den K r m' H' d v → Q v H') → rr x y H Q
theorem t_op {o : Sto → D → D → Option D} {rr : R2} (ho : OpD K o rr) {fa fb : DE} (h : tE K (eOp o fa fb) σ H Q) : tOp rr (tE K fa) (tE K fb) σ H Q := by
  obtain ⟨r, m, st, env, d, st', g, e, f, q⟩ := h
  unfold eOp at f
  obtain ⟨⟨x, s1⟩, f1, f⟩ := Option.bind_eq_some_iff.mp f
  obtain ⟨⟨y, s2⟩, f2, f⟩ := Option.bind_eq_some_iff.mp f
  obtain ⟨d', f3, f⟩ := Option.map_eq_some_iff.mp f
  cases f
  refine ⟨r, m, st, env, x, s1, g, e, f1, fun m1 H1 v1 l1 g1 d1 => ?_⟩
  refine ⟨r, m1, s1, env, y, s2, g1, e.mono l1, f2, fun m2 H2 v2 l2 g2 d2 => ?_⟩
  exact ho r m2 s2 H2 x y d v1 v2 Q g2 (d1.mono l2) d2 f3 fun m3 H3 v3 l3 g3 d3 => q m3 H3 v3 ((l1.trans l2).trans l3) g3 d3
def UnD (K : Fg) (o : D → Option D) (rr : V → Hp → VK → Prop) : Prop := ∀ (r m : List Addr) (st : Sto) (H : Hp) (dx d : D) (x : V) (Q : VK), Good K r m st H → Den K r m H dx x → o dx = some d →
  (∀ m' H' v, Le m H m' H' → Good K r m' st H' → Den K r m' H' d v → Q v H') → rr x H Q
theorem t_un {o : D → Option D} {rr : V → Hp → VK → Prop} (ho : UnD K o rr) {fa : DE} (h : tE K (eUn o fa) σ H Q) : tUn rr (tE K fa) σ H Q := by
  obtain ⟨r, m, st, env, d, st', g, e, f, q⟩ := h
  unfold eUn at f
  obtain ⟨⟨x, s1⟩, f1, f⟩ := Option.bind_eq_some_iff.mp f
  obtain ⟨d', f3, f⟩ := Option.map_eq_some_iff.mp f
  cases f
  refine ⟨r, m, st, env, x, s1, g, e, f1, fun m1 H1 v1 l1 g1 d1 => ?_⟩
  exact ho r m1 s1 H1 x d v1 Q g1 d1 f3 fun m3 H3 v3 l3 g3 d3 => q m3 H3 v3 (l1.trans l3) g3 d3
theorem t_nil {Q : List V → Hp → Prop} (h : tAr K aNil σ H Q) : tNil σ H Q := by
  obtain ⟨r, m, st, env, ds, st', g, e, f, q⟩ := h
  cases f
  exact q m H [] (Le.refl m H) g rfl
theorem t_cons {Q : List V → Hp → Prop} {fa : DE} {fr : DA} (h : tAr K (aCons fa fr) σ H Q) : tCons (tE K fa) (tAr K fr) σ H Q := by
  obtain ⟨r, m, st, env, ds, st', g, e, f, q⟩ := h
  unfold aCons at f
  obtain ⟨⟨x, s1⟩, f1, f⟩ := Option.bind_eq_some_iff.mp f
  obtain ⟨⟨y, s2⟩, f2, f⟩ := Option.bind_eq_some_iff.mp f
  cases f
  refine ⟨r, m, st, env, x, s1, g, e, f1, fun m1 H1 v1 l1 g1 d1 => ?_⟩
  refine ⟨r, m1, s1, env, y, s2, g1, e.mono l1, f2, fun m2 H2 v2 l2 g2 d2 => ?_⟩
  exact q m2 H2 (v1 :: v2) (l1.trans l2) g2 ⟨v1, v2, rfl, d1.mono l2, d2⟩
def CallD (K : Fg) (g : Sto → List D → Option D) (rr : List V → Hp → VK → Prop) : Prop := ∀ (r m : List Addr) (st : Sto) (H : Hp) (ds : List D) (d : D) (vs : List V) (Q : VK), Good K r m st H → Dens K r m H ds vs → g st ds = some d →
  (∀ m' H' v, Le m H m' H' → Good K r m' st H' → Den K r m' H' d v → Q v H') → rr vs H Q
theorem t_blt {gg : Sto → List D → Option D} {rr : List V → Hp → VK → Prop} (ho : CallD K gg rr) {fa : DA} (h : tE K (eBlt gg fa) σ H Q) : tCB rr (tAr K fa) σ H Q := by
  obtain ⟨r, m, st, env, d, st', g, e, f, q⟩ := h
  unfold eBlt at f
  obtain ⟨⟨x, s1⟩, f1, f⟩ := Option.bind_eq_some_iff.mp f
  obtain ⟨d', f3, f⟩ := Option.map_eq_some_iff.mp f
  cases f
  refine ⟨r, m, st, env, x, s1, g, e, f1, fun m1 H1 v1 l1 g1 d1 => ?_⟩
  exact ho r m1 s1 H1 x d v1 Q g1 d1 f3 fun m3 H3 v3 l3 g3 d3 => q m3 H3 v3 (l1.trans l3) g3 d3
theorem t_tup {fa : DA} (hz : ∀ env st ds st', fa env st = some (ds, st') → ds.length ≤ sizeLine) (h : tE K (eTup fa) σ H Q) : tTup (tAr K fa) σ H Q := by
  obtain ⟨r, m, st, env, d, st', g, e, f, q⟩ := h
  unfold eTup at f
  obtain ⟨⟨x, s1⟩, f1, f⟩ := Option.bind_eq_some_iff.mp f
  cases f
  refine ⟨r, m, st, env, x, s1, g, e, f1, fun m1 H1 v1 l1 g1 d1 => ?_⟩
  have z : v1.length ≤ sizeLine := by
    rw [← d1.len]
    exact hz _ _ _ _ f1
  refine ⟨z, fun p np => ?_⟩
  have l2 : Le m1 H1 m1 (upd H1 p (.tup v1)) := le_upd np
  exact q m1 _ (.ref p) (l1.trans l2) (g1.upd np) ⟨p, v1, rfl, .inl ⟨upd_same, g1.fresh np, z⟩, d1.mono l2⟩
theorem t_lst {fa : DA} (hz : ∀ env st ds st', fa env st = some (ds, st') → ds.length ≤ sizeLine) (h : tE K (eLst fa) σ H Q) : tLst (tAr K fa) σ H Q := by
  obtain ⟨r, m, st, env, d, st', g, e, f, q⟩ := h
  unfold eLst at f
  obtain ⟨⟨x, s1⟩, f1, f⟩ := Option.bind_eq_some_iff.mp f
  cases f
  refine ⟨r, m, st, env, x, s1, g, e, f1, fun m1 H1 v1 l1 g1 d1 => ?_⟩
  have z : v1.length ≤ sizeLine := by
    rw [← d1.len]
    exact hz _ _ _ _ f1
  refine ⟨z, fun p np => ?_⟩
  have l2 : Le m1 H1 m1 (upd H1 p (.lst v1)) := le_upd np
  exact q m1 _ (.ref p) (l1.trans l2) (g1.upd np) ⟨p, v1, rfl, upd_same, g1.fresh np, z, d1.mono l2⟩
theorem new_cell {r m : List Addr} {st : Sto} {p : Addr} {xs : List V} {c : List D} (g : Good K r m st H) (np : H p = none) (z : xs.length ≤ sizeLine) (q : Dens K r m H c xs) :
    Le m H (m ++ [p]) (upd H p (.lst xs)) ∧ Good K r (m ++ [p]) (st ++ [c]) (upd H p (.lst xs)) ∧ Den K r (m ++ [p]) (upd H p (.lst xs)) (.loc st.length) (.ref p) := by
  obtain ⟨l, g2⟩ := g.snoc np z q
  refine ⟨l, g2, p, rfl, ?_⟩
  rw [← g.len, List.getElem?_append_right (Nat.le_refl _), Nat.sub_self]
  rfl
theorem t_mlst {fa : DA} (hz : ∀ env st ds st', fa env st = some (ds, st') → ds.length ≤ sizeLine) (h : tE K (eMLst fa) σ H Q) : tLst (tAr K fa) σ H Q := by
  obtain ⟨r, m, st, env, d, st', g, e, f, q⟩ := h
  unfold eMLst at f
  obtain ⟨⟨x, s1⟩, f1, f⟩ := Option.bind_eq_some_iff.mp f
  cases f
  refine ⟨r, m, st, env, x, s1, g, e, f1, fun m1 H1 v1 l1 g1 d1 => ?_⟩
  have z : v1.length ≤ sizeLine := by
    rw [← d1.len]
    exact hz _ _ _ _ f1
  refine ⟨z, fun p np => ?_⟩
  obtain ⟨l2, g2, d2⟩ := new_cell g1 np z d1
  exact q _ _ (.ref p) (l1.trans l2) g2 d2
theorem t_if {c : DB} {fa fb : DE} (h : tE K (eIf c fa fb) σ H Q) : tIf (tBo K c) (tE K fa) (tE K fb) σ H Q := by
  obtain ⟨r, m, st, env, d, st', g, e, f, q⟩ := h
  unfold eIf at f
  obtain ⟨⟨b, s1⟩, f1, f⟩ := Option.bind_eq_some_iff.mp f
  refine ⟨r, m, st, env, b, s1, g, e, f1, fun m1 H1 l1 g1 => ?_⟩
  cases b with
  | true => exact ⟨r, m1, s1, env, d, st', g1, e.mono l1, f, fun m2 H2 v2 l2 g2 d2 => q m2 H2 v2 (l1.trans l2) g2 d2⟩
  | false => exact ⟨r, m1, s1, env, d, st', g1, e.mono l1, f, fun m2 H2 v2 l2 g2 d2 => q m2 H2 v2 (l1.trans l2) g2 d2⟩
theorem t_and {fa fb : DE} (h : tE K (eAnd fa fb) σ H Q) : tAndV (tE K fa) (tE K fb) σ H Q := by
  obtain ⟨r, m, st, env, d, st', g, e, f, q⟩ := h
  unfold eAnd at f
  obtain ⟨⟨x, s1⟩, f1, f⟩ := Option.bind_eq_some_iff.mp f
  refine ⟨r, m, st, env, x, s1, g, e, f1, fun m1 H1 v1 l1 g1 d1 => ?_⟩
  dsimp only at f
  split at f
  · cases d1
    exact ⟨true, rfl, ⟨r, m1, s1, env, d, st', g1, e.mono l1, f, fun m2 H2 v2 l2 g2 d2 => q m2 H2 v2 (l1.trans l2) g2 d2⟩⟩
  · cases d1
    cases f
    exact ⟨false, rfl, q m1 H1 _ l1 g1 rfl⟩
  · cases f
theorem t_or {fa fb : DE} (h : tE K (eOr fa fb) σ H Q) : tOrV (tE K fa) (tE K fb) σ H Q := by
  obtain ⟨r, m, st, env, d, st', g, e, f, q⟩ := h
  unfold eOr at f
  obtain ⟨⟨x, s1⟩, f1, f⟩ := Option.bind_eq_some_iff.mp f
  refine ⟨r, m, st, env, x, s1, g, e, f1, fun m1 H1 v1 l1 g1 d1 => ?_⟩
  dsimp only at f
  split at f
  · cases d1
    cases f
    exact ⟨true, rfl, q m1 H1 _ l1 g1 rfl⟩
  · cases d1
    exact ⟨false, rfl, ⟨r, m1, s1, env, d, st', g1, e.mono l1, f, fun m2 H2 v2 l2 g2 d2 => q m2 H2 v2 (l1.trans l2) g2 d2⟩⟩
  · cases f
theorem t_not {fa : DE} (h : tE K (eNot fa) σ H Q) : tNotV (tE K fa) σ H Q := by
  obtain ⟨r, m, st, env, d, st', g, e, f, q⟩ := h
  unfold eNot at f
  obtain ⟨⟨x, s1⟩, f1, f⟩ := Option.bind_eq_some_iff.mp f
  refine ⟨r, m, st, env, x, s1, g, e, f1, fun m1 H1 v1 l1 g1 d1 => ?_⟩
  dsimp only at f
  split at f
  · cases d1
    cases f
    exact ⟨_, rfl, q m1 H1 _ l1 g1 rfl⟩
  · cases f
theorem t_bval {Q : Bool → Hp → Prop} {fa : DE} (h : tBo K (bVal fa) σ H Q) : tTest (tE K fa) σ H Q := by
  obtain ⟨r, m, st, env, b, st', g, e, f, q⟩ := h
  unfold bVal at f
  obtain ⟨⟨x, s1⟩, f1, f⟩ := Option.bind_eq_some_iff.mp f
  refine ⟨r, m, st, env, x, s1, g, e, f1, fun m1 H1 v1 l1 g1 d1 => ?_⟩
  dsimp only at f
  split at f
  · cases d1
    cases f
    exact ⟨_, rfl, q m1 H1 l1 g1⟩
  · cases f
theorem t_band {Q : Bool → Hp → Prop} {fa fb : DB} (h : tBo K (bAnd fa fb) σ H Q) : tAnd (tBo K fa) (tBo K fb) σ H Q := by
  obtain ⟨r, m, st, env, b, st', g, e, f, q⟩ := h
  unfold bAnd at f
  obtain ⟨⟨x, s1⟩, f1, f⟩ := Option.bind_eq_some_iff.mp f
  refine ⟨r, m, st, env, x, s1, g, e, f1, fun m1 H1 l1 g1 => ?_⟩
  cases x with
  | true => exact ⟨r, m1, s1, env, b, st', g1, e.mono l1, f, fun m2 H2 l2 g2 => q m2 H2 (l1.trans l2) g2⟩
  | false =>
    cases f
    exact q m1 H1 l1 g1
theorem t_bor {Q : Bool → Hp → Prop} {fa fb : DB} (h : tBo K (bOr fa fb) σ H Q) : tOr (tBo K fa) (tBo K fb) σ H Q := by
  obtain ⟨r, m, st, env, b, st', g, e, f, q⟩ := h
  unfold bOr at f
  obtain ⟨⟨x, s1⟩, f1, f⟩ := Option.bind_eq_some_iff.mp f
  refine ⟨r, m, st, env, x, s1, g, e, f1, fun m1 H1 l1 g1 => ?_⟩
  cases x with
  | false => exact ⟨r, m1, s1, env, b, st', g1, e.mono l1, f, fun m2 H2 l2 g2 => q m2 H2 (l1.trans l2) g2⟩
  | true =>
    cases f
    exact q m1 H1 l1 g1
theorem t_bnot {Q : Bool → Hp → Prop} {fa : DB} (h : tBo K (bNot fa) σ H Q) : L2.tNot (tBo K fa) σ H Q := by
  obtain ⟨r, m, st, env, b, st', g, e, f, q⟩ := h
  unfold bNot at f
  obtain ⟨⟨x, s1⟩, f1, f⟩ := Option.bind_eq_some_iff.mp f
  cases f
  exact ⟨r, m, st, env, x, s1, g, e, f1, fun m1 H1 l1 g1 => q m1 H1 l1 g1⟩
theorem t_chain {o o' : Sto → D → D → Option D} {rr rr' : R2} (ho : OpD K o rr) (ho' : OpD K o' rr') {fa fb fc : DE} (h : tE K (eChain o o' fa fb fc) σ H Q) : tChain rr rr' (tE K fa) (tE K fb) (tE K fc) σ H Q := by
  obtain ⟨r, m, st, env, d, st', g, e, f, q⟩ := h
  unfold eChain at f
  obtain ⟨⟨x, s1⟩, f1, f⟩ := Option.bind_eq_some_iff.mp f
  obtain ⟨⟨y, s2⟩, f2, f⟩ := Option.bind_eq_some_iff.mp f
  obtain ⟨z, f3, f⟩ := Option.bind_eq_some_iff.mp f
  refine ⟨r, m, st, env, x, s1, g, e, f1, fun m1 H1 v1 l1 g1 d1 => ?_⟩
  refine ⟨r, m1, s1, env, y, s2, g1, e.mono l1, f2, fun m2 H2 v2 l2 g2 d2 => ?_⟩
  refine ho r m2 s2 H2 x y z v1 v2 _ g2 (d1.mono l2) d2 f3 fun m3 H3 v3 l3 g3 d3 => ?_
  dsimp only at f
  split at f
  · cases d3
    obtain ⟨⟨w, s4⟩, f4, f⟩ := Option.bind_eq_some_iff.mp f
    obtain ⟨d', f5, f⟩ := Option.map_eq_some_iff.mp f
    cases f
    refine ⟨true, rfl, ?_⟩
    rw [if_pos rfl]
    refine ⟨r, m3, s2, env, w, _, g3, e.mono ((l1.trans l2).trans l3), f4, fun m4 H4 v4 l4 g4 d4 => ?_⟩
    exact ho' r m4 _ H4 y w d v2 v4 Q g4 (d2.mono (l3.trans l4)) d4 f5 fun m5 H5 v5 l5 g5 d5 => q m5 H5 v5 ((((l1.trans l2).trans l3).trans l4).trans l5) g5 d5
  · cases d3
    cases f
    refine ⟨false, rfl, ?_⟩
    rw [if_neg Bool.false_ne_true]
    exact q m3 H3 _ ((l1.trans l2).trans l3) g3 rfl
  · cases f
end
end Tg
/-! Operators and built-ins on data. -/
namespace Tg
open PySem PySem.Spec PyProof.Rows L2

def mulOk (i j : Int) : Bool := decide (i.natAbs < 2 ^ 64) || decide (j.natAbs < 2 ^ 64)
def powOk (i j : Int) : Bool := decide (0 ≤ j) && decide (j ≤ 1000000) && decide (i.natAbs < 2 ^ 64)
def divOk (j : Int) : Bool := decide (0 < j) && decide (j.natAbs < 2 ^ 64)
def fits (n : Nat) : Bool := decide (n ≤ 1000000)
theorem fits_line {n : Nat} (h : fits n = true) : n ≤ sizeLine := Nat.le_trans (of_decide_eq_true h) (by decide)
theorem fits_lt {n : Nat} (h : fits n = true) : n < sizeLine := Nat.lt_of_le_of_lt (of_decide_eq_true h) (by decide)

def lstOf (st : Sto) : D → Option (List D)
  | .lst xs => some xs
  | .loc n => st[n]?
  | _ => none
def oAdd (st : Sto) : D → D → Option D
  | .int i, .int j => some (.int (i + j))
  | .str x, .str y => if fits (x.length + y.length) then some (.str (x ++ y)) else none
  | .tup xs, .tup ys => if fits (xs.length + ys.length) then some (.tup (xs ++ ys)) else none
  | d, e => (lstOf st d).bind fun xs => (lstOf st e).bind fun ys => if fits (xs.length + ys.length) then some (.lst (xs ++ ys)) else none
def oSub (_ : Sto) : D → D → Option D
  | .int i, .int j => some (.int (i - j))
  | _, _ => none
def oMul (_ : Sto) : D → D → Option D
  | .int i, .int j => if mulOk i j then some (.int (i * j)) else none
  | .lst xs, .int k => if fits (xs.length * k.toNat) && decide (-1000000 ≤ k) && decide (k ≤ 1000000) then some (.lst (List.replicate k.toNat xs).flatten) else none
  | _, _ => none
def oDiv (_ : Sto) : D → D → Option D
  | .int i, .int j => if divOk j then some (.int (i / j)) else none
  | _, _ => none
def oMod (_ : Sto) : D → D → Option D
  | .int i, .int j => if decide (0 < j) then some (.int (i % j)) else none
  | _, _ => none
def oPow (_ : Sto) : D → D → Option D
  | .int i, .int j => if powOk i j then some (.int (i ^ j.toNat)) else none
  | _, _ => none
/-- a cell by its items -/
def resD (st : Sto) : D → D
  | .loc n => match st[n]? with
    | some xs => .lst xs
    | none => .loc n
  | d => d
def oEq (st : Sto) : D → D → Option D
  | .int i, .int j => some (.bl (decide (i = j)))
  | .str x, .str y => some (.bl (decide (x = y)))
  | d, e => if okD (resD st d) && okD (resD st e) then some (.bl (eqD (resD st d) (resD st e))) else none
def oNe (st : Sto) : D → D → Option D
  | .int i, .int j => some (.bl (!decide (i = j)))
  | .str x, .str y => some (.bl (!decide (x = y)))
  | d, e => if okD (resD st d) && okD (resD st e) then some (.bl (!eqD (resD st d) (resD st e))) else none
def oLt (_ : Sto) : D → D → Option D
  | .int i, .int j => some (.bl (decide (i < j)))
  | _, _ => none
def oLe (_ : Sto) : D → D → Option D
  | .int i, .int j => some (.bl (decide (i ≤ j)))
  | _, _ => none
def oGt (_ : Sto) : D → D → Option D
  | .int i, .int j => some (.bl (decide (j < i)))
  | _, _ => none
def oGe (_ : Sto) : D → D → Option D
  | .int i, .int j => some (.bl (decide (j ≤ i)))
  | _, _ => none
def isNon : D → Bool
  | .non => true
  | _ => false
def oIs (_ : Sto) : D → D → Option D
  | d, .non => some (.bl (isNon d))
  | .bl a, .bl b => some (.bl (decide (a = b)))
  | _, _ => none
def oIsNot (_ : Sto) : D → D → Option D
  | d, .non => some (.bl (!isNon d))
  | .bl a, .bl b => some (.bl (!decide (a = b)))
  | _, _ => none
/-- the items of a sequence -/
def seqOf (st : Sto) : D → Option (List D)
  | .tup xs => some xs
  | .lst xs => some xs
  | .scr xs => some xs
  | .loc n => st[n]?
  | _ => none
def oIx (st : Sto) : D → D → Option D
  | .str z, .int i => if fits z.length then (atI z.cps.toList i).map fun c => .str ⟨#[c]⟩ else none
  | d, .int i => (seqOf st d).bind fun xs => atI xs i
  | _, _ => none
def flatD : D → Option V
  | .non => some .non
  | .bl b => some (.bl b)
  | .int i => some (.int i)
  | .str x => some (.str x)
  | _ => none
def flatDs : List D → Option (List V)
  | [] => some []
  | d :: ds => (flatD d).bind fun v => (flatDs ds).map fun vs => v :: vs
def oInS (neg : Bool) (st : Sto) : D → D → Option D
  | d, e => (seqOf st e).bind fun xs => (flatD d).bind fun v => (flatDs xs).map fun vs => .bl (if neg then !inV v vs else inV v vs)

section
variable {K : Fg} {r m : List Addr} {H : Hp} {st : Sto}
theorem natAbs64 {i : Int} (h : i.natAbs < 2 ^ 64) : -(2 ^ 64) < i ∧ i < 2 ^ 64 := by
  have : (2 : Nat) ^ 64 = 18446744073709551616 := by decide
  have e : (2 : Int) ^ 64 = 18446744073709551616 := by decide
  rw [this] at h
  rw [e]
  omega
theorem seq_list {d : D} {xs : List D} {v : V} (g : Good K r m st H) (h : Den K r m H d v) (e : seqOf st d = some xs) :
    ∃ a vs, v = .ref a ∧ (SqL K H a vs ∨ SqT K H a vs) ∧ Dens K r m H xs vs ∧ vs.length ≤ sizeLine := by
  cases d with
  | tup ds =>
    cases e
    obtain ⟨a, vs, rfl, i, q⟩ := h
    exact ⟨a, vs, rfl, .inr i.sq, q, i.len⟩
  | lst ds =>
    cases e
    obtain ⟨a, vs, rfl, i, _, z, q⟩ := h
    exact ⟨a, vs, rfl, .inl (SqL.of i), q, z⟩
  | scr ds =>
    cases e
    obtain ⟨a, vs, rfl, i, z, q⟩ := h
    exact ⟨a, vs, rfl, .inl i.sq, q, by rw [← q.len]; exact Nat.le_trans z (by decide)⟩
  | loc n =>
    obtain ⟨a, rfl, i⟩ := h
    obtain ⟨vs, q, z, r⟩ := g.cell n a xs i e
    exact ⟨a, vs, rfl, .inl (SqL.of q), r, z⟩
  | _ => cases e
theorem at_den {ds : List D} {vs : List V} {i : Int} {d : D} (q : Dens K r m H ds vs) (e : atI ds i = some d) : ∃ v, atI vs i = some v ∧ Den K r m H d v := by
  unfold atI at e ⊢
  rw [← q.len]
  obtain ⟨j, e1, e2⟩ := Option.bind_eq_some_iff.mp e
  obtain ⟨v, a, b⟩ := q.get e2
  exact ⟨v, by rw [e1]; exact a, b⟩

theorem lst_list0 {d : D} {xs : List D} {v : V} (g : Good K r m st H) (h : Den K r m H d v) (e : lstOf st d = some xs) :
    ∃ a vs, v = .ref a ∧ H a = some (.lst vs) ∧ Dens K r m H xs vs ∧ vs.length ≤ sizeLine := by
  cases d with
  | lst ds =>
    cases e
    obtain ⟨a, vs, rfl, i, _, z, q⟩ := h
    exact ⟨a, vs, rfl, i, q, z⟩
  | loc n =>
    obtain ⟨a, rfl, i⟩ := h
    obtain ⟨vs, q, z, w⟩ := g.cell n a xs i e
    exact ⟨a, vs, rfl, q, w, z⟩
  | _ => cases e
def rAdds (K : Fg) : R2 := fun x y H Q => rI0 (fun i j => .int (i + j)) x y H Q ∨ (∃ i j, x = .str i ∧ y = .str j ∧ i.length + j.length ≤ sizeLine ∧ Q (.str (i ++ j)) H) ∨ rCatA K x y H Q ∨ rCat x y H Q
theorem op_adds {X : Cx} : OpR X (binaryOp .Add) (rAdds X.K) := op_add.or (op_add_str.or (op_catA.or op_cat))
theorem od_add : OpD K oAdd (rAdds K) := by
  intro r m st H dx dy d x y Q g hx hy e q
  unfold oAdd at e
  split at e
  · cases e; cases hx; cases hy
    exact .inl ⟨_, _, rfl, rfl, q m H _ (Le.refl m H) g rfl⟩
  · split at e
    · next hz =>
      cases e; cases hx; cases hy
      exact .inr (.inl ⟨_, _, rfl, rfl, fits_line hz, q m H _ (Le.refl m H) g rfl⟩)
    · cases e
  · split at e
    · next xs ys hz =>
      cases e
      have hx0 := hx
      have hy0 := hy
      obtain ⟨a, vs, rfl, i1, q1⟩ := hx
      obtain ⟨b, ws, rfl, i2, q2⟩ := hy
      have z : vs.length + ws.length ≤ sizeLine := by
        rw [← q1.len, ← q2.len]
        exact fits_line hz
      refine .inr (.inr (.inl ⟨a, b, vs, ws, rfl, rfl, i1.sq, i2.sq, z, fun e0 => ?_, fun _ e0 => ?_, fun _ _ p np => ?_⟩))
      · have e1 : xs = [] := by
          rw [e0] at q1
          have := q1.len
          exact List.length_eq_zero_iff.mp this
        rw [e1] at q
        exact q m H _ (Le.refl m H) g hy0
      · have e1 : ys = [] := by
          rw [e0] at q2
          have := q2.len
          exact List.length_eq_zero_iff.mp this
        rw [e1, List.append_nil] at q
        exact q m H _ (Le.refl m H) g hx0
      · have l2 : Le m H m (upd H p (.tup (vs ++ ws))) := le_upd np
        exact q m _ _ l2 (g.upd np) ⟨p, _, rfl, .inl ⟨upd_same, g.fresh np, by rw [List.length_append]; exact z⟩, (q1.append q2).mono l2⟩
    · cases e
  · obtain ⟨xs, e1, e⟩ := Option.bind_eq_some_iff.mp e
    obtain ⟨ys, e2, e⟩ := Option.bind_eq_some_iff.mp e
    split at e
    · next hz =>
      cases e
      obtain ⟨a, vs, rfl, i1, q1, z1⟩ := lst_list0 g hx e1
      obtain ⟨b, ws, rfl, i2, q2, z2⟩ := lst_list0 g hy e2
      have z : vs.length + ws.length ≤ sizeLine := by
        rw [← q1.len, ← q2.len]
        exact fits_line hz
      refine .inr (.inr (.inr ⟨a, b, vs, ws, rfl, rfl, i1, i2, z, fun p np => ?_⟩))
      have l2 : Le m H m (upd H p (.lst (vs ++ ws))) := le_upd np
      exact q m _ _ l2 (g.upd np) ⟨p, _, rfl, upd_same, g.fresh np, by rw [List.length_append]; exact z, (q1.append q2).mono l2⟩
    · cases e
/-- the sum of two lists as a new cell -/
def eCat (fa fb : DE) : DE := fun env st => (fa env st).bind fun p => (fb env p.2).bind fun q => (lstOf q.2 p.1).bind fun xs => (lstOf q.2 q.1).bind fun ys => if fits (xs.length + ys.length) then some (.loc q.2.length, q.2 ++ [xs ++ ys]) else none
theorem t_cat {σ : L2.St} {H : Hp} {Q : VK} {fa fb : DE} (h : tE K (eCat fa fb) σ H Q) : tOp (rAdds K) (tE K fa) (tE K fb) σ H Q := by
  obtain ⟨r, m, st, env, d, st', g, e, f, q⟩ := h
  unfold eCat at f
  obtain ⟨⟨x, s1⟩, f1, f⟩ := Option.bind_eq_some_iff.mp f
  obtain ⟨⟨y, s2⟩, f2, f⟩ := Option.bind_eq_some_iff.mp f
  obtain ⟨xs, f3, f⟩ := Option.bind_eq_some_iff.mp f
  obtain ⟨ys, f4, f⟩ := Option.bind_eq_some_iff.mp f
  split at f
  · next hz =>
    cases f
    refine ⟨r, m, st, env, x, s1, g, e, f1, fun m1 H1 v1 l1 g1 d1 => ?_⟩
    refine ⟨r, m1, s1, env, y, s2, g1, e.mono l1, f2, fun m2 H2 v2 l2 g2 d2 => ?_⟩
    obtain ⟨a, vs, rfl, i1, q1, z1⟩ := lst_list0 g2 (d1.mono l2) f3
    obtain ⟨b, ws, rfl, i2, q2, z2⟩ := lst_list0 g2 d2 f4
    have z : vs.length + ws.length ≤ sizeLine := by
      rw [← q1.len, ← q2.len]
      exact fits_line hz
    refine .inr (.inr (.inr ⟨a, b, vs, ws, rfl, rfl, i1, i2, z, fun p np => ?_⟩))
    obtain ⟨l3, g3, d3⟩ := new_cell g2 np (by rw [List.length_append]; exact z) (q1.append q2)
    exact q _ _ (.ref p) ((l1.trans l2).trans l3) g3 d3
  · cases f
theorem od_sub : OpD K oSub (rI0 fun i j => .int (i - j)) := by
  intro r m st H dx dy d x y Q g hx hy e q
  unfold oSub at e
  split at e
  · cases e; cases hx; cases hy
    exact ⟨_, _, rfl, rfl, q m H _ (Le.refl m H) g rfl⟩
  · cases e
theorem Dens.rep {ds : List D} {vs : List V} (h : Dens K r m H ds vs) : ∀ k : Nat, Dens K r m H (List.replicate k ds).flatten (List.replicate k vs).flatten
  | 0 => rfl
  | k + 1 => by
    rw [List.replicate_succ, List.replicate_succ, List.flatten_cons, List.flatten_cons]
    exact h.append (Dens.rep h k)
def rMuls (K : Fg) : R2 := fun x y H Q => rI CMul (fun i j => .int (i * j)) x y H Q ∨ rRep x y H Q
theorem op_muls {X : Cx} : OpR X (binaryOp .Mult) (rMuls X.K) := op_mul.or op_rep
theorem od_mul : OpD K oMul (rMuls K) := by
  intro r m st H dx dy d x y Q g hx hy e q
  unfold oMul at e
  split at e
  · split at e
    · next i j hc =>
      cases e; cases hx; cases hy
      refine .inl ⟨_, _, rfl, rfl, ?_, q m H _ (Le.refl m H) g rfl⟩
      unfold mulOk at hc
      rcases Bool.or_eq_true_iff.mp hc with h | h
      · exact .inl (natAbs64 (of_decide_eq_true h))
      · exact .inr (natAbs64 (of_decide_eq_true h))
    · cases e
  · split at e
    · next xs k hc =>
      cases e
      cases hy
      obtain ⟨a, vs, rfl, i1, n1, z1, q1⟩ := hx
      simp only [Bool.and_eq_true, decide_eq_true_eq] at hc
      obtain ⟨⟨h1, h2⟩, h3⟩ := hc
      have z : vs.length * k.toNat ≤ sizeLine := by
        rw [← q1.len]
        exact fits_line h1
      have e62 : (2 : Int) ^ 63 = 9223372036854775808 := by decide
      refine .inr ⟨a, k, vs, rfl, rfl, i1, by rw [e62]; omega, by rw [e62]; omega, z, fun p np => ?_⟩
      have l2 : Le m H m (upd H p (.lst (List.replicate k.toNat vs).flatten)) := le_upd np
      refine q m _ _ l2 (g.upd np) ⟨p, _, rfl, upd_same, g.fresh np, ?_, (q1.rep _).mono l2⟩
      rw [List.length_flatten, List.map_replicate, List.sum_replicate_nat]
      rw [Nat.mul_comm]
      exact z
    · cases e
  · cases e
/-- a list repeated, as a new cell -/
def repC (st : Sto) (x : D) : D → Option (List D)
  | .int k => (lstOf st x).bind fun xs => if fits (xs.length * k.toNat) && decide (-1000000 ≤ k) && decide (k ≤ 1000000) then some (List.replicate k.toNat xs).flatten else none
  | _ => none
def eRepM (fa fb : DE) : DE := fun env st => (fa env st).bind fun p => (fb env p.2).bind fun q => (repC q.2 p.1 q.1).map fun c => (.loc q.2.length, q.2 ++ [c])
theorem rep_cell {x y : D} {v w : V} {c : List D} {Q : VK} (g : Good K r m st H) (hx : Den K r m H x v) (hy : Den K r m H y w) (e : repC st x y = some c) (q : ∀ m' H' u, Le m H m' H' → Good K r m' (st ++ [c]) H' → Den K r m' H' (.loc st.length) u → Q u H') : rMuls K v w H Q := by
  unfold repC at e
  split at e
  · next k =>
    obtain ⟨xs, e1, e⟩ := Option.bind_eq_some_iff.mp e
    split at e
    · next hc =>
      cases e
      cases hy
      obtain ⟨a, vs, rfl, i1, q1, z1⟩ := lst_list0 g hx e1
      simp only [Bool.and_eq_true, decide_eq_true_eq] at hc
      obtain ⟨⟨h1, h2⟩, h3⟩ := hc
      have z : vs.length * k.toNat ≤ sizeLine := by
        rw [← q1.len]
        exact fits_line h1
      have e62 : (2 : Int) ^ 63 = 9223372036854775808 := by decide
      refine .inr ⟨a, k, vs, rfl, rfl, i1, by rw [e62]; omega, by rw [e62]; omega, z, fun p np => ?_⟩
      obtain ⟨l3, g3, d3⟩ := new_cell g np (by rw [List.length_flatten, List.map_replicate, List.sum_replicate_nat, Nat.mul_comm]; exact z) (q1.rep k.toNat)
      exact q _ _ (.ref p) l3 g3 d3
    · cases e
  · cases e
theorem t_repM {σ : L2.St} {H : Hp} {Q : VK} {fa fb : DE} (h : tE K (eRepM fa fb) σ H Q) : tOp (rMuls K) (tE K fa) (tE K fb) σ H Q := by
  obtain ⟨r, m, st, env, d, st', g, e, f, q⟩ := h
  unfold eRepM at f
  obtain ⟨⟨x, s1⟩, f1, f⟩ := Option.bind_eq_some_iff.mp f
  obtain ⟨⟨y, s2⟩, f2, f⟩ := Option.bind_eq_some_iff.mp f
  obtain ⟨c, f3, f⟩ := Option.map_eq_some_iff.mp f
  cases f
  refine ⟨r, m, st, env, x, s1, g, e, f1, fun m1 H1 v1 l1 g1 d1 => ?_⟩
  refine ⟨r, m1, s1, env, y, s2, g1, e.mono l1, f2, fun m2 H2 v2 l2 g2 d2 => ?_⟩
  exact rep_cell g2 (d1.mono l2) d2 f3 fun m3 H3 u l3 g3 d3 => q m3 H3 u ((l1.trans l2).trans l3) g3 d3
theorem od_div : OpD K oDiv (rI CDivW fun i j => .int (i / j)) := by
  intro r m st H dx dy d x y Q g hx hy e q
  unfold oDiv at e
  split at e
  · split at e
    · next i j hc =>
      cases e; cases hx; cases hy
      unfold divOk at hc
      simp only [Bool.and_eq_true, decide_eq_true_eq] at hc
      exact ⟨_, _, rfl, rfl, wide_div hc.1 hc.2 (by decide) (by decide), q m H _ (Le.refl m H) g rfl⟩
    · cases e
  · cases e
theorem od_mod : OpD K oMod (rI (fun _ j => 0 < j) fun i j => .int (i % j)) := by
  intro r m st H dx dy d x y Q g hx hy e q
  unfold oMod at e
  split at e
  · split at e
    · next i j hc =>
      cases e; cases hx; cases hy
      exact ⟨_, _, rfl, rfl, of_decide_eq_true hc, q m H _ (Le.refl m H) g rfl⟩
    · cases e
  · cases e
theorem od_pow : OpD K oPow (rI CPow fun i j => .int (i ^ j.toNat)) := by
  intro r m st H dx dy d x y Q g hx hy e q
  unfold oPow at e
  split at e
  · split at e
    · next i j hc =>
      cases e; cases hx; cases hy
      unfold powOk at hc
      simp only [Bool.and_eq_true, decide_eq_true_eq] at hc
      exact ⟨_, _, rfl, rfl, ⟨hc.1.1, hc.1.2, hc.2⟩, q m H _ (Le.refl m H) g rfl⟩
    · cases e
  · cases e
def rEqs (K : Fg) : R2 := fun x y H Q => rEq x y H Q ∨ rEqP K x y H Q
def rNes (K : Fg) : R2 := fun x y H Q => rNe x y H Q ∨ rNeP K x y H Q
theorem op_eqs {X : Cx} (hu : X.A.units + 64 < cLine) : OpR X (compareOp .Eq) (rEqs X.K) := op_eq.or (op_eqP hu)
theorem op_nes {X : Cx} (hu : X.A.units + 64 < cLine) : OpR X (compareOp .NotEq) (rNes X.K) := op_ne.or (op_neP hu)
theorem dec_vint {i j : Int} : decide (V.int i = V.int j) = decide (i = j) := by
  by_cases h : i = j
  · subst h; simp
  · have : V.int i ≠ V.int j := fun z => h (V.int.inj z)
    simp [h, this]
theorem dec_vstr {i j : Str} : decide (V.str i = V.str j) = decide (i = j) := by
  by_cases h : i = j
  · subst h; simp
  · have : V.str i ≠ V.str j := fun z => h (V.str.inj z)
    simp [h, this]
theorem sees_res {d : D} {v : V} (g : Good K r m st H) (h : Den K r m H d v) : Sees K H (resD st d) v := by
  cases d with
  | loc n =>
    obtain ⟨a, rfl, i⟩ := h
    have hi : n < st.length := by
      rw [← g.len]
      exact (List.getElem?_eq_some_iff.mp i).1
    obtain ⟨xs, q, _, dd⟩ := g.cell n a _ i (List.getElem?_eq_getElem hi)
    refine ⟨r, m, .inr ⟨st[n], a, xs, ?_, rfl, q, dd⟩⟩
    show (match st[n]? with | some xs => D.lst xs | none => D.loc n) = _
    rw [List.getElem?_eq_getElem hi]
  | _ => exact ⟨r, m, .inl h⟩
theorem od_eq : OpD K oEq (rEqs K) := by
  intro r m st H dx dy d x y Q g hx hy e q
  unfold oEq at e
  split at e
  · cases e; cases hx; cases hy
    refine .inl ⟨rfl, ?_⟩
    rw [dec_vint]
    exact q m H _ (Le.refl m H) g rfl
  · cases e; cases hx; cases hy
    refine .inl ⟨rfl, ?_⟩
    rw [dec_vstr]
    exact q m H _ (Le.refl m H) g rfl
  · split at e
    · next hc =>
      cases e
      rw [Bool.and_eq_true] at hc
      exact .inr ⟨_, _, sees_res g hx, sees_res g hy, hc.1, hc.2, q m H _ (Le.refl m H) g rfl⟩
    · cases e
theorem od_ne : OpD K oNe (rNes K) := by
  intro r m st H dx dy d x y Q g hx hy e q
  unfold oNe at e
  split at e
  · cases e; cases hx; cases hy
    refine .inl ⟨rfl, ?_⟩
    rw [dec_vint]
    exact q m H _ (Le.refl m H) g rfl
  · cases e; cases hx; cases hy
    refine .inl ⟨rfl, ?_⟩
    rw [dec_vstr]
    exact q m H _ (Le.refl m H) g rfl
  · split at e
    · next hc =>
      cases e
      rw [Bool.and_eq_true] at hc
      exact .inr ⟨_, _, sees_res g hx, sees_res g hy, hc.1, hc.2, q m H _ (Le.refl m H) g rfl⟩
    · cases e
theorem od_lt : OpD K oLt (rI0 fun i j => .bl (decide (i < j))) := by
  intro r m st H dx dy d x y Q g hx hy e q
  unfold oLt at e
  split at e
  · cases e; cases hx; cases hy
    exact ⟨_, _, rfl, rfl, q m H _ (Le.refl m H) g rfl⟩
  · cases e
theorem od_le : OpD K oLe (rI0 fun i j => .bl (decide (i ≤ j))) := by
  intro r m st H dx dy d x y Q g hx hy e q
  unfold oLe at e
  split at e
  · cases e; cases hx; cases hy
    exact ⟨_, _, rfl, rfl, q m H _ (Le.refl m H) g rfl⟩
  · cases e
theorem od_gt : OpD K oGt (rI0 fun i j => .bl (decide (j < i))) := by
  intro r m st H dx dy d x y Q g hx hy e q
  unfold oGt at e
  split at e
  · cases e; cases hx; cases hy
    exact ⟨_, _, rfl, rfl, q m H _ (Le.refl m H) g rfl⟩
  · cases e
theorem od_ge : OpD K oGe (rI0 fun i j => .bl (decide (j ≤ i))) := by
  intro r m st H dx dy d x y Q g hx hy e q
  unfold oGe at e
  split at e
  · cases e; cases hx; cases hy
    exact ⟨_, _, rfl, rfl, q m H _ (Le.refl m H) g rfl⟩
  · cases e
theorem isNon_iff {d : D} {v : V} (h : Den K r m H d v) : decide (v = V.non) = isNon d := by
  cases d with
  | non => cases h; rfl
  | bl b => cases h; rfl
  | int i => cases h; rfl
  | str x => cases h; rfl
  | tup ds => obtain ⟨a, xs, rfl, _⟩ := h; rfl
  | lst ds => obtain ⟨a, xs, rfl, _⟩ := h; rfl
  | scr ds => obtain ⟨a, xs, rfl, _⟩ := h; rfl
  | dic => obtain ⟨a, rfl, _⟩ := h; rfl
  | loc n => obtain ⟨a, rfl, _⟩ := h; rfl
theorem od_is : OpD K oIs (fun x y H Q => (y = .non ∧ Q (.bl (decide (x = .non))) H) ∨ rIsB x y H Q) := by
  intro r m st H dx dy d x y Q g hx hy e q
  unfold oIs at e
  split at e
  · cases e; cases hy
    refine .inl ⟨rfl, ?_⟩
    rw [isNon_iff hx]
    exact q m H _ (Le.refl m H) g rfl
  · cases e; cases hx; cases hy
    exact .inr ⟨_, _, rfl, rfl, q m H _ (Le.refl m H) g rfl⟩
  · cases e
theorem od_isnot : OpD K oIsNot (fun x y H Q => (y = .non ∧ Q (.bl (!decide (x = .non))) H) ∨ rNotB x y H Q) := by
  intro r m st H dx dy d x y Q g hx hy e q
  unfold oIsNot at e
  split at e
  · cases e; cases hy
    refine .inl ⟨rfl, ?_⟩
    rw [isNon_iff hx]
    exact q m H _ (Le.refl m H) g rfl
  · cases e; cases hx; cases hy
    exact .inr ⟨_, _, rfl, rfl, q m H _ (Le.refl m H) g rfl⟩
  · cases e
theorem od_ix : OpD K oIx (rIx K) := by
  intro r m st H dx dy d x y Q g hx hy e q
  unfold oIx at e
  split at e
  · split at e
    · next z i hz =>
      obtain ⟨c, e1, e2⟩ := Option.map_eq_some_iff.mp e
      subst e2
      cases hx; cases hy
      exact .inr (.inr ⟨z, i, c, rfl, rfl, fits_line hz, e1, q m H _ (Le.refl m H) g rfl⟩)
    · cases e
  · next i _ =>
    obtain ⟨xs, e1, e2⟩ := Option.bind_eq_some_iff.mp e
    cases hy
    obtain ⟨a, vs, rfl, s, dd, _⟩ := seq_list g hx e1
    obtain ⟨v, ev, dv⟩ := at_den dd e2
    rcases s with s | s
    · exact .inl ⟨a, vs, i, v, rfl, rfl, s, ev, q m H _ (Le.refl m H) g dv⟩
    · exact .inr (.inl ⟨a, vs, i, v, rfl, rfl, s, ev, q m H _ (Le.refl m H) g dv⟩)
  · cases e
theorem flat_den {d : D} {v w : V} (h : Den K r m H d v) (e : flatD d = some w) : v = w ∧ flatV w = true := by
  cases d with
  | non => cases e; cases h; exact ⟨rfl, rfl⟩
  | bl b => cases e; cases h; exact ⟨rfl, rfl⟩
  | int i => cases e; cases h; exact ⟨rfl, rfl⟩
  | str x => cases e; cases h; exact ⟨rfl, rfl⟩
  | _ => cases e
theorem flats_den : ∀ {ds : List D} {vs ws : List V}, Dens K r m H ds vs → flatDs ds = some ws → vs = ws ∧ ws.all flatV = true
  | [], _, _, h, e => by
    cases h; cases e
    exact ⟨rfl, rfl⟩
  | d :: ds, _, _, h, e => by
    obtain ⟨x, tl, rfl, a, b⟩ := h
    unfold flatDs at e
    obtain ⟨v, e1, e⟩ := Option.bind_eq_some_iff.mp e
    obtain ⟨us, e2, e3⟩ := Option.map_eq_some_iff.mp e
    subst e3
    obtain ⟨rfl, f⟩ := flat_den a e1
    obtain ⟨rfl, fs⟩ := flats_den b e2
    exact ⟨rfl, by rw [List.all_cons, f, fs]; rfl⟩
theorem od_in (neg : Bool) : OpD K (oInS neg) (rIn K neg) := by
  intro r m st H dx dy d x y Q g hx hy e q
  unfold oInS at e
  obtain ⟨xs, e1, e⟩ := Option.bind_eq_some_iff.mp e
  obtain ⟨v, e2, e⟩ := Option.bind_eq_some_iff.mp e
  obtain ⟨vs, e3, e4⟩ := Option.map_eq_some_iff.mp e
  subst e4
  obtain ⟨a, ws, rfl, s, dd, _⟩ := seq_list g hy e1
  obtain ⟨rfl, f⟩ := flat_den hx e2
  obtain ⟨rfl, fs⟩ := flats_den dd e3
  exact ⟨a, ws, rfl, s, f, fs, q m H _ (Le.refl m H) g rfl⟩
def oNeg : D → Option D
  | .int i => some (.int (-i))
  | _ => none
theorem ud_neg : UnD K oNeg (rU fun i => .int (-i)) := by
  intro r m st H dx d x Q g hx e q
  unfold oNeg at e
  split at e
  · cases e; cases hx
    exact ⟨_, rfl, q m H _ (Le.refl m H) g rfl⟩
  · cases e

/-! ### built-ins -/
def gLen (st : Sto) : List D → Option D
  | [.str z] => if fits z.length then some (.int z.length) else none
  | [d] => (seqOf st d).map fun xs => .int xs.length
  | _ => none
def rLens (K : Fg) : List V → Hp → VK → Prop := fun xs H Q => (∃ p ys, xs = [.ref p] ∧ (SqL K H p ys ∨ SqT K H p ys) ∧ Q (.int ys.length) H) ∨ (∃ z, xs = [.str z] ∧ z.length ≤ sizeLine ∧ Q (.int z.length) H)
theorem cr_lens {X : Cx} : CallR X (.builtin "len") (rLens X.K) := call_len_seq.or call_len_str
theorem cd_len : CallD K gLen (rLens K) := by
  intro r m st H ds d vs Q g h e q
  unfold gLen at e
  split at e
  · split at e
    · next z hz =>
      cases e
      obtain ⟨x, tl, rfl, a, b⟩ := h
      cases a; cases b
      exact .inr ⟨z, rfl, fits_line hz, q m H _ (Le.refl m H) g rfl⟩
    · cases e
  · next d' _ =>
    obtain ⟨xs, e1, e2⟩ := Option.map_eq_some_iff.mp e
    subst e2
    obtain ⟨x, tl, rfl, a, b⟩ := h
    cases b
    obtain ⟨p, ws, rfl, s, dd, _⟩ := seq_list g a e1
    rw [dd.len] at q
    exact .inl ⟨p, ws, rfl, s, q m H _ (Le.refl m H) g rfl⟩
  · cases e
def gMin2 (_ : Sto) : List D → Option D
  | [.int i, .int j] => some (.int (if j < i then j else i))
  | _ => none
def gMax2 (_ : Sto) : List D → Option D
  | [.int i, .int j] => some (.int (if j > i then j else i))
  | _ => none
theorem cd_min2 : CallD K gMin2 (fun xs H Q => ∃ i j, xs = [.int i, .int j] ∧ Q (.int (if j < i then j else i)) H) := by
  intro r m st H ds d vs Q g h e q
  unfold gMin2 at e
  split at e
  · cases e
    obtain ⟨x, tl, rfl, a, y, s, rfl, b, c⟩ := h
    cases a; cases b; cases c
    exact ⟨_, _, rfl, q m H _ (Le.refl m H) g rfl⟩
  · cases e
theorem cd_max2 : CallD K gMax2 (fun xs H Q => ∃ i j, xs = [.int i, .int j] ∧ Q (.int (if j > i then j else i)) H) := by
  intro r m st H ds d vs Q g h e q
  unfold gMax2 at e
  split at e
  · cases e
    obtain ⟨x, tl, rfl, a, y, s, rfl, b, c⟩ := h
    cases a; cases b; cases c
    exact ⟨_, _, rfl, q m H _ (Le.refl m H) g rfl⟩
  · cases e
def intsOf : List D → Option (List Int)
  | [] => some []
  | .int i :: ds => (intsOf ds).map fun r => i :: r
  | _ => none
def blsOf : List D → Option (List Bool)
  | [] => some []
  | .bl b :: ds => (blsOf ds).map fun r => b :: r
  | _ => none
theorem intsOf_eq : ∀ {ds : List D} {ns : List Int}, intsOf ds = some ns → ds = ns.map D.int
  | [], _, e => by cases e; rfl
  | d :: ds, ns, e => by
    unfold intsOf at e
    split at e
    · next h => cases h
    · next i ds' h =>
      cases h
      obtain ⟨r, e1, e2⟩ := Option.map_eq_some_iff.mp e
      subst e2
      rw [intsOf_eq e1]
      rfl
    · cases e
theorem blsOf_eq : ∀ {ds : List D} {ns : List Bool}, blsOf ds = some ns → ds = ns.map D.bl
  | [], _, e => by cases e; rfl
  | d :: ds, ns, e => by
    unfold blsOf at e
    split at e
    · next h => cases h
    · next i ds' h =>
      cases h
      obtain ⟨r, e1, e2⟩ := Option.map_eq_some_iff.mp e
      subst e2
      rw [blsOf_eq e1]
      rfl
    · cases e
theorem intsOf_map (ns : List Int) : intsOf (ns.map D.int) = some ns := by
  induction ns with
  | nil => rfl
  | cons n ns ih =>
    rw [List.map_cons]
    unfold intsOf
    rw [ih]
    rfl
theorem blsOf_map (ns : List Bool) : blsOf (ns.map D.bl) = some ns := by
  induction ns with
  | nil => rfl
  | cons n ns ih =>
    rw [List.map_cons]
    unfold blsOf
    rw [ih]
    rfl
/-- the items of a list (no tuple) -/
theorem lst_list {d : D} {xs : List D} {v : V} (g : Good K r m st H) (h : Den K r m H d v) (e : lstOf st d = some xs) :
    ∃ a vs, v = .ref a ∧ H a = some (.lst vs) ∧ Dens K r m H xs vs ∧ vs.length ≤ sizeLine := by
  cases d with
  | lst ds =>
    cases e
    obtain ⟨a, vs, rfl, i, _, z, q⟩ := h
    exact ⟨a, vs, rfl, i, q, z⟩
  | loc n =>
    obtain ⟨a, rfl, i⟩ := h
    obtain ⟨vs, q, z, r⟩ := g.cell n a xs i e
    exact ⟨a, vs, rfl, q, r, z⟩
  | _ => cases e
def gSum (st : Sto) : List D → Option D
  | [d] => (lstOf st d).bind fun xs => (intsOf xs).map fun ns => .int ns.sum
  | _ => none
theorem cd_sum : CallD K gSum (rSum K) := by
  intro r m st H ds d vs Q g h e q
  unfold gSum at e
  split at e
  · obtain ⟨xs, e1, e⟩ := Option.bind_eq_some_iff.mp e
    obtain ⟨ns, e2, e3⟩ := Option.map_eq_some_iff.mp e
    subst e3
    obtain ⟨x, tl, rfl, a, b⟩ := h
    cases b
    obtain ⟨p, ws, rfl, s, dd, _⟩ := lst_list g a e1
    rw [intsOf_eq e2] at dd
    rw [dd.ints] at s
    exact ⟨p, ns, rfl, SqL.of s, q m H _ (Le.refl m H) g rfl⟩
  · cases e
def gAll (st : Sto) : List D → Option D
  | [d] => (lstOf st d).bind fun xs => (blsOf xs).map fun ns => .bl (ns.all id)
  | _ => none
theorem cd_all : CallD K gAll (rAll K) := by
  intro r m st H ds d vs Q g h e q
  unfold gAll at e
  split at e
  · obtain ⟨xs, e1, e⟩ := Option.bind_eq_some_iff.mp e
    obtain ⟨ns, e2, e3⟩ := Option.map_eq_some_iff.mp e
    subst e3
    obtain ⟨x, tl, rfl, a, b⟩ := h
    cases b
    obtain ⟨p, ws, rfl, s, dd, _⟩ := lst_list g a e1
    rw [blsOf_eq e2] at dd
    rw [dd.bls] at s
    exact ⟨p, ns, rfl, SqL.of s, q m H _ (Le.refl m H) g rfl⟩
  · cases e
def gAny (st : Sto) : List D → Option D
  | [d] => (lstOf st d).bind fun xs => (blsOf xs).map fun ns => .bl (ns.any id)
  | _ => none
theorem cd_any : CallD K gAny (rAny K) := by
  intro r m st H ds d vs Q g h e q
  unfold gAny at e
  split at e
  · obtain ⟨xs, e1, e⟩ := Option.bind_eq_some_iff.mp e
    obtain ⟨ns, e2, e3⟩ := Option.map_eq_some_iff.mp e
    subst e3
    obtain ⟨x, tl, rfl, a, b⟩ := h
    cases b
    obtain ⟨p, ws, rfl, s, dd, _⟩ := lst_list g a e1
    rw [blsOf_eq e2] at dd
    rw [dd.bls] at s
    exact ⟨p, ns, rfl, SqL.of s, q m H _ (Le.refl m H) g rfl⟩
  · cases e
/-- the greatest, the least of a list of ints -/
def maxOf : List Int → Int
  | [] => 0
  | [x] => x
  | x :: y :: r => max x (maxOf (y :: r))
def minOf : List Int → Int
  | [] => 0
  | [x] => x
  | x :: y :: r => min x (minOf (y :: r))
theorem maxOf_spec : ∀ (ns : List Int), 0 < ns.length → maxOf ns ∈ ns ∧ ∀ y ∈ ns, y ≤ maxOf ns
  | [], h => absurd h (by decide)
  | [x], _ => ⟨by simp [maxOf], fun y hy => by simp at hy; simp [maxOf, hy]⟩
  | x :: y :: r, _ => by
    obtain ⟨a, b⟩ := maxOf_spec (y :: r) (by simp)
    unfold maxOf
    refine ⟨?_, fun z hz => ?_⟩
    · by_cases h : x ≤ maxOf (y :: r)
      · rw [Int.max_eq_right h]
        exact List.mem_cons_of_mem _ a
      · rw [Int.max_eq_left (by omega)]
        exact List.mem_cons_self
    · rcases List.mem_cons.mp hz with rfl | hz
      · exact Int.le_max_left _ _
      · exact Int.le_trans (b z hz) (Int.le_max_right _ _)
theorem minOf_spec : ∀ (ns : List Int), 0 < ns.length → minOf ns ∈ ns ∧ ∀ y ∈ ns, minOf ns ≤ y
  | [], h => absurd h (by decide)
  | [x], _ => ⟨by simp [minOf], fun y hy => by simp at hy; simp [minOf, hy]⟩
  | x :: y :: r, _ => by
    obtain ⟨a, b⟩ := minOf_spec (y :: r) (by simp)
    unfold minOf
    refine ⟨?_, fun z hz => ?_⟩
    · by_cases h : x ≤ minOf (y :: r)
      · rw [Int.min_eq_left h]
        exact List.mem_cons_self
      · rw [Int.min_eq_right (by omega)]
        exact List.mem_cons_of_mem _ a
    · rcases List.mem_cons.mp hz with rfl | hz
      · exact Int.min_le_left _ _
      · exact Int.le_trans (Int.min_le_right _ _) (b z hz)
/-! ### least and greatest of a tuple -/
def rMaxT (K : Fg) : List V → Hp → VK → Prop := fun vs H Q => ∃ (a : Addr) (ns : List Int), vs = [V.ref a] ∧ SqT K H a (ns.map V.int) ∧ 0 < ns.length ∧ ∀ m, m ∈ ns → (∀ y, y ∈ ns → y ≤ m) → Q (.int m) H
def rMinT (K : Fg) : List V → Hp → VK → Prop := fun vs H Q => ∃ (a : Addr) (ns : List Int), vs = [V.ref a] ∧ SqT K H a (ns.map V.int) ∧ 0 < ns.length ∧ ∀ m, m ∈ ns → (∀ y, y ∈ ns → m ≤ y) → Q (.int m) H
theorem reads_ints (h : Heap) : ∀ {ns : List Int} {us : List Value}, Vals (ns.map V.int) us → PySem.W.HoldAll h us ns
  | [], _, r => by
    cases r
    exact ⟨_, .nil⟩
  | n :: ns, _, r => by
    cases r with
    | cons a b =>
      obtain ⟨t, rfl⟩ := a
      obtain ⟨as, q⟩ := reads_ints h b
      exact ⟨_, .cons (.int n t) q⟩
theorem fold_min : ∀ (xs : List Int) (x : Int), (PySem.W.minOf x xs ∈ x :: xs) ∧ ∀ y ∈ x :: xs, PySem.W.minOf x xs ≤ y
  | [], x => ⟨List.mem_cons_self, fun y hy => by rw [List.mem_singleton.mp hy]; exact Int.le_refl _⟩
  | z :: xs, x => by
    have e : PySem.W.minOf x (z :: xs) = PySem.W.minOf (if decide (z < x) = true then z else x) xs := rfl
    rw [e]
    by_cases h : z < x
    · rw [decide_eq_true h, if_pos rfl]
      obtain ⟨a, b⟩ := fold_min xs z
      refine ⟨List.mem_cons_of_mem _ a, fun y hy => ?_⟩
      rcases List.mem_cons.mp hy with e | hy
      · have := b z List.mem_cons_self
        omega
      · exact b y hy
    · rw [decide_eq_false h, if_neg Bool.false_ne_true]
      obtain ⟨a, b⟩ := fold_min xs x
      refine ⟨?_, fun y hy => ?_⟩
      · rcases List.mem_cons.mp a with e | e
        · rw [e]; exact List.mem_cons_self
        · exact List.mem_cons_of_mem _ (List.mem_cons_of_mem _ e)
      · rcases List.mem_cons.mp hy with e | hy
        · rw [e]; exact b x List.mem_cons_self
        · rcases List.mem_cons.mp hy with e | hy
          · have := b x List.mem_cons_self
            omega
          · exact b y (List.mem_cons_of_mem _ hy)
theorem fold_max : ∀ (xs : List Int) (x : Int), (PySem.W.maxOf x xs ∈ x :: xs) ∧ ∀ y ∈ x :: xs, y ≤ PySem.W.maxOf x xs
  | [], x => ⟨List.mem_cons_self, fun y hy => by rw [List.mem_singleton.mp hy]; exact Int.le_refl _⟩
  | z :: xs, x => by
    have e : PySem.W.maxOf x (z :: xs) = PySem.W.maxOf (if decide (x < z) = true then z else x) xs := rfl
    rw [e]
    by_cases h : x < z
    · rw [decide_eq_true h, if_pos rfl]
      obtain ⟨a, b⟩ := fold_max xs z
      refine ⟨List.mem_cons_of_mem _ a, fun y hy => ?_⟩
      rcases List.mem_cons.mp hy with e | hy
      · have := b z List.mem_cons_self
        omega
      · exact b y hy
    · rw [decide_eq_false h, if_neg Bool.false_ne_true]
      obtain ⟨a, b⟩ := fold_max xs x
      refine ⟨?_, fun y hy => ?_⟩
      · rcases List.mem_cons.mp a with e | e
        · rw [e]; exact List.mem_cons_self
        · exact List.mem_cons_of_mem _ (List.mem_cons_of_mem _ e)
      · rcases List.mem_cons.mp hy with e | hy
        · rw [e]; exact b x List.mem_cons_self
        · rcases List.mem_cons.mp hy with e | hy
          · have := b x List.mem_cons_self
            omega
          · exact b y (List.mem_cons_of_mem _ hy)
theorem cr_minT {X : Cx} (hc : X.calm = true) (hu : X.A.units + 64 < cLine) : CallR X (.builtin "min") (rMinT X.K) := by
  rintro pins s σ H _ us Q I r ⟨a, ns, rfl, sq, hne, q⟩
  obtain ⟨its, rv, tup, _⟩ := I.tuple sq
  rw [Vals.ref1 r]
  match ns, hne, rv, q with
  | n :: ms, _, rv, q =>
    refine PySem.W.min_tuple_datum (x := n) (xs := ms) (I.ok.hd hc) tup (by simpa using reads_ints s.heap rv) (Nat.lt_of_le_of_lt (Nat.add_le_add_left (show 1 + 0 ≤ 64 by decide) _) hu) fun i v h' tk _ hv hk => ?_
    obtain ⟨bs, hv⟩ := hv
    have hv : Reads h' v (.int (PySem.W.minOf n ms)) bs := hv
    cases hv
    exact ⟨.int _, H, I.kept hk, ⟨_, rfl⟩, q _ (fold_min ms n).1 (fold_min ms n).2⟩
theorem cr_maxT {X : Cx} (hc : X.calm = true) (hu : X.A.units + 64 < cLine) : CallR X (.builtin "max") (rMaxT X.K) := by
  rintro pins s σ H _ us Q I r ⟨a, ns, rfl, sq, hne, q⟩
  obtain ⟨its, rv, tup, _⟩ := I.tuple sq
  rw [Vals.ref1 r]
  match ns, hne, rv, q with
  | n :: ms, _, rv, q =>
    refine PySem.W.max_tuple_datum (x := n) (xs := ms) (I.ok.hd hc) tup (by simpa using reads_ints s.heap rv) (Nat.lt_of_le_of_lt (Nat.add_le_add_left (show 1 + 0 ≤ 64 by decide) _) hu) fun i v h' tk _ hv hk => ?_
    obtain ⟨bs, hv⟩ := hv
    have hv : Reads h' v (.int (PySem.W.maxOf n ms)) bs := hv
    cases hv
    exact ⟨.int _, H, I.kept hk, ⟨_, rfl⟩, q _ (fold_max ms n).1 (fold_max ms n).2⟩
def gMaxL (st : Sto) : List D → Option D
  | [d] => (seqOf st d).bind fun xs => (intsOf xs).bind fun ns => if ns.isEmpty then none else some (.int (maxOf ns))
  | _ => none
def gMinL (st : Sto) : List D → Option D
  | [d] => (seqOf st d).bind fun xs => (intsOf xs).bind fun ns => if ns.isEmpty then none else some (.int (minOf ns))
  | _ => none
theorem cd_maxL : CallD K gMaxL (fun vs H Q => rMax K vs H Q ∨ rMaxT K vs H Q) := by
  intro r m st H ds d vs Q g h e q
  unfold gMaxL at e
  split at e
  · obtain ⟨xs, e1, e⟩ := Option.bind_eq_some_iff.mp e
    obtain ⟨ns, e2, e3⟩ := Option.bind_eq_some_iff.mp e
    split at e3
    · cases e3
    · next hne =>
      cases e3
      obtain ⟨x, tl, rfl, a, b⟩ := h
      cases b
      obtain ⟨p, ws, rfl, s, dd, _⟩ := seq_list g a e1
      rw [intsOf_eq e2] at dd
      rw [dd.ints] at s
      have hl : 0 < ns.length := by
        cases ns with
        | nil => exact absurd rfl hne
        | cons _ _ => simp
      have fin : ∀ w, w ∈ ns → (∀ y, y ∈ ns → y ≤ w) → Q (.int w) H := fun w hw hle => by
        obtain ⟨a1, a2⟩ := maxOf_spec ns hl
        have ew : w = maxOf ns := Int.le_antisymm (a2 w hw) (hle _ a1)
        rw [ew]
        exact q m H _ (Le.refl m H) g rfl
      rcases s with s | s
      · exact .inl ⟨p, ns, rfl, s, hl, fin⟩
      · exact .inr ⟨p, ns, rfl, s, hl, fin⟩
  · cases e
theorem cd_minL : CallD K gMinL (fun vs H Q => rMin K vs H Q ∨ rMinT K vs H Q) := by
  intro r m st H ds d vs Q g h e q
  unfold gMinL at e
  split at e
  · obtain ⟨xs, e1, e⟩ := Option.bind_eq_some_iff.mp e
    obtain ⟨ns, e2, e3⟩ := Option.bind_eq_some_iff.mp e
    split at e3
    · cases e3
    · next hne =>
      cases e3
      obtain ⟨x, tl, rfl, a, b⟩ := h
      cases b
      obtain ⟨p, ws, rfl, s, dd, _⟩ := seq_list g a e1
      rw [intsOf_eq e2] at dd
      rw [dd.ints] at s
      have hl : 0 < ns.length := by
        cases ns with
        | nil => exact absurd rfl hne
        | cons _ _ => simp
      have fin : ∀ w, w ∈ ns → (∀ y, y ∈ ns → w ≤ y) → Q (.int w) H := fun w hw hle => by
        obtain ⟨a1, a2⟩ := minOf_spec ns hl
        have ew : w = minOf ns := Int.le_antisymm (hle _ a1) (a2 w hw)
        rw [ew]
        exact q m H _ (Le.refl m H) g rfl
      rcases s with s | s
      · exact .inl ⟨p, ns, rfl, s, hl, fin⟩
      · exact .inr ⟨p, ns, rfl, s, hl, fin⟩
  · cases e
/-- tuple(x) -/
def gTuple (st : Sto) : List D → Option D
  | [.tup xs] => some (.tup xs)
  | [d] => (lstOf st d).map .tup
  | _ => none
theorem cd_tuple : CallD K gTuple (fun xs H Q => ∃ p ys, xs = [.ref p] ∧ ((SqL K H p ys ∧ ∀ l, H l = none → Q (.ref l) (upd H l (.tup ys))) ∨ (SqT K H p ys ∧ Q (.ref p) H))) := by
  intro r m st H ds d vs Q g h e q
  unfold gTuple at e
  split at e
  · cases e
    obtain ⟨x, tl, rfl, a, b⟩ := h
    cases b
    have a0 := a
    obtain ⟨p, ws, rfl, i, dd⟩ := a
    exact ⟨p, ws, rfl, .inr ⟨i.sq, q m H _ (Le.refl m H) g a0⟩⟩
  · obtain ⟨xs, e1, e2⟩ := Option.map_eq_some_iff.mp e
    subst e2
    obtain ⟨x, tl, rfl, a, b⟩ := h
    cases b
    obtain ⟨p, ws, rfl, s, dd, z⟩ := lst_list g a e1
    refine ⟨p, ws, rfl, .inl ⟨SqL.of s, fun l nl => ?_⟩⟩
    have l2 : Le m H m (upd H l (.tup ws)) := le_upd nl
    exact q m _ _ l2 (g.upd nl) ⟨l, ws, rfl, .inl ⟨upd_same, g.fresh nl, z⟩, dd.mono l2⟩
  · cases e
def seq1 (st : Sto) : List D → Option (List D)
  | [d] => seqOf st d
  | _ => none
/-- list(x), never changed -/
def gList (st : Sto) (ds : List D) : Option D := (seq1 st ds).map .lst
theorem cd_list : CallD K gList (fun xs H Q => ∃ p ys, xs = [.ref p] ∧ (SqL K H p ys ∨ SqT K H p ys) ∧ ∀ l, H l = none → Q (.ref l) (upd H l (.lst ys))) := by
  intro r m st H ds d vs Q g h e q
  unfold gList seq1 at e
  split at e
  · obtain ⟨xs, e1, e2⟩ := Option.map_eq_some_iff.mp e
    subst e2
    obtain ⟨x, tl, rfl, a, b⟩ := h
    cases b
    obtain ⟨p, ws, rfl, s, dd, z⟩ := seq_list g a e1
    refine ⟨p, ws, rfl, s, fun l nl => ?_⟩
    have l2 : Le m H m (upd H l (.lst ws)) := le_upd nl
    exact q m _ _ l2 (g.upd nl) ⟨l, ws, rfl, upd_same, g.fresh nl, z, dd.mono l2⟩
  · cases e
/-- list(x), a cell -/
theorem t_mlist {σ : L2.St} {Q : VK} {fa : DA} (h : tE K (eNew seq1 fa) σ H Q) : tCB (fun xs H Q => ∃ p ys, xs = [.ref p] ∧ (SqL K H p ys ∨ SqT K H p ys) ∧ ∀ l, H l = none → Q (.ref l) (upd H l (.lst ys))) (tAr K fa) σ H Q := by
  obtain ⟨r, m, st, env, d, st', g, e, f, q⟩ := h
  unfold eNew at f
  obtain ⟨⟨x, s1⟩, f1, f⟩ := Option.bind_eq_some_iff.mp f
  obtain ⟨c, f3, f⟩ := Option.map_eq_some_iff.mp f
  cases f
  refine ⟨r, m, st, env, x, s1, g, e, f1, fun m1 H1 v1 l1 g1 d1 => ?_⟩
  dsimp only [seq1] at f3
  split at f3
  · next d' =>
    obtain ⟨x, tl, rfl, a, b⟩ := d1
    cases b
    obtain ⟨p, ws, rfl, s, dd, z⟩ := seq_list g1 a f3
    refine ⟨p, ws, rfl, s, fun l nl => ?_⟩
    obtain ⟨l2, g2, d2⟩ := new_cell g1 nl z dd
    exact q _ _ _ (l1.trans l2) g2 d2
  · cases f3
def gInt (_ : Sto) : List D → Option D
  | [.int i] => some (.int i)
  | [.bl b] => some (.int (if b then 1 else 0))
  | _ => none
theorem cd_int : CallD K gInt (fun xs H Q => (∃ i, xs = [.int i] ∧ Q (.int i) H) ∨ ∃ k, xs = [.bl k] ∧ Q (.int (if k then 1 else 0)) H) := by
  intro r m st H ds d vs Q g h e q
  unfold gInt at e
  split at e
  · cases e
    obtain ⟨x, tl, rfl, a, b⟩ := h
    cases a; cases b
    exact .inl ⟨_, rfl, q m H _ (Le.refl m H) g rfl⟩
  · cases e
    obtain ⟨x, tl, rfl, a, b⟩ := h
    cases a; cases b
    exact .inr ⟨_, rfl, q m H _ (Le.refl m H) g rfl⟩
  · cases e
def gAbs (_ : Sto) : List D → Option D
  | [.int i] => some (.int (if i < 0 then -i else i))
  | _ => none
theorem cd_abs : CallD K gAbs (fun xs H Q => ∃ i, xs = [.int i] ∧ Q (.int (if i < 0 then -i else i)) H) := by
  intro r m st H ds d vs Q g h e q
  unfold gAbs at e
  split at e
  · cases e
    obtain ⟨x, tl, rfl, a, b⟩ := h
    cases a; cases b
    exact ⟨_, rfl, q m H _ (Le.refl m H) g rfl⟩
  · cases e
/-! ### isinstance -/
inductive Ty where
  | int | bool | str | tuple | list
  deriving DecidableEq
def Ty.name : Ty → String
  | .int => "int" | .bool => "bool" | .str => "str" | .tuple => "tuple" | .list => "list"
/-- the kinds of data -/
inductive Tk where
  | non | bl | int | str | tup | lst | dic
  deriving DecidableEq
def Tk.name : Tk → String
  | .non => "NoneType" | .bl => "bool" | .int => "int" | .str => "str" | .tup => "tuple" | .lst => "list" | .dic => "dict"
def tk : D → Tk
  | .non => .non
  | .bl _ => .bl
  | .int _ => .int
  | .str _ => .str
  | .tup _ => .tup
  | .lst _ => .lst
  | .scr _ => .lst
  | .dic => .dic
  | .loc _ => .lst
def isTk : Ty → Tk → Bool
  | .int, .int => true
  | .int, .bl => true
  | .bool, .bl => true
  | .str, .str => true
  | .tuple, .tup => true
  | .list, .lst => true
  | _, _ => false
def isTy (t : Ty) (d : D) : Bool := isTk t (tk d)
def tyD (d : D) : String := (tk d).name
theorem kit_tk (t : Ty) (k : Tk) : kitB k.name t.name = some (isTk t k) := by
  cases t <;> cases k <;> decide +kernel
theorem kit_all (t : Ty) (d : D) : kitB (tyD d) t.name = some (isTy t d) := kit_tk t (tk d)
theorem ty_den {d : D} {v : V} (g : Good K r m st H) (h : Den K r m H d v) : TyX K H v (.type (tyD d)) := by
  cases d with
  | non => cases h; exact .base .non
  | bl b => cases h; exact .base (.bl b)
  | int i => cases h; exact .base (.int i)
  | str x => cases h; exact .base (.str x)
  | tup ds =>
    obtain ⟨a, xs, rfl, i, _⟩ := h
    rcases i with ⟨i, _⟩ | ⟨o, its, n, i, c, _⟩
    · exact .base (.tup i)
    · exact .kTuple i c
  | lst ds =>
    obtain ⟨a, xs, rfl, i, _⟩ := h
    exact .base (.lst i)
  | scr ds =>
    obtain ⟨a, xs, rfl, i, _⟩ := h
    rcases i with ⟨i | ⟨o, i⟩, _⟩ | ⟨o, its, n, i, c, _⟩
    · exact .base (.lst i)
    · exact .base (.frz i)
    · exact .kList i c
  | dic =>
    obtain ⟨a, rfl, i, _⟩ := h
    exact .base (.dK i)
  | loc n =>
    obtain ⟨a, rfl, i⟩ := h
    have hi : n < st.length := by
      rw [← g.len]
      exact (List.getElem?_eq_some_iff.mp i).1
    obtain ⟨xs, q, _⟩ := g.cell n a _ i (List.getElem?_eq_getElem hi)
    exact .base (.lst q)
def eIsi (t : Ty) (fa : DE) : DE := eUn (fun d => some (.bl (isTy t d))) fa
theorem t_isi {t : Ty} {σ : L2.St} {Q : VK} {fa : DE} (h : tE K (eIsi t fa) σ H Q) : tCB (rIsi K) (tCons (tE K fa) (tCons (tC (.ty t.name)) tNil)) σ H Q := by
  obtain ⟨r, m, st, env, d, st', g, e, f, q⟩ := h
  unfold eIsi eUn at f
  obtain ⟨⟨x, s1⟩, f1, f⟩ := Option.bind_eq_some_iff.mp f
  cases f
  refine ⟨r, m, st, env, x, s1, g, e, f1, fun m1 H1 v1 l1 g1 d1 => ?_⟩
  exact ⟨v1, .ty t.name, _, _, isTy t x, rfl, .ty _, ty_den g1 d1, kit_ty (kit_all t x), q m1 H1 _ l1 g1 rfl⟩

/-! ### slices -/
abbrev DO := En → Sto → Option (Option Int × Sto)
def oNo : DO := fun _ st => some (none, st)
def oSo (f : DE) : DO := fun env st => (f env st).bind fun p => match p.1 with
  | .int i => some (some i, p.2)
  | _ => none
def tOo (K : Fg) (f : DO) : TO := fun σ H Q => ∃ r m st env o st', Good K r m st H ∧ EnvR K r m H env σ ∧ f env st = some (o, st') ∧
  ∀ m' H', Le m H m' H' → Good K r m' st' H' → Q o H'
def cutD (xs : List D) (lo hi : Option Int) : List D := (xs.drop (HT.sIx xs.length 0 lo)).take (HT.sIx xs.length xs.length hi - HT.sIx xs.length 0 lo)
def lsqOf (st : Sto) : D → Option (List D)
  | .lst xs => some xs
  | .scr xs => some xs
  | .loc n => st[n]?
  | _ => none
theorem lsq_list {d : D} {xs : List D} {v : V} (g : Good K r m st H) (h : Den K r m H d v) (e : lsqOf st d = some xs) :
    ∃ a vs, v = .ref a ∧ SqL K H a vs ∧ Dens K r m H xs vs ∧ vs.length ≤ sizeLine := by
  cases d with
  | lst ds =>
    cases e
    obtain ⟨a, vs, rfl, i, _, z, q⟩ := h
    exact ⟨a, vs, rfl, SqL.of i, q, z⟩
  | scr ds =>
    cases e
    obtain ⟨a, vs, rfl, i, z, q⟩ := h
    exact ⟨a, vs, rfl, i.sq, q, by rw [← q.len]; exact Nat.le_trans z (by decide)⟩
  | loc n =>
    obtain ⟨a, rfl, i⟩ := h
    obtain ⟨vs, q, z, r⟩ := g.cell n a xs i e
    exact ⟨a, vs, rfl, SqL.of q, r, z⟩
  | _ => cases e
def sliceD (st : Sto) (lo hi : Option Int) : D → Option D
  | .tup xs => some (.tup (cutD xs lo hi))
  | d => (lsqOf st d).map fun xs => .lst (cutD xs lo hi)
def eSl (f : DE) (fl fh : DO) : DE := fun env st => (f env st).bind fun p => (fl env p.2).bind fun l => (fh env l.2).bind fun u => (sliceD u.2 l.1 u.1 p.1).map fun d => (d, u.2)
theorem t_ono {σ : L2.St} {Q : Option Int → Hp → Prop} (h : tOo K oNo σ H Q) : tNoPart σ H Q := by
  obtain ⟨r, m, st, env, d, st', g, e, f, q⟩ := h
  cases f
  exact q m H (Le.refl m H) g
theorem t_oso {σ : L2.St} {Q : Option Int → Hp → Prop} {fa : DE} (h : tOo K (oSo fa) σ H Q) : tPart (tE K fa) σ H Q := by
  obtain ⟨r, m, st, env, d, st', g, e, f, q⟩ := h
  unfold oSo at f
  obtain ⟨⟨x, s1⟩, f1, f⟩ := Option.bind_eq_some_iff.mp f
  refine ⟨r, m, st, env, x, s1, g, e, f1, fun m1 H1 v1 l1 g1 d1 => ?_⟩
  dsimp only at f
  split at f
  · cases d1; cases f
    exact ⟨_, rfl, q m1 H1 l1 g1⟩
  · cases f
theorem cut_den {ds : List D} {vs : List V} {lo hi : Option Int} (h : Dens K r m H ds vs) : Dens K r m H (cutD ds lo hi) (cutV vs lo hi) := by
  unfold cutD cutV
  rw [h.len]
  exact (h.drop _).take _
def rSls (K : Fg) : V → Option Int → Option Int → Hp → VK → Prop := fun x lo hi H Q => rSlA K x lo hi H Q ∨ rSlL K x lo hi H Q
theorem sl_all {X : Cx} : SlR X (rSls X.K) := sl_tupA.or sl_list
theorem t_sl {σ : L2.St} {Q : VK} {fa : DE} {fl fh : DO} (h : tE K (eSl fa fl fh) σ H Q) : tSl (rSls K) (tE K fa) (tOo K fl) (tOo K fh) σ H Q := by
  obtain ⟨r, m, st, env, d, st', g, e, f, q⟩ := h
  unfold eSl at f
  obtain ⟨⟨x, s1⟩, f1, f⟩ := Option.bind_eq_some_iff.mp f
  obtain ⟨⟨lo, s2⟩, f2, f⟩ := Option.bind_eq_some_iff.mp f
  obtain ⟨⟨hi, s3⟩, f3, f⟩ := Option.bind_eq_some_iff.mp f
  obtain ⟨d', f4, f⟩ := Option.map_eq_some_iff.mp f
  cases f
  refine ⟨r, m, st, env, x, s1, g, e, f1, fun m1 H1 v1 l1 g1 d1 => ?_⟩
  refine ⟨r, m1, s1, env, lo, s2, g1, e.mono l1, f2, fun m2 H2 l2 g2 => ?_⟩
  refine ⟨r, m2, s2, env, hi, s3, g2, e.mono (l1.trans l2), f3, fun m3 H3 l3 g3 => ?_⟩
  have d3 := d1.mono (l2.trans l3)
  have lT := (l1.trans l2).trans l3
  have f4 : sliceD s3 lo hi x = some d := f4
  unfold sliceD at f4
  split at f4
  · cases f4
    rename_i ys _ _ _
    have d30 := d3
    obtain ⟨a, xs, rfl, i, dd⟩ := d3
    have hlen := dd.len
    refine .inl ⟨a, xs, rfl, i.sq, fun hw => ?_, fun _ p np => ?_⟩
    · have e0 : cutD ys lo hi = ys := by
        unfold cutD
        rw [hlen, hw.1, hw.2, Nat.sub_zero, List.drop_zero, ← hlen, List.take_length]
      rw [e0] at q
      exact q m3 H3 _ lT g3 d30
    · have l4 : Le m3 H3 m3 (upd H3 p (.tup (cutV xs lo hi))) := le_upd np
      exact q m3 _ _ (lT.trans l4) (g3.upd np) ⟨p, _, rfl, .inl ⟨upd_same, g3.fresh np, Nat.le_trans (cutV_length _ _ _) i.len⟩, (cut_den dd).mono l4⟩
  · next hnt =>
    obtain ⟨xs, e1, e2⟩ := Option.map_eq_some_iff.mp f4
    subst e2
    obtain ⟨a, vs, rfl, sL, dd, z⟩ := lsq_list g3 d3 e1
    refine .inr ⟨a, vs, rfl, sL, fun p np => ?_⟩
    have l4 : Le m3 H3 m3 (upd H3 p (.lst (cutV vs lo hi))) := le_upd np
    exact q m3 _ _ (lT.trans l4) (g3.upd np) ⟨p, _, rfl, upd_same, g3.fresh np, Nat.le_trans (cutV_length _ _ _) z, (cut_den dd).mono l4⟩
end
end Tg
/-! Targets, what is walked, loops, comprehensions, statements. -/
namespace Tg
open PySem PySem.Spec PyProof.Rows L2

inductive Fl where
  | nx (env : En)
  | rt (d : D)
  | bk (env : En)
  | ct (env : En)
abbrev DS := En → Sto → Option (Fl × Sto)
abbrev DG := D → En → Sto → Option (En × Sto)
abbrev DGs := List D → En → Sto → Option (En × Sto)
abbrev DI := En → Sto → Option (((Sto → Bool) × List D) × Sto)

section
variable {X : Cx} {e : Expr}
theorem pg_imp {t t' : TG} (h : PG X e t) (q : ∀ v σ H Q, t' v σ H Q → t v σ H Q) : PG X e t' := ⟨fun pins s σ H v u Q I r w => h.run pins s σ H v u Q I r (q _ _ _ _ w)⟩
theorem pgs_imp {es : List Expr} {t t' : TGs} (h : PGs X es t) (q : ∀ v σ H Q, t' v σ H Q → t v σ H Q) : PGs X es t' := ⟨fun pins s σ H v u Q I r w => h.run pins s σ H v u Q I r (q _ _ _ _ w)⟩
theorem pg_or {t t' : TG} (h : PG X e t) (h' : PG X e t') : PG X e (fun v σ H Q => t v σ H Q ∨ t' v σ H Q) :=
  ⟨fun pins s σ H v u Q I r w => w.elim (h.run pins s σ H v u Q I r) (h'.run pins s σ H v u Q I r)⟩
theorem pi_imp {tg : Expr} {t t' : TI} (h : PI X tg e t) (q : ∀ σ H R, t' σ H R → t σ H R) : PI X tg e t' := ⟨fun pins s σ H R I w => h.run pins s σ H R I (q _ _ _ w)⟩
theorem pi_or {tg : Expr} {t t' : TI} (h : PI X tg e t) (h' : PI X tg e t') : PI X tg e (fun σ H R => t σ H R ∨ t' σ H R) :=
  ⟨fun pins s σ H R I w => w.elim (h.run pins s σ H R I) (h'.run pins s σ H R I)⟩
theorem ps_imp {st : Stmt} {t t' : TS} (h : PS X st t) (q : ∀ D σ H, t' D σ H → t D σ H) : PS X st t' := ⟨fun pins s σ H D I w => h.run pins s σ H D I (q _ _ _ w)⟩
theorem pss_imp {st : List Stmt} {t t' : TS} (h : PSs X st t) (q : ∀ D σ H, t' D σ H → t D σ H) : PSs X st t' := ⟨fun pins s σ H D I w => h.run pins s σ H D I (q _ _ _ w)⟩
end

/-! ### targets: ws are the slots that they may store -/
def Off (ws : List Nat) (σ σ' : L2.St) : Prop := σ'.length = σ.length ∧ ∀ i, i ∉ ws → σ'[i]? = σ[i]?
theorem Off.refl (ws : List Nat) (σ : L2.St) : Off ws σ σ := ⟨rfl, fun _ _ => rfl⟩
theorem Off.trans {ws vs : List Nat} {σ σ1 σ2 : L2.St} (a : Off ws σ σ1) (b : Off vs σ1 σ2) : Off (ws ++ vs) σ σ2 :=
  ⟨b.1.trans a.1, fun i hi => by
    rw [List.mem_append, not_or] at hi
    rw [b.2 i hi.2, a.2 i hi.1]⟩
theorem off_set (i : Nat) (v : Option V) (σ : L2.St) : Off [i] σ (σ.set i v) :=
  ⟨List.length_set, fun j hj => by
    rw [List.getElem?_set_ne (fun e => hj (by rw [e]; exact List.mem_singleton.mpr rfl))]⟩
theorem wipe_get (σ : L2.St) : ∀ (vs : List Nat) (i : Nat), i < σ.length → (L2.wipe σ vs)[i]? = if i ∈ vs then some none else σ[i]?
  | [], i, _ => by simp [L2.wipe]
  | v :: vs, i, h => by
    unfold L2.wipe
    by_cases hv : v = i
    · subst hv
      rw [List.getElem?_set_self (by rw [wipe_length]; exact h)]
      simp
    · rw [List.getElem?_set_ne hv, wipe_get σ vs i h]
      simp [Ne.symm hv]
theorem wipe_off {ws vs : List Nat} {σ σ' : L2.St} (h : Off ws (L2.wipe σ vs) σ') (hs : ∀ i ∈ ws, i ∈ vs) : L2.wipe σ' vs = L2.wipe σ vs := by
  have hl : σ'.length = σ.length := by rw [h.1, wipe_length]
  apply List.ext_getElem?
  intro i
  by_cases hi : i < σ.length
  · rw [wipe_get σ' vs i (by rw [hl]; exact hi), wipe_get σ vs i hi]
    by_cases hv : i ∈ vs
    · rw [if_pos hv, if_pos hv]
    · rw [if_neg hv, if_neg hv, h.2 i (fun z => hv (hs i z)), wipe_get σ vs i hi, if_neg hv]
  · rw [List.getElem?_eq_none (by rw [wipe_length, hl]; omega), List.getElem?_eq_none (by rw [wipe_length]; omega)]

def tG (K : Fg) (ws : List Nat) (f : DG) : TG := fun v σ H Q => ∃ r m st env d env' st', Good K r m st H ∧ EnvR K r m H env σ ∧ Den K r m H d v ∧ f d env st = some (env', st') ∧
  ∀ m' H' σ', Le m H m' H' → Good K r m' st' H' → EnvR K r m' H' env' σ' → Off ws σ σ' → Q σ' H'
def tGs (K : Fg) (ws : List Nat) (f : DGs) : TGs := fun vs σ H Q => ∃ r m st env ds env' st', Good K r m st H ∧ EnvR K r m H env σ ∧ Dens K r m H ds vs ∧ f ds env st = some (env', st') ∧
  ∀ m' H' σ', Le m H m' H' → Good K r m' st' H' → EnvR K r m' H' env' σ' → Off ws σ σ' → Q σ' H'
def gN (i : Nat) : DG := fun d env st => some (env.set i (some d), st)
def gsNil : DGs := fun ds env st => match ds with
  | [] => some (env, st)
  | _ => none
def gsCons (f : DG) (g : DGs) : DGs := fun ds env st => match ds with
  | d :: r => (f d env st).bind fun p => g r p.1 p.2
  | _ => none
def gT (n : Nat) (f : DGs) : DG := fun d env st => match d with
  | .tup xs => if xs.length = n then f xs env st else none
  | d => (lsqOf st d).bind fun xs => if xs.length = n then f xs env st else none
/-- o[i] = d, o a cell -/
def setC (st : Sto) (o i d : D) : Option Sto := match o, i with
  | .loc n, .int k => (st[n]?).bind fun xs => (ixN xs.length k).map fun j => st.set n (xs.set j d)
  | _, _ => none
def gSb (fo fi : DE) : DG := fun d env st => (fo env st).bind fun p => (fi env p.2).bind fun q => (setC q.2 p.1 q.1 d).map fun s => (env, s)
section
variable {K : Fg} {σ : L2.St} {H : Hp}
theorem g_name {i : Nat} {v : V} {Q : L2.St → Hp → Prop} (h : tG K [i] (gN i) v σ H Q) : gName i v σ H Q := by
  obtain ⟨r, m, st, env, d, env', st', g, e, dd, f, q⟩ := h
  cases f
  exact q m H _ (Le.refl m H) g (e.set dd) (off_set i _ σ)
theorem g_nil {vs : List V} {Q : L2.St → Hp → Prop} (h : tGs K [] gsNil vs σ H Q) : gNil vs σ H Q := by
  obtain ⟨r, m, st, env, ds, env', st', g, e, dd, f, q⟩ := h
  unfold gsNil at f
  split at f
  · cases f
    cases dd
    exact ⟨rfl, q m H _ (Le.refl m H) g e (Off.refl _ σ)⟩
  · cases f
theorem g_cons {ws us : List Nat} {fg : DG} {fs : DGs} {vs : List V} {Q : L2.St → Hp → Prop} (h : tGs K (ws ++ us) (gsCons fg fs) vs σ H Q) : gCons (tG K ws fg) (tGs K us fs) vs σ H Q := by
  obtain ⟨r, m, st, env, ds, env', st', g, e, dd, f, q⟩ := h
  unfold gsCons at f
  split at f
  · next d ds' =>
    obtain ⟨x, tl, rfl, a, b⟩ := dd
    obtain ⟨⟨e1, s1⟩, f1, f2⟩ := Option.bind_eq_some_iff.mp f
    refine ⟨x, tl, rfl, r, m, st, env, d, e1, s1, g, e, a, f1, fun m1 H1 σ1 l1 g1 er1 o1 => ?_⟩
    exact ⟨r, m1, s1, e1, ds', env', st', g1, er1, b.mono l1, f2, fun m2 H2 σ2 l2 g2 er2 o2 => q m2 H2 σ2 (l1.trans l2) g2 er2 (o1.trans o2)⟩
  · cases f
theorem g_tup {ws : List Nat} {fs : DGs} {n : Nat} {v : V} {Q : L2.St → Hp → Prop} (h : tG K ws (gT n fs) v σ H Q) : gTup K n (tGs K ws fs) v σ H Q ∨ gUnl K n (tGs K ws fs) v σ H Q := by
  obtain ⟨r, m, st, env, d, env', st', g, e, dd, f, q⟩ := h
  unfold gT at f
  split at f
  · split at f
    · next xs hn =>
      obtain ⟨a, vs, rfl, i, ds⟩ := dd
      exact .inl ⟨a, vs, rfl, i.sq, by rw [← ds.len]; exact hn, r, m, st, env, xs, env', st', g, e, ds, f, q⟩
    · cases f
  · obtain ⟨xs, e1, f⟩ := Option.bind_eq_some_iff.mp f
    split at f
    · next hn =>
      obtain ⟨a, vs, rfl, i, ds, _⟩ := lsq_list g dd e1
      exact .inr ⟨a, vs, rfl, i, by rw [← ds.len]; exact hn, r, m, st, env, xs, env', st', g, e, ds, f, q⟩
    · cases f
theorem set_cell {r m : List Addr} {st st' : Sto} {o i d : D} {vo vi v : V} {Q : Hp → Prop} (g : Good K r m st H) (ho : Den K r m H o vo) (hi : Den K r m H i vi) (hd : Den K r m H d v) (f : setC st o i d = some st')
    (q : ∀ H', Le m H m H' → Good K r m st' H' → Q H') : rSetL vo vi v H Q := by
  unfold setC at f
  split at f
  · next n k =>
    obtain ⟨xs, e1, f⟩ := Option.bind_eq_some_iff.mp f
    obtain ⟨j, e2, e3⟩ := Option.map_eq_some_iff.mp f
    subst e3
    cases hi
    obtain ⟨a, rfl, ha⟩ := ho
    obtain ⟨vs, h1, z, ds⟩ := g.cell n a xs ha e1
    obtain ⟨l, g2⟩ := g.put (xs := vs.set j v) (c := xs.set j d) ha (by rw [List.length_set]; exact z) (ds.set j hd)
    exact ⟨a, vs, k, j, rfl, rfl, h1, by rw [← ds.len]; exact e2, q _ l g2⟩
  · cases f
theorem g_sub {fo fi : DE} {v : V} {Q : L2.St → Hp → Prop} (h : tG K [] (gSb fo fi) v σ H Q) : gSub (tE K fo) (tE K fi) rSetL v σ H Q := by
  obtain ⟨r, m, st, env, d, env', st', g, e, dd, f, q⟩ := h
  unfold gSb at f
  obtain ⟨⟨x, s1⟩, f1, f⟩ := Option.bind_eq_some_iff.mp f
  obtain ⟨⟨y, s2⟩, f2, f⟩ := Option.bind_eq_some_iff.mp f
  obtain ⟨s3, f3, f⟩ := Option.map_eq_some_iff.mp f
  cases f
  refine ⟨r, m, st, env, x, s1, g, e, f1, fun m1 H1 v1 l1 g1 d1 => ?_⟩
  refine ⟨r, m1, s1, env, y, s2, g1, e.mono l1, f2, fun m2 H2 v2 l2 g2 d2 => ?_⟩
  exact set_cell g2 (d1.mono l2) d2 (dd.mono (l1.trans l2)) f3 fun H3 l3 g3 => q m2 H3 σ ((l1.trans l2).trans l3) g3 (e.mono ((l1.trans l2).trans l3)) (Off.refl _ σ)
end

/-! ### what is walked -/
/-- more reserved addresses: all of them new -/
def Rs (r r' : List Addr) (H : Hp) : Prop := ∀ b ∈ r', b ∈ r ∨ H b = none
structure Strm (K : Fg) (r : List Addr) (J : It) (chk : Sto → Bool) (ds : List D) (m0 : List Addr) (H0 : Hp) : Prop where
  len : ds.length ≤ sizeLine
  go : ∀ r' m H st i, Rs r r' H0 → Le m0 H0 m H → Good K r' m st H → chk st = true → i < ds.length → J.go i H
  yld : ∀ r' m H st i x H' d, Rs r r' H0 → Le m0 H0 m H → Good K r' m st H → chk st = true → ds[i]? = some d → J.yld i H x H' → Le m H m H' ∧ Good K r' m st H' ∧ Den K r' m H' d x
  stop : ∀ r' m H st, Rs r r' H0 → Le m0 H0 m H → Good K r' m st H → chk st = true → J.stop ds.length H
section
variable {K : Fg} {r r' m : List Addr} {H : Hp}
theorem Rs.out (h : Rs r r' H) {a : Addr} {o : HO} (e : H a = some o) (n : a ∉ m ∧ a ∉ r) : a ∉ m ∧ a ∉ r' :=
  ⟨n.1, fun z => (h a z).elim n.2 fun q => by rw [q] at e; cases e⟩
mutual
theorem Den.ext (h : Rs r r' H) : ∀ (d : D) (v : V), Den K r m H d v → Den K r' m H d v
  | .non, _, q => q
  | .bl _, _, q => q
  | .int _, _, q => q
  | .str _, _, q => q
  | .tup ds, _, q => by
    obtain ⟨a, xs, e, i, q⟩ := q
    refine ⟨a, xs, e, ?_, Dens.ext h ds xs q⟩
    rcases i with ⟨i, n, z⟩ | i
    · exact .inl ⟨i, h.out i n, z⟩
    · exact .inr i
  | .lst ds, _, q => by
    obtain ⟨a, xs, e, i, n, z, q⟩ := q
    exact ⟨a, xs, e, i, h.out i n, z, Dens.ext h ds xs q⟩
  | .scr ds, _, q => by
    obtain ⟨a, xs, e, i, z, q⟩ := q
    refine ⟨a, xs, e, ?_, z, Dens.ext h ds xs q⟩
    rcases i with ⟨i | ⟨o, i⟩, n⟩ | i
    · exact .inl ⟨.inl i, h.out i n⟩
    · exact .inl ⟨.inr ⟨o, i⟩, h.out i n⟩
    · exact .inr i
  | .dic, _, q => by
    obtain ⟨a, e, i, n⟩ := q
    exact ⟨a, e, i, h.out i n⟩
  | .loc n, _, q => q
theorem Dens.ext (h : Rs r r' H) : ∀ (ds : List D) (vs : List V), Dens K r m H ds vs → Dens K r' m H ds vs
  | [], _, q => q
  | d :: ds, _, q => by
    obtain ⟨x, t, e, a, b⟩ := q
    exact ⟨x, t, e, Den.ext h d x a, Dens.ext h ds t b⟩
end
/-- other reserved addresses and cells, another heap: what immutable data asks -/
structure Same2 (r m : List Addr) (H : Hp) (r' m' : List Addr) (H' : Hp) : Prop where
  out : ∀ a, a ∉ m ∧ a ∉ r → a ∉ m' ∧ a ∉ r'
  keep : ∀ a o, H a = some o → a ∉ m ∧ a ∉ r → H' a = some o
  cell : ∀ (n : Nat) (a : Addr), m[n]? = some a → m'[n]? = some a
mutual
theorem Den.same {m' : List Addr} {H' : Hp} (h : Same2 r m H r' m' H') : ∀ (d : D) (v : V), Den K r m H d v → Den K r' m' H' d v
  | .non, _, q => q
  | .bl _, _, q => q
  | .int _, _, q => q
  | .str _, _, q => q
  | .tup ds, _, q => by
    obtain ⟨a, xs, e, i, q⟩ := q
    refine ⟨a, xs, e, ?_, Dens.same h ds xs q⟩
    rcases i with ⟨i, n, z⟩ | i
    · exact .inl ⟨h.keep a _ i n, h.out a n, z⟩
    · exact .inr i
  | .lst ds, _, q => by
    obtain ⟨a, xs, e, i, n, z, q⟩ := q
    exact ⟨a, xs, e, h.keep a _ i n, h.out a n, z, Dens.same h ds xs q⟩
  | .scr ds, _, q => by
    obtain ⟨a, xs, e, i, z, q⟩ := q
    refine ⟨a, xs, e, ?_, z, Dens.same h ds xs q⟩
    rcases i with ⟨i | ⟨o, i⟩, n⟩ | i
    · exact .inl ⟨.inl (h.keep a _ i n), h.out a n⟩
    · exact .inl ⟨.inr ⟨o, h.keep a _ i n⟩, h.out a n⟩
    · exact .inr i
  | .dic, _, q => by
    obtain ⟨a, e, i, n⟩ := q
    exact ⟨a, e, h.keep a _ i n, h.out a n⟩
  | .loc n, _, q => by
    obtain ⟨a, e, i⟩ := q
    exact ⟨a, e, h.cell n a i⟩
theorem Dens.same {m' : List Addr} {H' : Hp} (h : Same2 r m H r' m' H') : ∀ (ds : List D) (vs : List V), Dens K r m H ds vs → Dens K r' m' H' ds vs
  | [], _, q => q
  | d :: ds, _, q => by
    obtain ⟨x, t, e, a, b⟩ := q
    exact ⟨x, t, e, Den.same h d x a, Dens.same h ds t b⟩
end
theorem same_drop {p : Addr} : Same2 (p :: r) m H r m H := ⟨fun a n => ⟨n.1, fun z => n.2 (List.mem_cons_of_mem _ z)⟩, fun _ _ e _ => e, fun _ _ e => e⟩
theorem same_upd {p : Addr} {o : HO} : Same2 (p :: r) m H (p :: r) m (upd H p o) := ⟨fun _ n => n, fun a u e n => by
  rw [upd_ne (fun z => n.2 (by rw [z]; exact List.mem_cons_self))]
  exact e, fun _ _ e => e⟩
theorem same_adopt {p : Addr} : Same2 (p :: r) m H r (m ++ [p]) H := ⟨fun a n => ⟨fun z => (List.mem_append.mp z).elim n.1 fun q => n.2 (by rw [List.mem_singleton.mp q]; exact List.mem_cons_self), fun z => n.2 (List.mem_cons_of_mem _ z)⟩, fun _ _ e _ => e, fun n a e => by
  rw [List.getElem?_append_left (List.getElem?_eq_some_iff.mp e).1]
  exact e⟩
theorem EnvR.ext {env : En} {σ : L2.St} (h : Rs r r' H) (e : EnvR K r m H env σ) : EnvR K r' m H env σ := ⟨e.1, fun i d q => by
  obtain ⟨v, a, b⟩ := e.2 i d q
  exact ⟨v, a, b.ext h⟩⟩
theorem Good.same {st : Sto} (g : Good K r m st H) {H' : Hp} (h : Same2 r m H r' m H') (hr : ∀ a ∈ r', H' a ≠ none) (hc : ∀ a xs, a ∈ m → H a = some (.lst xs) → H' a = some (.lst xs)) : Good K r' m st H' :=
  ⟨g.len, g.nd, hr, fun i a c e f => by
    obtain ⟨xs, q, z, dd⟩ := g.cell i a c e f
    exact ⟨xs, hc a xs (List.mem_of_getElem? e) q, z, dd.same h⟩⟩
end
def tI (K : Fg) (f : DI) : TI := fun σ H R => ∃ r m st env chk ds st', Good K r m st H ∧ EnvR K r m H env σ ∧ f env st = some ((chk, ds), st') ∧
  ∀ m' H' J, Le m H m' H' → Good K r m' st' H' → Strm K r J chk ds m' H' → R J H'
def always (_ : Sto) : Bool := true
noncomputable def unchanged (n : Nat) (ds : List D) (st : Sto) : Bool := @decide (st[n]? = some ds) (Classical.propDecidable _)
theorem unchanged_iff {n : Nat} {ds : List D} {st : Sto} : unchanged n ds st = true ↔ st[n]? = some ds := by
  unfold unchanged
  exact @decide_eq_true_iff _ (Classical.propDecidable _)
/-- a sequence's items; a cell must not change meanwhile -/
noncomputable def srcOf (st : Sto) : D → Option ((Sto → Bool) × List D)
  | .tup xs => some (always, xs)
  | .lst xs => some (always, xs)
  | .loc n => (st[n]?).map fun xs => (unchanged n xs, xs)
  | _ => none
noncomputable def iSeq (f : DE) : DI := fun env st => (f env st).bind fun p => (srcOf p.2 p.1).map fun q => (q, p.2)
def rangeD (lo : Int) (n : Nat) : List D := (List.range n).map fun (k : Nat) => .int (lo + k)
def iRng (fa : DA) : DI := fun env st => (fa env st).bind fun p => match p.1 with
  | [.int j] => if decide (j ≤ 1000000) && decide (-1000000 ≤ j) then some ((always, rangeD 0 j.toNat), p.2) else none
  | [.int i, .int j] => if decide (j - i ≤ 1000000) && decide (i.natAbs ≤ 4000000000000000000) && decide (j.natAbs ≤ 4000000000000000000) then some ((always, rangeD i (j - i).toNat), p.2) else none
  | _ => none
def pairsD : List D → List D → List D
  | x :: xs, y :: ys => .tup [x, y] :: pairsD xs ys
  | _, _ => []
def enumD (k : Int) : List D → List D
  | [] => []
  | x :: xs => .tup [.int k, x] :: enumD (k + 1) xs
section
variable {K : Fg} {σ : L2.St} {H : Hp}
theorem rangeD_length (lo : Int) (n : Nat) : (rangeD lo n).length = n := by simp [rangeD]
theorem rangeD_get {lo : Int} {n i : Nat} {d : D} (h : (rangeD lo n)[i]? = some d) : d = .int (lo + i) ∧ i < n := by
  unfold rangeD at h
  rw [List.getElem?_map] at h
  obtain ⟨k, h1, h2⟩ := Option.map_eq_some_iff.mp h
  obtain ⟨h3, h4⟩ := List.getElem?_eq_some_iff.mp h1
  rw [List.getElem_range] at h4
  subst h4
  rw [List.length_range] at h3
  exact ⟨h2.symm, h3⟩
theorem strm_lst {r m : List Addr} {st : Sto} {ds : List D} {v : V} (g : Good K r m st H) (h : Den K r m H (.lst ds) v) : ∃ a vs, v = .ref a ∧ SqL K H a vs ∧ Strm K r (Itl K a) always ds m H := by
  obtain ⟨a, vs, rfl, i, n, z, dd⟩ := h
  have later : ∀ r1 m1 H1, Rs r r1 H → Le m H m1 H1 → SqL K H1 a vs ∧ Dens K r1 m1 H1 ds vs := fun r1 m1 H1 hr l => ⟨SqL.of (l.keep a _ i n.1), (dd.ext hr).mono l⟩
  refine ⟨a, vs, rfl, SqL.of i, by rw [dd.len]; exact z, fun r1 m1 H1 s1 k hr l _ _ hk => ?_, fun r1 m1 H1 s1 k x H' d hr l g1 _ hk y => ?_, fun r1 m1 H1 s1 hr l _ _ => ?_⟩
  · obtain ⟨q, d1⟩ := later r1 m1 H1 hr l
    have hk' : k < vs.length := by rw [← d1.len]; exact hk
    exact ⟨vs, vs[k], q, List.getElem?_eq_getElem hk'⟩
  · obtain ⟨q, d1⟩ := later r1 m1 H1 hr l
    obtain ⟨rfl, y⟩ := y
    obtain ⟨v, e1, e2⟩ := d1.get hk
    rw [y vs q] at e1
    cases e1
    exact ⟨Le.refl _ _, g1, e2⟩
  · obtain ⟨q, d1⟩ := later r1 m1 H1 hr l
    exact ⟨vs, q, by rw [d1.len]; exact Nat.le_refl _⟩
theorem strm_tup {r m : List Addr} {st : Sto} {ds : List D} {v : V} (g : Good K r m st H) (h : Den K r m H (.tup ds) v) : ∃ a vs, v = .ref a ∧ SqT K H a vs ∧ Strm K r (Itt K a) always ds m H := by
  obtain ⟨a, vs, rfl, i, dd⟩ := h
  have later : ∀ r1 m1 H1, Rs r r1 H → Le m H m1 H1 → SqT K H1 a vs ∧ Dens K r1 m1 H1 ds vs := fun r1 m1 H1 hr l => ⟨(i.mono l).sq, (dd.ext hr).mono l⟩
  refine ⟨a, vs, rfl, i.sq, by rw [dd.len]; exact i.len, fun r1 m1 H1 s1 k hr l _ _ hk => ?_, fun r1 m1 H1 s1 k x H' d hr l g1 _ hk y => ?_, fun r1 m1 H1 s1 hr l _ _ => ?_⟩
  · obtain ⟨q, d1⟩ := later r1 m1 H1 hr l
    have hk' : k < vs.length := by rw [← d1.len]; exact hk
    exact ⟨vs, vs[k], q, List.getElem?_eq_getElem hk'⟩
  · obtain ⟨q, d1⟩ := later r1 m1 H1 hr l
    obtain ⟨rfl, y⟩ := y
    obtain ⟨v, e1, e2⟩ := d1.get hk
    rw [y vs q] at e1
    cases e1
    exact ⟨Le.refl _ _, g1, e2⟩
  · obtain ⟨q, d1⟩ := later r1 m1 H1 hr l
    exact ⟨vs, q, by rw [d1.len]; exact Nat.le_refl _⟩
theorem strm_loc {r m : List Addr} {st : Sto} {n : Nat} {ds : List D} {v : V} (g : Good K r m st H) (h : Den K r m H (.loc n) v) (e : st[n]? = some ds) : ∃ a vs, v = .ref a ∧ SqL K H a vs ∧ Strm K r (Itl K a) (unchanged n ds) ds m H := by
  obtain ⟨a, rfl, ha⟩ := h
  obtain ⟨vs, h1, z, dd⟩ := g.cell n a ds ha e
  have later : ∀ r1 m1 H1 s1, Le m H m1 H1 → Good K r1 m1 s1 H1 → unchanged n ds s1 = true → ∃ vs, SqL K H1 a vs ∧ Dens K r1 m1 H1 ds vs := fun r1 m1 H1 s1 l g1 c => by
    obtain ⟨vs, h1, _, dd⟩ := g1.cell n a ds (l.at ha) (unchanged_iff.mp c)
    exact ⟨vs, SqL.of h1, dd⟩
  refine ⟨a, vs, rfl, SqL.of h1, by rw [dd.len]; exact z, fun r1 m1 H1 s1 k hr l g1 c hk => ?_, fun r1 m1 H1 s1 k x H' d hr l g1 c hk y => ?_, fun r1 m1 H1 s1 hr l g1 c => ?_⟩
  · obtain ⟨vs, q, d1⟩ := later r1 m1 H1 s1 l g1 c
    have hk' : k < vs.length := by rw [← d1.len]; exact hk
    exact ⟨vs, vs[k], q, List.getElem?_eq_getElem hk'⟩
  · obtain ⟨vs, q, d1⟩ := later r1 m1 H1 s1 l g1 c
    obtain ⟨rfl, y⟩ := y
    obtain ⟨v, e1, e2⟩ := d1.get hk
    rw [y vs q] at e1
    cases e1
    exact ⟨Le.refl _ _, g1, e2⟩
  · obtain ⟨vs, q, d1⟩ := later r1 m1 H1 s1 l g1 c
    exact ⟨vs, q, by rw [d1.len]; exact Nat.le_refl _⟩
theorem i_seq {f : DE} {R : It → Hp → Prop} (h : tI K (iSeq f) σ H R) : iList K (tE K f) σ H R ∨ iTup K (tE K f) σ H R := by
  obtain ⟨r, m, st, env, chk, ds, st', g, e, f1, q⟩ := h
  unfold iSeq at f1
  obtain ⟨⟨x, s1⟩, f2, f3⟩ := Option.bind_eq_some_iff.mp f1
  obtain ⟨⟨c, xs⟩, f4, f5⟩ := Option.map_eq_some_iff.mp f3
  cases f5
  have f4 : srcOf s1 x = some (chk, ds) := f4
  cases x with
  | tup ys =>
    cases f4
    refine .inr ⟨r, m, st, env, _, _, g, e, f2, fun m1 H1 v l g1 d => ?_⟩
    obtain ⟨a, vs, rfl, s, S⟩ := strm_tup g1 d
    exact ⟨a, rfl, ⟨vs, s⟩, q m1 H1 _ l g1 S⟩
  | lst ys =>
    cases f4
    refine .inl ⟨r, m, st, env, _, _, g, e, f2, fun m1 H1 v l g1 d => ?_⟩
    obtain ⟨a, vs, rfl, s, S⟩ := strm_lst g1 d
    exact ⟨a, rfl, ⟨vs, s⟩, q m1 H1 _ l g1 S⟩
  | loc n =>
    obtain ⟨ys, e1, e2⟩ := Option.map_eq_some_iff.mp f4
    cases e2
    refine .inl ⟨r, m, st, env, _, _, g, e, f2, fun m1 H1 v l g1 d => ?_⟩
    obtain ⟨a, vs, rfl, s, S⟩ := strm_loc g1 d e1
    exact ⟨a, rfl, ⟨vs, s⟩, q m1 H1 _ l g1 S⟩
  | _ => cases f4
theorem strm_rng {r m : List Addr} {lo : Int} {n : Nat} (hn : n ≤ sizeLine) : Strm K r (Itr lo n) always (rangeD lo n) m H := by
  refine ⟨by rw [rangeD_length]; exact hn, fun r1 m1 H1 s1 k hr l _ _ hk => ?_, fun r1 m1 H1 s1 k x H' d hr l g1 _ hk y => ?_, fun r1 m1 H1 s1 hr l _ _ => ?_⟩
  · rw [rangeD_length] at hk
    exact hk
  · obtain ⟨rfl, rfl⟩ := y
    obtain ⟨rfl, _⟩ := rangeD_get hk
    exact ⟨Le.refl _ _, g1, rfl⟩
  · rw [rangeD_length]
    exact Nat.le_refl n
theorem i_rng1 {fa : DA} {R : It → Hp → Prop} (h1 : ∀ env st ds st', fa env st = some (ds, st') → ds.length = 1) (h : tI K (iRng fa) σ H R) : iRng1 (tAr K fa) σ H R := by
  obtain ⟨r, m, st, env, chk, ds, st', g, e, f1, q⟩ := h
  unfold iRng at f1
  obtain ⟨⟨x, s1⟩, f2, f3⟩ := Option.bind_eq_some_iff.mp f1
  have hl := h1 _ _ _ _ f2
  dsimp only at f3
  split at f3
  · next j =>
    split at f3
    · next hj =>
      cases f3
      simp only [Bool.and_eq_true, decide_eq_true_eq] at hj
      refine ⟨r, m, st, env, _, _, g, e, f2, fun m1 H1 v l g1 d => ?_⟩
      obtain ⟨y, tl, rfl, a, b⟩ := d
      cases a; cases b
      have e62 : (2 : Int) ^ 62 = 4611686018427387904 := by decide
      refine ⟨j, rfl, by rw [e62]; omega, by rw [e62]; omega, q m1 H1 _ l g1 (strm_rng ?_)⟩
      have : sizeLine = 16777216 := by decide
      omega
    · cases f3
  · simp at hl
  · cases f3
theorem i_rng2 {fa : DA} {R : It → Hp → Prop} (h1 : ∀ env st ds st', fa env st = some (ds, st') → ds.length = 2) (h : tI K (iRng fa) σ H R) : iRng2 (tAr K fa) σ H R := by
  obtain ⟨r, m, st, env, chk, ds, st', g, e, f1, q⟩ := h
  unfold iRng at f1
  obtain ⟨⟨x, s1⟩, f2, f3⟩ := Option.bind_eq_some_iff.mp f1
  have hl := h1 _ _ _ _ f2
  dsimp only at f3
  split at f3
  · simp at hl
  · next i j =>
    split at f3
    · next hj =>
      cases f3
      simp only [Bool.and_eq_true, decide_eq_true_eq] at hj
      refine ⟨r, m, st, env, _, _, g, e, f2, fun m1 H1 v l g1 d => ?_⟩
      obtain ⟨y, tl, rfl, a, y2, tl2, rfl, b, c⟩ := d
      cases a; cases b; cases c
      have e62 : (2 : Int) ^ 62 = 4611686018427387904 := by decide
      refine ⟨i, j, rfl, ⟨by rw [e62]; omega, by rw [e62]; omega, by rw [e62]; omega, by rw [e62]; omega⟩, q m1 H1 _ l g1 (strm_rng ?_)⟩
      have : sizeLine = 16777216 := by decide
      omega
    · cases f3
  · cases f3
end

/-! ### statements -/
def EndOk (K : Fg) (r m : List Addr) (H : Hp) (fl : Fl) (st' : Sto) (D : Ends) : Prop := match fl with
  | .nx env' => ∀ m' H' σ', Le m H m' H' → Good K r m' st' H' → EnvR K r m' H' env' σ' → D.nx σ' H'
  | .bk env' => ∀ m' H' σ', Le m H m' H' → Good K r m' st' H' → EnvR K r m' H' env' σ' → D.bk σ' H'
  | .ct env' => ∀ m' H' σ', Le m H m' H' → Good K r m' st' H' → EnvR K r m' H' env' σ' → D.ct σ' H'
  | .rt d => ∀ m' H' v, Le m H m' H' → Good K r m' st' H' → Den K r m' H' d v → D.rt v H'
def tS (K : Fg) (f : DS) : TS := fun D σ H => ∃ r m st env fl st', Good K r m st H ∧ EnvR K r m H env σ ∧ f env st = some (fl, st') ∧ EndOk K r m H fl st' D
theorem EndOk.mono {K : Fg} {r m m1 : List Addr} {H H1 : Hp} {fl : Fl} {st' : Sto} {D : Ends} (l : Le m H m1 H1) (h : EndOk K r m H fl st' D) : EndOk K r m1 H1 fl st' D := by
  cases fl with
  | nx env' => exact fun m' H' σ' l' => h m' H' σ' (l.trans l')
  | bk env' => exact fun m' H' σ' l' => h m' H' σ' (l.trans l')
  | ct env' => exact fun m' H' σ' l' => h m' H' σ' (l.trans l')
  | rt d => exact fun m' H' v l' => h m' H' v (l.trans l')
def sNil : DS := fun env st => some (.nx env, st)
def sSeq (a b : DS) : DS := fun env st => (a env st).bind fun p => match p.1 with
  | .nx env' => b env' p.2
  | f => some (f, p.2)
def sExpr (f : DE) : DS := fun env st => (f env st).bind fun p => some (.nx env, p.2)
def sRet (f : DE) : DS := fun env st => (f env st).bind fun p => some (.rt p.1, p.2)
def sRetN : DS := fun _ st => some (.rt .non, st)
def sBrk : DS := fun env st => some (.bk env, st)
def sCt : DS := fun env st => some (.ct env, st)
def sIf (c : DB) (a b : DS) : DS := fun env st => (c env st).bind fun p => if p.1 then a env p.2 else b env p.2
def sAsg (f : DE) (g : DG) : DS := fun env st => (f env st).bind fun p => (g p.1 env p.2).bind fun q => some (.nx q.1, q.2)
def forL (chk : Sto → Bool) (tg : DG) (body : DS) : List D → DS
  | [], env, st => if chk st then some (.nx env, st) else none
  | d :: ds, env, st => if chk st then (tg d env st).bind fun p => (body p.1 p.2).bind fun q => match q.1 with
      | .nx env' => forL chk tg body ds env' q.2
      | .ct env' => forL chk tg body ds env' q.2
      | .bk env' => some (.nx env', q.2)
      | .rt v => some (.rt v, q.2) else none
def sFor (src : DI) (tg : DG) (body : DS) : DS := fun env st => (src env st).bind fun p => forL p.1.1 tg body p.1.2 env p.2
def lcL (chk : Sto → Bool) (tg : DG) (ifs : DB) (elt : DE) (env : En) : List D → Sto → Option (List D × Sto)
  | [], st => if chk st then some ([], st) else none
  | d :: ds, st => if chk st then (tg d env st).bind fun p => (ifs p.1 p.2).bind fun b =>
      if b.1 then (elt p.1 b.2).bind fun y => (lcL chk tg ifs elt env ds y.2).map fun q => (y.1 :: q.1, q.2) else lcL chk tg ifs elt env ds b.2 else none
def bYes : DB := fun _ st => some (true, st)
def eLc (vs : List Nat) (src : DI) (tg : DG) (ifs : DB) (elt : DE) : DE := fun env st => (src env st).bind fun p => (lcL p.1.1 tg ifs elt (wipeE env vs) p.1.2 p.2).map fun q => (.lst q.1, q.2)
def eMLc (vs : List Nat) (src : DI) (tg : DG) (ifs : DB) (elt : DE) : DE := fun env st => (src env st).bind fun p => (lcL p.1.1 tg ifs elt (wipeE env vs) p.1.2 p.2).map fun q => (.loc q.2.length, q.2 ++ [q.1])
def sAug (i : Nat) (o : Sto → D → D → Option D) (f : DE) : DS := fun env st => match env[i]? with
  | some (some x) => (f env st).bind fun p => (o p.2 x p.1).map fun d => (.nx (env.set i (some d)), p.2)
  | _ => none
def whileL (c : DB) (body : DS) : Nat → DS
  | 0, _, _ => none
  | n + 1, env, st => (c env st).bind fun p => if p.1 then (body env p.2).bind fun q => match q.1 with
      | .nx env' => whileL c body n env' q.2
      | .ct env' => whileL c body n env' q.2
      | .bk env' => some (.nx env', q.2)
      | .rt v => some (.rt v, q.2) else some (.nx env, p.2)
section
variable {K : Fg} {σ : L2.St} {H : Hp} {D : Ends}
theorem s_nil (h : tS K sNil D σ H) : tNext D σ H := by
  obtain ⟨r, m, st, env, fl, st', g, e, f, q⟩ := h
  cases f
  exact q m H σ (Le.refl m H) g e
theorem s_seq {a b : DS} (h : tS K (sSeq a b) D σ H) : tSeq (tS K a) (tS K b) D σ H := by
  obtain ⟨r, m, st, env, fl, st', g, e, f, q⟩ := h
  unfold sSeq at f
  obtain ⟨⟨fa, s1⟩, f1, f⟩ := Option.bind_eq_some_iff.mp f
  refine ⟨r, m, st, env, fa, s1, g, e, f1, ?_⟩
  cases fa with
  | nx env' => exact fun m1 H1 σ1 l1 g1 e1 => ⟨r, m1, s1, env', fl, st', g1, e1, f, q.mono l1⟩
  | rt d => cases f; exact q
  | bk env' => cases f; exact q
  | ct env' => cases f; exact q
theorem s_expr {fe : DE} (h : tS K (sExpr fe) D σ H) : tDrop (tE K fe) D σ H := by
  obtain ⟨r, m, st, env, fl, st', g, e, f, q⟩ := h
  unfold sExpr at f
  obtain ⟨⟨x, s1⟩, f1, f⟩ := Option.bind_eq_some_iff.mp f
  cases f
  exact ⟨r, m, st, env, x, _, g, e, f1, fun m1 H1 v l1 g1 _ => q m1 H1 σ l1 g1 (e.mono l1)⟩
theorem s_ret {fe : DE} (h : tS K (sRet fe) D σ H) : tRet (tE K fe) D σ H := by
  obtain ⟨r, m, st, env, fl, st', g, e, f, q⟩ := h
  unfold sRet at f
  obtain ⟨⟨x, s1⟩, f1, f⟩ := Option.bind_eq_some_iff.mp f
  cases f
  exact ⟨r, m, st, env, x, _, g, e, f1, fun m1 H1 v l1 g1 d1 => q m1 H1 v l1 g1 d1⟩
theorem s_retN (h : tS K sRetN D σ H) : tRetN D σ H := by
  obtain ⟨r, m, st, env, fl, st', g, e, f, q⟩ := h
  cases f
  exact q m H _ (Le.refl m H) g rfl
theorem s_brk (h : tS K sBrk D σ H) : tBreak D σ H := by
  obtain ⟨r, m, st, env, fl, st', g, e, f, q⟩ := h
  cases f
  exact q m H σ (Le.refl m H) g e
theorem s_ct (h : tS K sCt D σ H) : tCont D σ H := by
  obtain ⟨r, m, st, env, fl, st', g, e, f, q⟩ := h
  cases f
  exact q m H σ (Le.refl m H) g e
theorem s_if {c : DB} {a b : DS} (h : tS K (sIf c a b) D σ H) : tIfS (tBo K c) (tS K a) (tS K b) D σ H := by
  obtain ⟨r, m, st, env, fl, st', g, e, f, q⟩ := h
  unfold sIf at f
  obtain ⟨⟨x, s1⟩, f1, f⟩ := Option.bind_eq_some_iff.mp f
  refine ⟨r, m, st, env, x, s1, g, e, f1, fun m1 H1 l1 g1 => ?_⟩
  cases x with
  | true => exact ⟨r, m1, s1, env, fl, st', g1, e.mono l1, f, q.mono l1⟩
  | false => exact ⟨r, m1, s1, env, fl, st', g1, e.mono l1, f, q.mono l1⟩
theorem s_asg {fe : DE} {gg : DG} {ws : List Nat} (h : tS K (sAsg fe gg) D σ H) : tAsg (tE K fe) (tG K ws gg) D σ H := by
  obtain ⟨r, m, st, env, fl, st', g, e, f, q⟩ := h
  unfold sAsg at f
  obtain ⟨⟨x, s1⟩, f1, f⟩ := Option.bind_eq_some_iff.mp f
  obtain ⟨⟨e2, s2⟩, f2, f⟩ := Option.bind_eq_some_iff.mp f
  cases f
  refine ⟨r, m, st, env, x, s1, g, e, f1, fun m1 H1 v l1 g1 d1 => ?_⟩
  exact ⟨r, m1, s1, env, x, e2, s2, g1, e.mono l1, d1, f2, fun m2 H2 σ2 l2 g2 er2 _ => q m2 H2 σ2 (l1.trans l2) g2 er2⟩
theorem s_aug {i : Nat} {o : Sto → Tg.D → Tg.D → Option Tg.D} {rr : R2} (ho : OpD K o rr) {fe : DE} (h : tS K (sAug i o fe) D σ H) : tAug i (tE K fe) rr D σ H := by
  obtain ⟨r, m, st, env, fl, st', g, e, f, q⟩ := h
  unfold sAug at f
  split at f
  · next x hx =>
    obtain ⟨⟨y, s1⟩, f1, f⟩ := Option.bind_eq_some_iff.mp f
    obtain ⟨d, f2, f⟩ := Option.map_eq_some_iff.mp f
    cases f
    obtain ⟨v, a, b⟩ := e.2 i _ hx
    refine ⟨v, a, r, m, st, env, y, s1, g, e, f1, fun m1 H1 w l1 g1 d1 => ?_⟩
    exact ho r m1 s1 H1 x y d v w _ g1 (b.mono l1) d1 f2 fun m2 H2 z l2 g2 d2 => q m2 H2 _ (l1.trans l2) g2 ((e.mono (l1.trans l2)).set d2)
  · cases f
theorem s_for {src : DI} {tg : DG} {body : DS} {ws : List Nat} (h : tS K (sFor src tg body) D σ H) : tFor (tI K src) (tG K ws tg) (tS K body) D σ H := by
  obtain ⟨r, m, st, env, fl, st', g, e, f, q⟩ := h
  unfold sFor at f
  obtain ⟨⟨⟨chk, ds⟩, s1⟩, f1, f⟩ := Option.bind_eq_some_iff.mp f
  have f : forL chk tg body ds env s1 = some (fl, st') := f
  refine ⟨r, m, st, env, chk, ds, s1, g, e, f1, fun m1 H1 J l1 g1 S => ?_⟩
  refine ⟨fun i k σ' H' => k = ds.length - i ∧ i ≤ ds.length ∧ ∃ m2 s2 e2, Le m1 H1 m2 H' ∧ Good K r m2 s2 H' ∧ EnvR K r m2 H' e2 σ' ∧ forL chk tg body (ds.drop i) e2 s2 = some (fl, st'),
    ⟨ds.length, rfl, Nat.zero_le _, m1, s1, env, Le.refl _ _, g1, e.mono l1, f⟩, ?_⟩
  rintro i k σ2 H2 ⟨rfl, hi, m2, s2, e2, l2, g2, er2, f2⟩
  by_cases hlt : i < ds.length
  · rw [List.drop_eq_getElem_cons hlt] at f2
    unfold forL at f2
    split at f2
    · next hc =>
      obtain ⟨⟨e3, s3⟩, f3, f2⟩ := Option.bind_eq_some_iff.mp f2
      obtain ⟨⟨fb, s4⟩, f4, f5⟩ := Option.bind_eq_some_iff.mp f2
      refine .inr ⟨S.go r m2 H2 s2 i (fun b hb => .inl hb) l2 g2 hc hlt, fun σ' H' => i + 1 ≤ ds.length ∧ ∃ m2 s2 e2, Le m1 H1 m2 H' ∧ Good K r m2 s2 H' ∧ EnvR K r m2 H' e2 σ' ∧ forL chk tg body (ds.drop (i + 1)) e2 s2 = some (fl, st'), fun σ' H' hN => ⟨ds.length - (i + 1), by omega, rfl, hN.1, hN.2⟩, fun x H3 y => ?_⟩
      obtain ⟨l3, g3, d3⟩ := S.yld r m2 H2 s2 i x H3 _ (fun b hb => .inl hb) l2 g2 hc (List.getElem?_eq_getElem hlt) y
      refine ⟨r, m2, s2, e2, _, e3, s3, g3, er2.mono l3, d3, f3, fun m4 H4 σ4 l4 g4 er4 _ => ?_⟩
      refine ⟨r, m4, s3, e3, fb, s4, g4, er4, f4, ?_⟩
      have lT : Le m1 H1 m4 H4 := (l2.trans l3).trans l4
      cases fb with
      | nx e5 => exact fun m5 H5 σ5 l5 g5 er5 => ⟨hlt, m5, s4, e5, lT.trans l5, g5, er5, f5⟩
      | ct e5 => exact fun m5 H5 σ5 l5 g5 er5 => ⟨hlt, m5, s4, e5, lT.trans l5, g5, er5, f5⟩
      | bk e5 =>
        cases f5
        exact fun m5 H5 σ5 l5 g5 er5 => q m5 H5 σ5 (l1.trans (lT.trans l5)) g5 er5
      | rt d =>
        cases f5
        exact fun m5 H5 v l5 g5 d5 => q m5 H5 v (l1.trans (lT.trans l5)) g5 d5
    · cases f2
  · have hz : i = ds.length := by omega
    subst hz
    rw [List.drop_length] at f2
    unfold forL at f2
    split at f2
    · next hc =>
      cases f2
      exact .inl ⟨S.stop r m2 H2 _ (fun b hb => .inl hb) l2 g2 hc, q m2 H2 σ2 (l1.trans l2) g2 er2⟩
    · cases f2
theorem s_while {c : DB} {body : DS} {n : Nat} (h : tS K (whileL c body n) D σ H) : tWhile (tBo K c) (tS K body) D σ H := by
  obtain ⟨r, m, st, env, fl, st', g, e, f, q⟩ := h
  refine ⟨fun k σ' H' => ∃ m2 s2 e2, Le m H m2 H' ∧ Good K r m2 s2 H' ∧ EnvR K r m2 H' e2 σ' ∧ whileL c body k e2 s2 = some (fl, st'), ⟨n, m, st, env, Le.refl _ _, g, e, f⟩, ?_⟩
  rintro k σ2 H2 ⟨m2, s2, e2, l2, g2, er2, f2⟩
  cases k with
  | zero => cases f2
  | succ k =>
    unfold whileL at f2
    obtain ⟨⟨b, s3⟩, f3, f4⟩ := Option.bind_eq_some_iff.mp f2
    refine ⟨r, m2, _, e2, b, s3, g2, er2, f3, fun m3 H3 l3 g3 => ?_⟩
    cases b with
    | true =>
      obtain ⟨⟨fb, s4⟩, f4, f5⟩ := Option.bind_eq_some_iff.mp f4
      rw [if_pos rfl]
      refine ⟨fun σ' H' => ∃ m2 s2 e2, Le m H m2 H' ∧ Good K r m2 s2 H' ∧ EnvR K r m2 H' e2 σ' ∧ whileL c body k e2 s2 = some (fl, st'), fun σ' H' hN => ⟨k, Nat.lt_succ_self k, hN⟩, ?_⟩
      refine ⟨r, m3, s3, e2, fb, s4, g3, er2.mono l3, f4, ?_⟩
      have lT : Le m H m3 H3 := l2.trans l3
      cases fb with
      | nx e5 => exact fun m5 H5 σ5 l5 g5 er5 => ⟨m5, s4, e5, lT.trans l5, g5, er5, f5⟩
      | ct e5 => exact fun m5 H5 σ5 l5 g5 er5 => ⟨m5, s4, e5, lT.trans l5, g5, er5, f5⟩
      | bk e5 =>
        cases f5
        exact fun m5 H5 σ5 l5 g5 er5 => q m5 H5 σ5 (lT.trans l5) g5 er5
      | rt d =>
        cases f5
        exact fun m5 H5 v l5 g5 d5 => q m5 H5 v (lT.trans l5) g5 d5
    | false =>
      cases f4
      rw [if_neg Bool.false_ne_true]
      exact q m3 H3 σ2 (l2.trans l3) g3 (er2.mono l3)
theorem le_res {m1 m2 : List Addr} {H1 H2 : Hp} {p : Addr} {o : HO} (l : Le m1 H1 m2 H2) (hp : H1 p = none) : Le m1 H1 m2 (upd H2 p o) :=
  ⟨l.ext, fun a u e n => by
    rw [upd_ne (ne_of_none e hp)]
    exact l.keep a u e n, fun a e => by
    by_cases q : a = p
    · rw [q]; exact hp
    · rw [upd_ne q] at e
      exact l.there a e⟩
/-- the loop of a comprehension -/
theorem lc_run {r m1 : List Addr} {H1 : Hp} {s1 st' : Sto} {J : It} {chk : Sto → Bool} {ds out : List Tg.D} {tg : DG} {ifs : DB} {elt : DE} {env : En} {vs ws : List Nat} {p : Addr} {Qd : Hp → Prop}
    (S : Strm K r J chk ds m1 H1) (g1 : Good K r m1 s1 H1) (er : EnvR K r m1 H1 env σ) (f : lcL chk tg ifs elt (wipeE env vs) ds s1 = some (out, st')) (hp : H1 p = none) (hw : ∀ i ∈ ws, i ∈ vs)
    (fin : ∀ m2 H2 acc, Le m1 H1 m2 H2 → Good K (p :: r) m2 st' H2 → p ∉ m2 → H2 p = some (.lst acc) → acc.length ≤ sizeLine → Dens K (p :: r) m2 H2 out acc → Qd H2) :
    ∃ W : Nat → Nat → Hp → Prop, (∃ k, W 0 k (upd H1 p (.lst []))) ∧ ∀ i k H, W i k H →
      (J.stop i H ∧ Qd H) ∨ (J.go i H ∧ ∃ Nx : Hp → Prop, (∀ H', Nx H' → ∃ k', k' < k ∧ W (i + 1) k' H') ∧ ∀ x H', J.yld i H x H' → tG K ws tg x (L2.wipe σ vs) H' fun σ2 H2 => L2.wipe σ2 vs = L2.wipe σ vs ∧ tBo K ifs σ2 H2 fun b H3 =>
        if b = true then tE K elt σ2 H3 fun y H4 => ∃ acc, H4 p = some (.lst acc) ∧ acc.length < sizeLine ∧ Nx (upd H4 p (.lst (acc ++ [y]))) else Nx H3) := by
  have hr : Rs r (p :: r) H1 := fun b hb => (List.mem_cons.mp hb).elim (fun e => .inr (by rw [e]; exact hp)) .inl
  have er0 : EnvR K (p :: r) m1 H1 (wipeE env vs) (L2.wipe σ vs) := (er.ext hr).wipe vs
  refine ⟨fun i k H' => k = ds.length - i ∧ i ≤ ds.length ∧ ∃ m2 s2 acc dn rest, Le m1 H1 m2 H' ∧ Good K (p :: r) m2 s2 H' ∧ p ∉ m2 ∧ H' p = some (.lst acc) ∧ acc.length ≤ i ∧ Dens K (p :: r) m2 H' dn acc ∧ lcL chk tg ifs elt (wipeE env vs) (ds.drop i) s2 = some (rest, st') ∧ dn ++ rest = out,
    ⟨ds.length, rfl, Nat.zero_le _, m1, s1, [], [], out, le_res (Le.refl _ _) hp, ?_, (g1.fresh hp).1, upd_same, Nat.le_refl _, rfl, f, rfl⟩, ?_⟩
  · refine ⟨g1.len, g1.nd, fun a ha e => ?_, fun i a c e q => ?_⟩
    · rcases List.mem_cons.mp ha with z | z
      · rw [z, upd_same] at e
        cases e
      · exact g1.res a z ((le_upd (m := m1) hp).there a e)
    · obtain ⟨xs, h1, z, dd⟩ := g1.cell i a c e q
      refine ⟨xs, ?_, z, (dd.ext hr).mono (le_upd hp)⟩
      rw [upd_ne (ne_of_none h1 hp)]
      exact h1
  · rintro i k H2 ⟨rfl, hi, m2, s2, acc, dn, rest, l2, g2, np, hP, hacc, dacc, f2, eo⟩
    by_cases hlt : i < ds.length
    · rw [List.drop_eq_getElem_cons hlt] at f2
      unfold lcL at f2
      split at f2
      · next hc =>
        obtain ⟨⟨e3, s3⟩, f3, f2⟩ := Option.bind_eq_some_iff.mp f2
        obtain ⟨⟨b, s4⟩, f4, f5⟩ := Option.bind_eq_some_iff.mp f2
        refine .inr ⟨S.go _ m2 H2 s2 i hr l2 g2 hc hlt, fun H' => ∃ m2 s2 acc dn rest, Le m1 H1 m2 H' ∧ Good K (p :: r) m2 s2 H' ∧ p ∉ m2 ∧ H' p = some (.lst acc) ∧ acc.length ≤ i + 1 ∧ Dens K (p :: r) m2 H' dn acc ∧ lcL chk tg ifs elt (wipeE env vs) (ds.drop (i + 1)) s2 = some (rest, st') ∧ dn ++ rest = out, fun H' hN => ⟨ds.length - (i + 1), by omega, rfl, hlt, hN⟩, fun x H3 y => ?_⟩
        obtain ⟨l3, g3, d3⟩ := S.yld _ m2 H2 s2 i x H3 _ hr l2 g2 hc (List.getElem?_eq_getElem hlt) y
        refine ⟨p :: r, m2, s2, wipeE env vs, _, e3, s3, g3, (er0.mono l2).mono l3, d3, f3, fun m4 H4 σ4 l4 g4 er4 o4 => ⟨wipe_off o4 hw, ?_⟩⟩
        refine ⟨p :: r, m4, s3, e3, b, s4, g4, er4, f4, fun m5 H5 l5 g5 => ?_⟩
        have lA : Le m2 H2 m5 H5 := (l3.trans l4).trans l5
        have hP5 : H5 p = some (.lst acc) := lA.keep p _ hP np
        have np5 : p ∉ m5 := lA.out1 hP np
        cases b with
        | true =>
          obtain ⟨⟨y1, s6⟩, f6, f7⟩ := Option.bind_eq_some_iff.mp f5
          obtain ⟨⟨out', s7⟩, f8, f9⟩ := Option.map_eq_some_iff.mp f7
          cases f9
          refine iteT ?_
          refine ⟨p :: r, m5, s4, e3, y1, s6, g5, er4.mono l5, f6, fun m6 H6 v6 l6 g6 d6 => ?_⟩
          have lB : Le m2 H2 m6 H6 := lA.trans l6
          have hP6 : H6 p = some (.lst acc) := lB.keep p _ hP np
          have np6 : p ∉ m6 := lB.out1 hP np
          have hz : acc.length < sizeLine := Nat.lt_of_le_of_lt hacc (Nat.lt_of_lt_of_le hlt S.len)
          refine ⟨acc, hP6, hz, m6, s6, acc ++ [v6], dn ++ [y1], out', le_res (l2.trans lB) hp, ?_, np6, upd_same, ?_, ?_, f8, ?_⟩
          · refine g6.same same_upd (fun a ha e => ?_) fun a xs ha e => ?_
            · by_cases q : a = p
              · rw [q, upd_same] at e
                cases e
              · rw [upd_ne q] at e
                exact g6.res a ha e
            · rw [upd_ne (fun z => np6 (by rw [← z]; exact ha))]
              exact e
          · rw [List.length_append]
            exact Nat.succ_le_succ hacc
          · exact ((dacc.mono lB).append (Dens.one d6)).same same_upd
          · rw [List.append_assoc]
            exact eo
        | false =>
          refine iteF ?_
          exact ⟨m5, s4, acc, dn, rest, l2.trans lA, g5, np5, hP5, Nat.le_succ_of_le hacc, dacc.mono lA, f5, eo⟩
      · cases f2
    · have hz : i = ds.length := by omega
      subst hz
      rw [List.drop_length] at f2
      unfold lcL at f2
      split at f2
      · next hc =>
        cases f2
        rw [List.append_nil] at eo
        subst eo
        exact .inl ⟨S.stop _ m2 H2 _ hr l2 g2 hc, fin m2 H2 acc l2 g2 np hP (Nat.le_trans hacc S.len) dacc⟩
      · cases f2
theorem t_lc {Q : VK} {src : DI} {tg : DG} {ifs : DB} {elt : DE} {vs ws : List Nat} (hw : ∀ i ∈ ws, i ∈ vs) (h : tE K (eLc vs src tg ifs elt) σ H Q) : tLc (tI K src) (tG K ws tg) (tBo K ifs) (tE K elt) vs σ H Q := by
  obtain ⟨r, m, st, env, d, st', g, e, f, q⟩ := h
  unfold eLc at f
  obtain ⟨⟨⟨chk, ds⟩, s1⟩, f1, f⟩ := Option.bind_eq_some_iff.mp f
  obtain ⟨⟨out, s2⟩, f2, f⟩ := Option.map_eq_some_iff.mp f
  cases f
  refine ⟨r, m, st, env, chk, ds, s1, g, e, f1, fun m1 H1 J l1 g1 S p hp => ?_⟩
  refine lc_run S g1 (e.mono l1) f2 hp hw fun m2 H2 acc l2 g2 np hP hz dd => ?_
  have g3 : Good K r m2 s2 H2 := g2.same same_drop (fun a ha => g2.res a (List.mem_cons_of_mem _ ha)) fun _ _ _ e => e
  exact q m2 H2 (.ref p) (l1.trans l2) g3 ⟨p, acc, rfl, hP, ⟨np, (g1.fresh hp).2⟩, hz, dd.same same_drop⟩
theorem t_mlc {Q : VK} {src : DI} {tg : DG} {ifs : DB} {elt : DE} {vs ws : List Nat} (hw : ∀ i ∈ ws, i ∈ vs) (h : tE K (eMLc vs src tg ifs elt) σ H Q) : tLc (tI K src) (tG K ws tg) (tBo K ifs) (tE K elt) vs σ H Q := by
  obtain ⟨r, m, st, env, d, st', g, e, f, q⟩ := h
  unfold eMLc at f
  obtain ⟨⟨⟨chk, ds⟩, s1⟩, f1, f⟩ := Option.bind_eq_some_iff.mp f
  obtain ⟨⟨out, s2⟩, f2, f⟩ := Option.map_eq_some_iff.mp f
  cases f
  refine ⟨r, m, st, env, chk, ds, s1, g, e, f1, fun m1 H1 J l1 g1 S p hp => ?_⟩
  refine lc_run S g1 (e.mono l1) f2 hp hw fun m2 H2 acc l2 g2 np hP hz dd => ?_
  have lT : Le m H m2 H2 := l1.trans l2
  have hp0 : H p = none := l1.there p hp
  refine q (m2 ++ [p]) H2 (.ref p) ⟨?_, lT.keep, lT.there⟩ ⟨?_, ?_, fun a ha => g2.res a (List.mem_cons_of_mem _ ha), fun i a c e1 e2 => ?_⟩ ⟨p, rfl, ?_⟩
  · obtain ⟨t, e1, e2⟩ := lT.ext
    refine ⟨t ++ [p], by rw [e1, List.append_assoc], fun a ha => ?_⟩
    rcases List.mem_append.mp ha with z | z
    · exact e2 a z
    · rw [List.mem_singleton.mp z]
      exact hp0
  · rw [List.length_append, List.length_append, g2.len]
    rfl
  · rw [List.nodup_append]
    refine ⟨g2.nd, by simp, fun a ha b hb => ?_⟩
    rw [List.mem_singleton.mp hb]
    intro e0
    rw [e0] at ha
    exact np ha
  · by_cases hi : i < m2.length
    · rw [List.getElem?_append_left hi] at e1
      rw [List.getElem?_append_left (by rw [← g2.len]; exact hi)] at e2
      obtain ⟨ys, a1, a2, a3⟩ := g2.cell i a c e1 e2
      exact ⟨ys, a1, a2, a3.same same_adopt⟩
    · have hm : m2.length ≤ i := Nat.le_of_not_lt hi
      rw [List.getElem?_append_right hm] at e1
      rw [List.getElem?_append_right (by rw [← g2.len]; exact hm)] at e2
      have hz0 : i - m2.length = 0 := by
        have := (List.getElem?_eq_some_iff.mp e1).1
        simp at this
        omega
      rw [hz0] at e1
      rw [← g2.len, hz0] at e2
      simp at e1 e2
      subst e1 e2
      exact ⟨acc, hP, hz, dd.same same_adopt⟩
  · rw [← g2.len, List.getElem?_append_right (Nat.le_refl _), Nat.sub_self]
    rfl
end
end Tg
/-! Defs whose callers stand under no running repr; calls of them; the law's own call. -/
namespace Tg
open PySem PySem.Spec PyProof.Rows L2

structure FnG (P : Program) (w : World) (K : Fg) (mg : Str → Option Value) (base : Heap) (k : Nat) (f : Addr) (fd : FuncData) (ps : List Str) (sp : List V → Hp → VK → Prop) : Prop where
  len : ∀ vs H Q, sp vs H Q → vs.length = ps.length
  run : ∀ (A : Around) (outer : List Env) (s : Shared) (H : Hp) (args : Args) (us : List Value) (vs : List V) (Q : VK), A.guards = some [] → Room k A →
    Env0 P w K mg base A outer s H → BindsTo s fd args (ps.zip us) → Vals vs us → sp vs H Q →
    codeAny (model P w) A (.call (.ref f) args) (CR CX0 outer P w H s Q E0) s
theorem FnG.up {P : Program} {w : World} {K : Fg} {mg : Str → Option Value} {base : Heap} {j k : Nat} {f : Addr} {fd : FuncData} {ps : List Str} {sp : List V → Hp → VK → Prop}
    (F : FnG P w K mg base j f fd ps sp) (h : j ≤ k) : FnG P w K mg base k f fd ps sp :=
  ⟨F.len, fun A o s H ar us vs Q g rm => F.run A o s H ar us vs Q g (rm.mono h)⟩
theorem FnG.imp {P : Program} {w : World} {K : Fg} {mg : Str → Option Value} {base : Heap} {k : Nat} {f : Addr} {fd : FuncData} {ps : List Str} {sp sp' : List V → Hp → VK → Prop}
    (F : FnG P w K mg base k f fd ps sp) (h : ∀ vs H Q, sp' vs H Q → sp vs H Q) : FnG P w K mg base k f fd ps sp' :=
  ⟨fun vs H Q q => F.len vs H Q (h _ _ _ q), fun A o s H ar us vs Q g rm e b r q => F.run A o s H ar us vs Q g rm e b r (h _ _ _ q)⟩

section
variable {X : Cx} {k : Nat} {f : Addr} {fd : FuncData} {ps : List Str} {sp : List V → Hp → VK → Prop}
theorem call_g {pins : List (Addr × Obj)} {σ : L2.St} {H : Hp} {s : Shared} {Q : VK} {us : List Value} {vs : List V} (F : FnG X.prog X.w X.K X.mg X.base k f fd ps sp)
    (gd : X.A.guards = some []) (rm : Room k X.A) (hb : Binds X.K fd ps []) (I : Inv X pins σ H s) (rv : Vals vs us) (h : sp vs H Q) :
    wpAny (model X.prog X.w) X.A (call (.ref f) us) (EP X pins σ Q) X.xe s := by
  have hl : (us ++ []).length = ps.length := by
    rw [List.append_nil, ← rv.length]
    exact F.len _ _ _ h
  have hB := hb s us I.kIn hl
  rw [List.append_nil] at hB
  refine wpAny_call (codeAny_mono (F.run X.A X.stack s H _ us vs Q gd rm I.env0 hB rv h) fun res s2 q => ?_)
  match res, q with
  | .ok (.ret u), q => exact I.after q
  | .ok .next, q => exact False.elim q
  | .ok .brk, q => exact False.elim q
  | .ok .cont, q => exact False.elim q
  | .error e, q => exact False.elim q
def tCallG (sp : List V → Hp → VK → Prop) (t : TA) : TE := fun σ H Q => t σ H fun vs H1 => sp vs H1 Q
theorem pe_callG {x : Str} {p pos : Pos} {e : Expr} {es : List Expr} {t : TA} (F : FnG X.prog X.w X.K X.mg X.base k f fd ps sp) (gd : X.A.guards = some []) (rm : Room k X.A) (hg : Gl X x)
    (hm : X.mg x = some (.ref f)) (hk : PySem.W.keepIn X.K (.ref f) = true) (hb : Binds X.K fd ps []) (ha : PA X (e :: es) t) (hdb : (x == ("__debug__" : Str)) = false)
    (he : starEach (e :: es) X.env = (false, eval e X.env) :: starEach es X.env) (hpl : (backTo pos (starEach es X.env)).any (·.1) = false) :
    PE X (.Call (.Name x p) (e :: es) [] pos) (tCallG sp t) :=
  ⟨fun pins s σ H Q I h => wpAny_Call_Name_kw (ld_glob I hg hm
    (PySem.W.callWith_K (h₀ := X.base) I.ok.mod.kin hk (thn (ha.run pos pins s σ H _ I h) fun us s1 ⟨vs, H1, I1, rv, q⟩ => ⟨I1.kIn, call_g F gd rm hb I1 rv q⟩) he hpl) hdb)⟩
theorem pe_callG0 {x : Str} {p pos : Pos} (F : FnG X.prog X.w X.K X.mg X.base k f fd ps sp) (gd : X.A.guards = some []) (rm : Room k X.A) (hg : Gl X x)
    (hm : X.mg x = some (.ref f)) (hk : PySem.W.keepIn X.K (.ref f) = true) (hb : Binds X.K fd ps []) (hdb : (x == ("__debug__" : Str)) = false) :
    PE X (.Call (.Name x p) [] [] pos) (tCallG sp tNil) :=
  ⟨fun pins s σ H Q I h => wpAny_Call_Name_kw (ld_glob I hg hm (PySem.W.callWith_K0 I.kIn hk (call_g (us := []) F gd rm hb I .nil h)) hdb)⟩
end

/-- a def of the text keeps a promise, by its body -/
theorem fn_g {P : Program} {w : World} {K : Fg} {mg : Str → Option Value} {base : Heap} {k : Nat} {f : Addr} {x qual : Str} {params : Arguments} {body : List Stmt} {scope : Scope} {dvs : List V} {kws : List (Str × V)} {fd : FuncData} {N ps : List Str} {sp : List V → Hp → VK → Prop}
    (F : FunD K x qual params body scope dvs kws f fd) (S : FnScope N ps scope) (len : ∀ vs H Q, sp vs H Q → vs.length = ps.length)
    (hbody : ∀ (cdv : Value) (A : Around) (outer : List Env) (s : Shared) (H : Hp) (vs : List V) (Q : VK), A.guards = some [] → Room k (A.deeper (envOfC qual scope s.heap.objs.size f cdv)) → sp vs H Q →
      ∃ t, PSs (cxOf CX0 P w K mg base N qual scope f cdv A outer s H E0).nox body t ∧ t { nx := fun _ H' => Q .non H', rt := Q } (L2.start N vs) H) :
    FnG P w K mg base (k + 1) f fd ps sp := by
  obtain ⟨oc, od, dV, kV, doc, pm, an, cdv, ct, osl, rfl, lk, hcd, _, _⟩ := F.ex
  constructor
  · exact len
  · intro A outer s H args us vs Q gd rm e0 hb rv q
    have hl := len _ _ _ q
    have old : ∀ b o, base.get? b = some o → s.heap.get? b = some o := fun b o e => (e0.bs b o e).1
    have KX := e0.mod.kin.keeps old
    have hkind : ∀ y ∈ ps.zip us, scope.names.lookup y.1 = some .local ∨
        (scope.names.lookup y.1 = some .cell ∧ ((cellsFrom (s.heap.objs.size + 1) scope.names []).lookup y.1).isSome = true) := by
      rintro ⟨n, v⟩ hy
      exact (S.par n (List.of_mem_zip hy).1).imp id fun z => ⟨z, PySem.W.cellsFrom_some _ _ _ (.inl z)⟩
    refine codeAny_call_function rm.depth (KX _ _ lk) rfl S.co S.gen rfl (PySem.W.codeRec_of KX hcd) (hb _ _ _ _ ?_)
    refine wpAny_newFunctionEnv_cells S.kind hkind ?_
    rintro env rfl s1 inc
    refine ⟨(e0.mod.nolimit.keeps old).keeps inc.toInCall.keep, codeAny_func ?_⟩
    obtain ⟨t, ht, hq⟩ := hbody cdv A outer s H vs Q gd (rm.deeper _) q
    have I0 : Inv (cxOf CX0 P w K mg base N qual scope f cdv A outer s H E0) [] (L2.start N vs) H s1 := inv_start S rm.hd e0 hl rv inc
    refine wpAny_mono (ht.nox.run [] s1 _ H _ I0 hq) (fun fl s2 h2 => ?_) fun _ _ z => z
    match fl, h2 with
    | .ret u, ⟨v, σ', H', J, ru, q2⟩ => exact ⟨v, H', J.os, J.bare, J.base, J.hok, ru, q2⟩
    | .next, ⟨σ', H', J, q2⟩ => exact ⟨.non, H', J.os, J.bare, J.base, J.hok, rfl, q2⟩
    | .brk, ⟨_, _, _, z⟩ => exact False.elim z
    | .cont, ⟨_, _, _, z⟩ => exact False.elim z

/-- the law's call -/
theorem law_g {P : Program} {w : World} {K : Fg} {mg mb : Str → Option Value} {k : Nat} {fa a : Addr} {fd : FuncData} {x : Str} {sp : List V → Hp → VK → Prop} {s1 : Shared} {vs : List Value} {ns : List Int}
    (KX : K.In s1.heap) (hns : s1.heap.Ns mainGlobals mg) (hb : s1.heap.Ns builtinsNs mb) (hbb : ∀ x : Str, x ≠ "__name__" → mb x = bootBuiltins x) (hlim : s1.heap.NoLimit) (hg : s1.gens = #[])
    (ha : s1.heap.get? a = some { cls := .type "list", data := .seq vs.toArray }) (hi : IntsAre vs ns) (hl : ns.length ≤ sizeLine) (rm : Room k callerA)
    (F : ∀ base : Heap, K.In base → base.Ns mainGlobals mg → FnG P w K mg base k fa fd [x] sp) (hbind : BindsTo s1 fd ⟨[.ref a], []⟩ [(x, .ref a)])
    (hsp : ∀ H : Hp, SqL K H a (ns.map V.int) → sp [.ref a] H (fun v _ => v = .bl true)) :
    codeAny (model P w) callerA (.call (.ref fa) ⟨[.ref a], []⟩) (fun r s' => r = .ok (.ret (.bool true)) ∧ OldK s1.heap s'.heap ∧ s'.os = s1.os ∧ AllBare s'.gens) s1 := by
  have rv : Vals (ns.map V.int) vs := vals_ints hi
  -- nothing is tracked but, where it is none of the module's own objects, the script
  suffices h : ∀ H : Hp, (∀ b u, H b = some u → b = a ∧ K.lookup a = none ∧ ∃ o xs, u = .frz o (.lst xs)) → SqL K H a (ns.map V.int) → HOk P w H s1.heap →
      codeAny (model P w) callerA (.call (.ref fa) ⟨[.ref a], []⟩) (fun r s' => r = .ok (.ret (.bool true)) ∧ OldK s1.heap s'.heap ∧ s'.os = s1.os ∧ AllBare s'.gens) s1 by
    cases hk : K.lookup a with
    | some o =>
      have e0 := KX a o hk
      rw [ha] at e0
      cases e0
      refine h (fun _ => none) (fun b u z => nomatch z) (.inr ⟨_, vs.toArray, _, hk, rfl, rfl, rfl, ?_, by simpa using rv⟩) fun b u z => nomatch z
      rw [List.size_toArray, hi.length]
      exact hl
    | none =>
      have z : (ns.map V.int).length ≤ sizeLine := by rw [List.length_map]; exact hl
      refine h (fun b => if b = a then some (.frz { cls := .type "list", data := .seq vs.toArray } (.lst (ns.map V.int))) else none) ?_ (.inl (.inr ⟨_, if_pos rfl⟩)) ?_
      · intro b u e
        split at e
        · next hb => cases e; exact ⟨hb, hk, _, _, rfl⟩
        · cases e
      · intro b u e
        dsimp only at e
        split at e
        · next hb => cases e; subst hb; exact ⟨ha, z, vs, _, rv, ha⟩
        · cases e
  intro H only hS hok
  -- what is not tracked
  have get0 : ∀ {b : Addr} {o : Obj}, s1.heap.get? b = some o → (b = a → H b = none) → (hidT s1.heap H).get? b = some o := fun {b o} e n => hidT_get e (by
    cases q : H b with
    | none => rfl
    | some u => rw [n (only b u q).1] at q; cases q)
  have nsK : ∀ {b : Addr} {m : Str → Option Value}, s1.heap.Ns b m → (hidT s1.heap H).Ns b m := fun {b m} ⟨o, es, ep, e, d, r⟩ => ⟨o, es, ep, get0 e (fun z => by
    subst z
    rw [ha] at e
    cases e
    cases d), d, r⟩
  have kB : K.In (hidT s1.heap H) := fun b o e => get0 (KX b o e) fun z => by
    cases q : H b with
    | none => rfl
    | some u => rw [z, (only b u q).2.1] at e; cases e
  have mB : Mod K mg (hidT s1.heap H) := ⟨kB, nsK hns, ⟨mb, nsK hb, hbb⟩, by
    obtain ⟨mc, h1, h2⟩ := hlim
    exact ⟨mc, nsK h1, h2⟩⟩
  have e0 : Env0 P w K mg (hidT s1.heap H) callerA [] s1 H := by
    refine ⟨rfl, mB, fun b o e => of_hidT e, Nat.le_of_eq (hidT_size _ _), trivial, ?_, hok, .of_eq hg⟩
    intro b z
    exact absurd (show b ∈ ([] : List Addr) from z) List.not_mem_nil
  have rs : Vals [V.ref a] [Value.ref a] := .cons rfl .nil
  refine codeAny_mono ((F _ kB (nsK hns)).run callerA [] s1 H _ [.ref a] [.ref a] _ rfl rm e0 hbind rs (hsp H hS)) fun res s2 q => ?_
  match res, q with
  | .error e, q => exact False.elim q
  | .ok .next, q => exact False.elim q
  | .ok .brk, q => exact False.elim q
  | .ok .cont, q => exact False.elim q
  | .ok (.ret u), ⟨v, H', os, bare, un, hok2, ru, qv⟩ =>
    cases (show v = .bl true from qv)
    cases (show u = Value.bool true from ru)
    refine ⟨rfl, OldK.of_keep fun b o e => ?_, os, bare⟩
    cases z : H b with
    | none =>
      refine un.keep b o e z ?_ List.not_mem_nil
      intro y
      exact absurd (show b ∈ ([] : List Addr) from y) List.not_mem_nil
    | some t =>
      obtain ⟨_, _, ob, xs, rfl⟩ := only b t z
      have e1 : s1.heap.get? b = some ob := (hok b _ z).1
      have e2 : s2.heap.get? b = some ob := (hok2 b _ (un.frzs b ob _ z)).1
      rw [e] at e1
      cases e1
      exact e2
end Tg
/-! Walks over lists and tuples alike: enumerate, zip of two and of three. -/
namespace Tg
open PySem PySem.Spec PyProof.Rows L2
/-- a list or a tuple -/
inductive Kd | l | t
namespace Kd
def sq (K : Fg) : Kd → Hp → Addr → List V → Prop
  | .l => SqL K
  | .t => SqT K
def holds : Kd → Heap → Addr → Array Value → Prop
  | .l, h => h.IsList
  | .t, h => h.IsTuple
def itr : Kd → Heap → Addr → Addr → Nat → Prop
  | .l, h => h.IsListIter
  | .t, h => h.IsTupleIter
def obj : Kd → Addr → Obj
  | .l, a => { cls := .type "list_iterator", data := .fields #[.ref a, .int 0 0] }
  | .t, a => { cls := .type "tuple_iterator", data := .fields #[.ref a, .int 0 0] }
theorem draws (k : Kd) {prog : Program} {w : World} {A : Around} (hh : A.handled = none) (it a : Addr) (hne : a ≠ it) (items : Array Value) :
    PySem.Draws prog w A it [it, a] items.size (fun i v => items[i]? = some v) (fun i h => k.itr h it a i ∧ k.holds h a items) := by
  cases k with
  | l => exact .list hh it a hne items
  | t => exact .tuple hh it a hne items
theorem starts (k : Kd) (a : Addr) (items : Array Value) : Begins (.ref a) (k.obj a) fun h => k.holds h a items := by
  cases k with
  | l => exact begins_list a items
  | t => exact begins_tuple a items
theorem itr0 (k : Kd) {h : Heap} {it a : Addr} (e : h.get? it = some (k.obj a)) : k.itr h it a 0 := by
  cases k with
  | l => exact ⟨_, e, rfl, rfl⟩
  | t => exact ⟨_, e, rfl, rfl⟩
theorem itr_obj (k : Kd) {h : Heap} {it a : Addr} {i : Nat} (e : k.itr h it a i) : ∃ o, h.get? it = some o ∧ ∀ v, o.data ≠ .cell v := by
  cases k with
  | l => obtain ⟨o, q, _, d⟩ := e; exact ⟨o, q, fun v z => by rw [d] at z; cases z⟩
  | t => obtain ⟨o, q, _, d⟩ := e; exact ⟨o, q, fun v z => by rw [d] at z; cases z⟩
theorem itr_at (k : Kd) {h h' : Heap} {it a : Addr} {i : Nat} (e : k.itr h it a i) (q : ∀ o, h.get? it = some o → h'.get? it = some o) : k.itr h' it a i := by
  cases k with
  | l => exact Heap.IsListIter.at e q
  | t => exact Heap.IsTupleIter.at e q
theorem lt (k : Kd) {h : Heap} {a : Addr} {xs : Array Value} (e : k.holds h a xs) : a < h.objs.size := by
  cases k with
  | l => obtain ⟨o, q, _⟩ := e; exact Heap.lt_size q
  | t => obtain ⟨o, q, _⟩ := e; exact Heap.lt_size q
section
variable {X : Cx} {pins : List (Addr × Obj)} {σ : L2.St} {H : Hp} {s : Shared} {a : Addr} {xs ys : List V}
theorem inv (k : Kd) (I : Inv X pins σ H s) (h : k.sq X.K H a xs) : ∃ its : List Value, Vals xs its ∧ k.holds s.heap a its.toArray := by
  cases k with
  | l => obtain ⟨its, rv, p, _⟩ := I.list h; exact ⟨its, rv, p.isList⟩
  | t => obtain ⟨its, rv, p, _⟩ := I.tuple h; exact ⟨its, rv, p⟩
theorem inj (k : Kd) (I : Inv X pins σ H s) (h : k.sq X.K H a xs) (h2 : k.sq X.K H a ys) : ys = xs := by
  cases k with
  | l => exact I.list_inj h2 h
  | t => exact I.tuple_inj h2 h
end
end Kd
/-! ### enumerate -/
def ItE (K : Fg) (k : Kd) (a : Addr) : It where
  go i H := ∃ (xs : List V) (x : V), k.sq K H a xs ∧ xs[i]? = some x
  yld i H v H' := ∃ T x, v = .ref T ∧ H T = none ∧ H' = upd H T (.tup [.int (i : Nat), x]) ∧ ∀ xs, k.sq K H a xs → xs[i]? = some x
  stop i H := ∃ xs : List V, k.sq K H a xs ∧ xs.length = i
theorem new_ok {P : Program} {w : World} {H : Hp} {h : Heap} {T : Addr} {vs : List V} {us : List Value} (hT : h.get? T = some { cls := .type "tuple", data := .seq us.toArray }) (rv : Vals vs us) (hl : vs.length ≤ 100) :
    ObjOk P w (upd H T (.tup vs)) h T (.tup vs) := by
  refine ⟨Nat.le_trans hl (by decide), us, rv, ?_⟩
  exact ⟨_, hT, rfl, _, rfl⟩
theorem turn_en {P : Program} {w : World} {K : Fg} {elts : List Expr} {kk : Nat} {tpos : Pos} (k : Kd) {a e it : Addr} (hei : e ≠ it) (hae : a ≠ e) (hai : a ≠ it) :
    Turn P w K (.Tuple elts kk tpos) (ItE K k a) [e, it] e (fun i h => (∃ old, IsEnum h e it ((i : Nat) : Int) old) ∧ k.itr h it a i) where
  mem := List.mem_cons_self
  obj := by
    rintro i h ⟨⟨old, he⟩, hi⟩ b hb
    simp only [List.mem_cons, List.not_mem_nil, or_false] at hb
    rcases hb with rfl | rfl
    · exact ⟨_, he, fun v q => nomatch q⟩
    · exact k.itr_obj hi
  keep := by
    rintro i h h' ⟨⟨old, he⟩, hi⟩ hk
    exact ⟨⟨old, hk e List.mem_cons_self _ he⟩, k.itr_at hi fun o q => hk it (by simp) o q⟩
  item := by
    rintro X rfl rfl rfl hc i pins s σ H E I hf ⟨⟨old, he⟩, hi⟩ ⟨xs, x, hq, hx⟩
    obtain ⟨its, rv, p⟩ := k.inv I hq
    obtain ⟨u, hu, ru⟩ := rv.get hx
    have el : e < s.heap.objs.size := Heap.lt_size he
    have il : it < s.heap.objs.size := by obtain ⟨_, q, _⟩ := k.itr_obj hi; exact Heap.lt_size q
    have dd := k.draws (prog := X.prog) (w := X.w) (A := X.A.in1) (I.ok.hd hc) it a hai its.toArray
    have iz : i < its.toArray.size := by
      have := (List.getElem?_eq_some_iff.mp hu).1
      simpa using this
    refine wpAny_pyNext_enum_itemD dd he ⟨hi, p⟩ iz hei (by simp [hei, hae.symm]) fun y h1 tk hy ho hst hT hsz hk => ?_
    obtain rfl : y = u := by
      have hy : its.toArray[i]? = some y := hy
      rw [List.getElem?_toArray, hu] at hy
      cases hy
      rfl
    refine ⟨_, rfl, wpAny_letOwnedTupleGo_enum (s := ⟨h1, s.gens, s.drawn, tk + 1, s.os⟩) ho fun h2 he2 sb => ?_⟩
    have hT2 : h2.get? s.heap.objs.size = some { cls := .type "tuple", data := .seq [.int i tk, y].toArray } := (sb.2 _ (Nat.ne_of_gt el)).trans hT
    have nw := new_ok (P := X.prog) (w := X.w) (H := H) (vs := [.int (i : Nat), x]) hT2 (.cons ⟨_, rfl⟩ (.cons ru .nil)) (by simp)
    have I1 := I.turnedNew (t' := tk + 1) (ch := [e, it]) (h' := h2) (fun b ob hb q => by
      have hbe : b ≠ e := fun z => hb (by simp [z])
      have hbi : b ≠ it := fun z => hb (by simp [z])
      exact (sb.2 b hbe).trans (hk b ob hbe hbi q)) hf (Nat.le_refl _) nw
    refine ⟨.ref s.heap.objs.size, _, I1, rfl, ⟨_, x, rfl, I.hok.fresh (Nat.le_refl _), rfl, fun ys hy => by rw [k.inj I hq hy]; exact hx⟩, ⟨⟨y, ?_⟩, ?_⟩, ?_⟩
    · rw [show ((i + 1 : Nat) : Int) = (i : Int) + 1 by omega]
      exact he2
    · exact k.itr_at hst.1 fun o q => (sb.2 it hei.symm).trans q
    · intro b hb
      have bl : b < s.heap.objs.size := by
        simp only [List.mem_cons, List.not_mem_nil, or_false] at hb
        rcases hb with rfl | rfl <;> assumption
      rw [upd_ne (Nat.ne_of_lt bl)]
      exact (hf b hb).1
  done := by
    rintro X rfl rfl rfl hc i pins s σ H E I hf ⟨⟨old, he⟩, hi⟩ ⟨xs, hq, hx⟩
    obtain ⟨its, rv, p⟩ := k.inv I hq
    have dd := k.draws (prog := X.prog) (w := X.w) (A := X.A.in1) (I.ok.hd hc) it a hai its.toArray
    have hn : its.toArray.size = i := by
      rw [← hx, rv.length]
      simp
    refine wpAny_pyNext_enum_endD dd he (by rw [hn]; exact ⟨hi, p⟩) fun h1 eb => ⟨rfl, ?_⟩
    exact I.turnedL (t' := s.toks) (ch := [e, it]) (fun b o hb q => eb b o (fun z => hb (by simp [z])) q) hf
  self := by
    rintro A i s Q E ⟨⟨old, he⟩, hi⟩ h
    exact wpAny_pyIter_enum he h
end Tg
namespace Tg
open PySem PySem.Spec PyProof.Rows L2
/-! ### the call enumerate(v) -/
abbrev enObj (b : Addr) : Obj := { cls := .type "enumerate", data := .fields #[.none, .bool false, .ref b, rawInt 0, .none, .none] }
set_option maxHeartbeats 8000000 in
theorem en_new {v : Value} {o : Obj} {G : Heap → Prop} (B : Begins v o G) :
    Meets (Builtin.«enumerate.__new__» ⟨[.type "enumerate", v], []⟩) (fun _ R s => G s.heap ∧ R (.ok (.ret (.ref (s.heap.push o).objs.size))) { s with heap := (s.heap.push o).push (enObj s.heap.objs.size) }) := by
  refine .of_wp ?_
  rintro prog w A R ⟨hp, g, d, tk, os⟩ ⟨h1, h⟩
  have hsub := sub_enumerate
  have go : ∀ {A2 : Around} {E2 : Value → Shared → Prop} {Q2 : Value → Shared → Prop}, Q2 (.ref hp.objs.size) ⟨hp.push o, g, d, tk, os⟩ → wpAny (model prog w) A2 (pyIter v) Q2 E2 ⟨hp, g, d, tk, os⟩ :=
    fun q => B.iter prog w _ _ ⟨hp, g, d, tk, os⟩ _ h1 q
  wp_walk using go
  refine wpAny_stack_any ?_
  intro st
  refine wpAny_pure ?_
  split
  · next c _ _ _ _ _ =>
    rcases Bool.eq_false_or_eq_true (c == Value.type "enumerate") with z | z
    all_goals
      rw [z]
      wp_walk using go
      exact ⟨_, rfl, h⟩
  · wp_walk using go
    exact ⟨_, rfl, h⟩
theorem en_call {prog : Program} {w : World} {A : Around} {E : Value → Shared → Prop} {s : Shared} {v : Value} {o : Obj} {G : Heap → Prop} {Q : Value → Shared → Prop} (B : Begins v o G) (h1 : G s.heap)
    (h : ∀ h2, IsEnum h2 (s.heap.objs.size + 1) s.heap.objs.size 0 .none → h2.get? s.heap.objs.size = some o → (∀ b ob, s.heap.get? b = some ob → h2.get? b = some ob) → Q (.ref (s.heap.objs.size + 1)) { s with heap := h2 }) :
    wpAny (model prog w) A (call (.type "enumerate") [v]) Q E s := by
  refine callType_new F.called_enumerate (by decide) (F.typeCall_enumerate_1 _) (F.newCall_enumerate_1 _) (fun ob => F.args_object_init_2 ob _) F.entry_enumerate_new (en_new B) ⟨h1, ?_⟩
  have z : (s.heap.push o).objs.size = s.heap.objs.size + 1 := Heap.size_push ..
  have g0 := Heap.get?_push_size (s.heap.push o) (o := enObj s.heap.objs.size) rfl
  rw [z] at g0
  show _ ∧ _
  rw [z]
  exact ⟨⟨_, g0, rfl⟩, h _ g0 (Heap.get?_push_of_some _ (Heap.get?_push_size _ B.free)) fun b ob q => Heap.get?_push_of_some _ (Heap.get?_push_of_some _ q)⟩
def iEnK (K : Fg) (ta : TA) : TI := fun σ H R => ta σ H fun vs H1 => ∃ (k : Kd) (a : Addr) (xs : List V), vs = [.ref a] ∧ k.sq K H1 a xs ∧ R (ItE K k a) H1
theorem pi_enK {X : Cx} {e : Expr} {ta : TA} {p pos tpos : Pos} {elts : List Expr} {kk : Nat} (hg : Gl X "enumerate") (hm : X.mg "enumerate" = none) (ha : PA X [e] ta) (hs : starEach [e] X.env = [(false, eval e X.env)]) :
    PI X (.Tuple elts kk tpos) (.Call (.Name "enumerate" p) [e] [] pos) (iEnK X.K ta) := by
  refine ⟨fun pins s σ H R I h => ?_⟩
  refine Call_ (ld_blt I hg hm boot_enumerate (PyProof.Rows.callWith_type1 (thn (ha.run pos pins s σ H _ I h) ?_) hs rfl))
  rintro us s1 ⟨vs, H1, I1, r1, k, a, xs, rfl, hq, q⟩
  cases r1 with
  | cons r rr =>
    cases rr
    cases r
    obtain ⟨its, rv, p'⟩ := k.inv I1 hq
    have al := k.lt p'
    refine en_call (k.starts a its.toArray) p' fun h2 he ho hk => wpAny_pyIter_enum he ?_
    have I2 : Inv X pins σ H1 { s1 with heap := h2 } := I1.kept (t' := s1.toks) hk
    refine ⟨s1.heap.objs.size + 1, [s1.heap.objs.size + 1, s1.heap.objs.size], _, _, H1, rfl, I2, turn_en k (a := a) (Nat.succ_ne_self _) ?_ ?_, ⟨⟨.none, he⟩, k.itr0 ho⟩, ?_, q⟩
    · exact Nat.ne_of_lt (Nat.lt_succ_of_lt al)
    · exact Nat.ne_of_lt al
    · intro b hb
      have hle : s1.heap.objs.size ≤ b := by
        simp only [List.mem_cons, List.not_mem_nil, or_false] at hb
        rcases hb with rfl | rfl
        · exact Nat.le_succ _
        · exact Nat.le_refl _
      exact I1.fpOk hle (I1.hok.fresh hle)
/-! ### zip of two -/
def ItZ (K : Fg) (k1 k2 : Kd) (a b : Addr) : It where
  go i H := ∃ (xs ys : List V) (x y : V), k1.sq K H a xs ∧ k2.sq K H b ys ∧ xs[i]? = some x ∧ ys[i]? = some y
  yld i H v H' := ∃ T x y, v = .ref T ∧ H T = none ∧ H' = upd H T (.tup [x, y]) ∧ (∀ xs, k1.sq K H a xs → xs[i]? = some x) ∧ ∀ ys, k2.sq K H b ys → ys[i]? = some y
  stop i H := ∃ xs ys : List V, k1.sq K H a xs ∧ k2.sq K H b ys ∧ i ≤ xs.length ∧ i ≤ ys.length ∧ (i = xs.length ∨ i = ys.length)
theorem sz_lt {its : List Value} {i : Nat} {u : Value} (hu : its[i]? = some u) : i < its.toArray.size := by
  have := (List.getElem?_eq_some_iff.mp hu).1
  simpa using this
theorem arr_get {its : List Value} {i : Nat} {u y : Value} (hu : its[i]? = some u) (hy : its.toArray[i]? = some y) : y = u := by
  rw [List.getElem?_toArray, hu] at hy
  cases hy
  rfl
theorem turn_z2 {P : Program} {w : World} {K : Fg} {elts : List Expr} {kk : Nat} {tpos : Pos} (k1 k2 : Kd) {a b z TI TO i1 i2 : Addr} (S : ZipSep2 z TI TO i1 i2 [i1, a] [i2, b]) (n1 : a ≠ i1) (n2 : b ≠ i2) :
    Turn P w K (.Tuple elts kk tpos) (ItZ K k1 k2 a b) [z, TI, TO, i1, i2] z (fun i h => IsZip h z TI TO .none ∧ IsTupOf2 h TI (.ref i1) (.ref i2) ∧ (∃ x y, IsTupOf2 h TO x y) ∧ k1.itr h i1 a i ∧ k2.itr h i2 b i) where
  mem := List.mem_cons_self
  obj := by
    rintro i h ⟨hz, hTI, ⟨x, y, hTO⟩, h1, h2⟩ c hc
    simp only [List.mem_cons, List.not_mem_nil, or_false] at hc
    rcases hc with rfl | rfl | rfl | rfl | rfl
    · exact ⟨_, hz, fun v q => nomatch q⟩
    · exact ⟨_, hTI, fun v q => nomatch q⟩
    · exact ⟨_, hTO, fun v q => nomatch q⟩
    · exact k1.itr_obj h1
    · exact k2.itr_obj h2
  keep := by
    rintro i h h' ⟨hz, hTI, ⟨x, y, hTO⟩, h1, h2⟩ hk
    exact ⟨hk z (by simp) _ hz, hk TI (by simp) _ hTI, ⟨x, y, hk TO (by simp) _ hTO⟩, k1.itr_at h1 fun o q => hk i1 (by simp) o q, k2.itr_at h2 fun o q => hk i2 (by simp) o q⟩
  item := by
    rintro X rfl rfl rfl hc i pins s σ H E I hf ⟨hz, hTI, ⟨x0, y0, hTO⟩, h1, h2⟩ ⟨xs, ys, x, y, hqx, hqy, hx, hy⟩
    obtain ⟨its1, rv1, p1⟩ := k1.inv I hqx
    obtain ⟨its2, rv2, p2⟩ := k2.inv I hqy
    obtain ⟨u1, hu1, ru1⟩ := rv1.get hx
    obtain ⟨u2, hu2, ru2⟩ := rv2.get hy
    have zl : z < s.heap.objs.size := Heap.lt_size hz
    have d1 := k1.draws (prog := X.prog) (w := X.w) (A := X.A.in1) (I.ok.hd hc) i1 a n1 its1.toArray
    have d2 := k2.draws (prog := X.prog) (w := X.w) (A := X.A.in1) (I.ok.hd hc) i2 b n2 its2.toArray
    refine wpAny_pyNext_zipD2_item S d1 d2 hz hTI hTO ⟨h1, p1⟩ ⟨h2, p2⟩ (sz_lt hu1) (sz_lt hu2) fun w1 w2 g tk e1 e2 hz2 hTO2 s1 s2 hT hsz hk => ?_
    obtain rfl : w1 = u1 := arr_get hu1 e1
    obtain rfl : w2 = u2 := arr_get hu2 e2
    refine ⟨_, rfl, wpAny_letOwnedTupleGo_zip (s := ⟨g, s.gens, s.drawn, tk, s.os⟩) hz2 fun g2 hz3 sb => ?_⟩
    have hT2 : g2.get? s.heap.objs.size = some { cls := .type "tuple", data := .seq [w1, w2].toArray } := (sb.2 _ (Nat.ne_of_gt zl)).trans hT
    have nw := new_ok (P := X.prog) (w := X.w) (H := H) (vs := [x, y]) hT2 (.cons ru1 (.cons ru2 .nil)) (by simp)
    have kp : ∀ c o, c ≠ z → c ≠ TO → c ≠ i1 → c ≠ i2 → s.heap.get? c = some o → g2.get? c = some o := fun c o q1 q2 q3 q4 q => (sb.2 c q1).trans (hk c o q1 q2 q3 q4 q)
    have I1 := I.turnedNew (t' := tk) (ch := [z, TI, TO, i1, i2]) (h' := g2) (fun c o hb q => kp c o (fun z => hb (by simp [z])) (fun z => hb (by simp [z])) (fun z => hb (by simp [z])) (fun z => hb (by simp [z])) q) hf (Nat.le_refl _) nw
    refine ⟨.ref s.heap.objs.size, _, I1, rfl, ⟨_, x, y, rfl, I.hok.fresh (Nat.le_refl _), rfl, fun l hl => by rw [k1.inj I hqx hl]; exact hx, fun l hl => by rw [k2.inj I hqy hl]; exact hy⟩, ⟨hz3, ?_, ⟨w1, w2, ?_⟩, ?_, ?_⟩, ?_⟩
    · exact kp _ _ S.TIz S.TITO S.TIi1 S.TIi2 hTI
    · exact (sb.2 _ S.TOz).trans hTO2
    · exact k1.itr_at s1.1 fun o q => (sb.2 _ S.zi1.symm).trans q
    · exact k2.itr_at s2.1 fun o q => (sb.2 _ S.zi2.symm).trans q
    · intro c hcm
      have cl : c < s.heap.objs.size := by
        have hcm2 := hcm
        simp only [List.mem_cons, List.not_mem_nil, or_false] at hcm2
        rcases hcm2 with rfl | rfl | rfl | rfl | rfl
        · exact zl
        · exact Heap.lt_size hTI
        · exact Heap.lt_size hTO
        · obtain ⟨_, q, _⟩ := k1.itr_obj h1; exact Heap.lt_size q
        · obtain ⟨_, q, _⟩ := k2.itr_obj h2; exact Heap.lt_size q
      rw [upd_ne (Nat.ne_of_lt cl)]
      exact (hf c hcm).1
  done := by
    rintro X rfl rfl rfl hc i pins s σ H E I hf ⟨hz, hTI, ⟨x0, y0, hTO⟩, h1, h2⟩ ⟨xs, ys, hqx, hqy, l1, l2, hend⟩
    obtain ⟨its1, rv1, p1⟩ := k1.inv I hqx
    obtain ⟨its2, rv2, p2⟩ := k2.inv I hqy
    have m1 : its1.toArray.size = xs.length := by rw [rv1.length]; simp
    have m2 : its2.toArray.size = ys.length := by rw [rv2.length]; simp
    have d1 := k1.draws (prog := X.prog) (w := X.w) (A := X.A.in1) (I.ok.hd hc) i1 a n1 its1.toArray
    have d2 := k2.draws (prog := X.prog) (w := X.w) (A := X.A.in1) (I.ok.hd hc) i2 b n2 its2.toArray
    refine wpAny_pyNext_zipD2_end S d1 d2 hz hTI hTO ⟨h1, p1⟩ ⟨h2, p2⟩ (by omega) (by omega) (by omega) fun g tk hk => ⟨rfl, ?_⟩
    exact I.turnedL (t' := tk) (ch := [z, TI, TO, i1, i2]) (fun c o hb q => hk c o (fun z => hb (by simp [z])) (fun z => hb (by simp [z])) (fun z => hb (by simp [z])) (fun z => hb (by simp [z])) q) hf
  self := by
    rintro A i s Q E ⟨hz, _⟩ h
    exact wpAny_pyIter_zip hz h
theorem sep2 (N a b : Nat) (ha : a < N) (hb : b < N) : ZipSep2 (N + 4) (N + 2) (N + 3) N (N + 1) [N, a] [N + 1, b] := by
  constructor
  all_goals (first | exact List.mem_cons_self | (intro h; simp only [List.mem_cons, List.not_mem_nil, or_false] at h; exact absurd h (by show ¬ (_ : Prop); simp only [Addr] at *; omega)) | (simp only [Addr, ne_eq] at *; omega))
theorem new_le {N : Nat} {c : Addr} : ∀ {ks : List Nat}, c ∈ ks.map (fun k => N + k) → N ≤ c
  | [], h => by simp at h
  | k :: ks, h => by
    rw [List.map_cons] at h
    rcases List.mem_cons.mp h with e | h
    · rw [e]; exact Nat.le_add_right _ _
    · exact new_le h
def iZpK (K : Fg) (ta : TA) : TI := fun σ H R => ta σ H fun vs H1 => ∃ (k1 k2 : Kd) (a b : Addr) (xs ys : List V), vs = [.ref a, .ref b] ∧ k1.sq K H1 a xs ∧ k2.sq K H1 b ys ∧ R (ItZ K k1 k2 a b) H1
theorem pi_zpK {X : Cx} {e e2 : Expr} {ta : TA} {p pos tpos : Pos} {elts : List Expr} {kk : Nat} (hg : Gl X "zip") (hm : X.mg "zip" = none) (ha : PA X [e, e2] ta)
    (hs : starEach [e, e2] X.env = (false, eval e X.env) :: starEach [e2] X.env) (hpl : (backTo pos (starEach [e2] X.env)).any (·.1) = false) : PI X (.Tuple elts kk tpos) (.Call (.Name "zip" p) [e, e2] [] pos) (iZpK X.K ta) := by
  refine ⟨fun pins s σ H R I h => ?_⟩
  refine Call_ (ld_blt I hg hm PyProof.Rows.boot_zip (PyProof.Rows.callWith_type1 (thn (ha.run pos pins s σ H _ I h) ?_) hs hpl))
  rintro us s1 ⟨vs, H1, I1, r1, k1, k2, a, b, xs, ys, rfl, hqx, hqy, q⟩
  cases r1 with
  | cons r rr =>
    cases rr with
    | cons r' rr =>
      cases rr
      cases r
      cases r'
      obtain ⟨its1, rv1, p1⟩ := k1.inv I1 hqx
      obtain ⟨its2, rv2, p2⟩ := k2.inv I1 hqy
      have al := k1.lt p1
      have bl := k2.lt p2
      refine zip_begins2 (k1.starts a its1.toArray) (k2.starts b its2.toArray) p1 p2 fun h2 hz hTI hTO o1 o2 hsz hk => wpAny_pyIter_zip hz ?_
      have I2 : Inv X pins σ H1 { s1 with heap := h2 } := I1.kept (t' := s1.toks) hk
      refine ⟨s1.heap.objs.size + 4, [s1.heap.objs.size + 4, s1.heap.objs.size + 2, s1.heap.objs.size + 3, s1.heap.objs.size, s1.heap.objs.size + 1], _, _, H1, rfl, I2, turn_z2 k1 k2 (a := a) (b := b) (sep2 _ a b al bl) (Nat.ne_of_lt al) (Nat.ne_of_lt (Nat.lt_succ_of_lt bl)), ⟨hz, hTI, ⟨_, _, hTO⟩, k1.itr0 o1, k2.itr0 o2⟩, ?_, q⟩
      intro c hc
      have hle : s1.heap.objs.size ≤ c := new_le (ks := [4, 2, 3, 0, 1]) hc
      exact I1.fpOk hle (I1.hok.fresh hle)
end Tg
namespace Tg
open PySem PySem.Spec PyProof.Rows L2
/-! ### zip of three -/
def ItZ3 (K : Fg) (k1 k2 k3 : Kd) (a b c : Addr) : It where
  go i H := ∃ (xs ys zs : List V) (x y z : V), k1.sq K H a xs ∧ k2.sq K H b ys ∧ k3.sq K H c zs ∧ xs[i]? = some x ∧ ys[i]? = some y ∧ zs[i]? = some z
  yld i H v H' := ∃ T x y z, v = .ref T ∧ H T = none ∧ H' = upd H T (.tup [x, y, z]) ∧ (∀ xs, k1.sq K H a xs → xs[i]? = some x) ∧ (∀ ys, k2.sq K H b ys → ys[i]? = some y) ∧ ∀ zs, k3.sq K H c zs → zs[i]? = some z
  stop i H := ∃ xs ys zs : List V, k1.sq K H a xs ∧ k2.sq K H b ys ∧ k3.sq K H c zs ∧ i ≤ xs.length ∧ i ≤ ys.length ∧ i ≤ zs.length ∧ (i = xs.length ∨ i = ys.length ∨ i = zs.length)
theorem turn_z3 {P : Program} {w : World} {K : Fg} {elts : List Expr} {kk : Nat} {tpos : Pos} (k1 k2 k3 : Kd) {a b c z TI TO i1 i2 i3 : Addr} (S : ZipSep3 z TI TO i1 i2 i3 [i1, a] [i2, b] [i3, c]) (n1 : a ≠ i1) (n2 : b ≠ i2) (n3 : c ≠ i3) :
    Turn P w K (.Tuple elts kk tpos) (ItZ3 K k1 k2 k3 a b c) [z, TI, TO, i1, i2, i3] z (fun i h => IsZip h z TI TO .none ∧ IsTupOf3 h TI (.ref i1) (.ref i2) (.ref i3) ∧ (∃ x y u, IsTupOf3 h TO x y u) ∧ k1.itr h i1 a i ∧ k2.itr h i2 b i ∧ k3.itr h i3 c i) where
  mem := List.mem_cons_self
  obj := by
    rintro i h ⟨hz, hTI, ⟨x, y, u, hTO⟩, h1, h2, h3⟩ c hc
    simp only [List.mem_cons, List.not_mem_nil, or_false] at hc
    rcases hc with rfl | rfl | rfl | rfl | rfl | rfl
    · exact ⟨_, hz, fun v q => nomatch q⟩
    · exact ⟨_, hTI, fun v q => nomatch q⟩
    · exact ⟨_, hTO, fun v q => nomatch q⟩
    · exact k1.itr_obj h1
    · exact k2.itr_obj h2
    · exact k3.itr_obj h3
  keep := by
    rintro i h h' ⟨hz, hTI, ⟨x, y, u, hTO⟩, h1, h2, h3⟩ hk
    exact ⟨hk z (by simp) _ hz, hk TI (by simp) _ hTI, ⟨x, y, u, hk TO (by simp) _ hTO⟩, k1.itr_at h1 fun o q => hk i1 (by simp) o q, k2.itr_at h2 fun o q => hk i2 (by simp) o q, k3.itr_at h3 fun o q => hk i3 (by simp) o q⟩
  item := by
    rintro X rfl rfl rfl hc i pins s σ H E I hf ⟨hz, hTI, ⟨x0, y0, u0, hTO⟩, h1, h2, h3⟩ ⟨xs, ys, zs, x, y, v, hqx, hqy, hqz, hx, hy, hv⟩
    obtain ⟨its1, rv1, p1⟩ := k1.inv I hqx
    obtain ⟨its2, rv2, p2⟩ := k2.inv I hqy
    obtain ⟨its3, rv3, p3⟩ := k3.inv I hqz
    obtain ⟨u1, hu1, ru1⟩ := rv1.get hx
    obtain ⟨u2, hu2, ru2⟩ := rv2.get hy
    obtain ⟨u3, hu3, ru3⟩ := rv3.get hv
    have zl : z < s.heap.objs.size := Heap.lt_size hz
    have d1 := k1.draws (prog := X.prog) (w := X.w) (A := X.A.in1) (I.ok.hd hc) i1 a n1 its1.toArray
    have d2 := k2.draws (prog := X.prog) (w := X.w) (A := X.A.in1) (I.ok.hd hc) i2 b n2 its2.toArray
    have d3 := k3.draws (prog := X.prog) (w := X.w) (A := X.A.in1) (I.ok.hd hc) i3 c n3 its3.toArray
    refine wpAny_pyNext_zipD3_item S d1 d2 d3 hz hTI hTO ⟨h1, p1⟩ ⟨h2, p2⟩ ⟨h3, p3⟩ (sz_lt hu1) (sz_lt hu2) (sz_lt hu3) fun w1 w2 w3 g tk e1 e2 e3 hz2 hTO2 s1 s2 s3 hT hsz hk => ?_
    obtain rfl : w1 = u1 := arr_get hu1 e1
    obtain rfl : w2 = u2 := arr_get hu2 e2
    obtain rfl : w3 = u3 := arr_get hu3 e3
    refine ⟨_, rfl, wpAny_letOwnedTupleGo_zip (s := ⟨g, s.gens, s.drawn, tk, s.os⟩) hz2 fun g2 hz3 sb => ?_⟩
    have hT2 : g2.get? s.heap.objs.size = some { cls := .type "tuple", data := .seq [w1, w2, w3].toArray } := (sb.2 _ (Nat.ne_of_gt zl)).trans hT
    have nw := new_ok (P := X.prog) (w := X.w) (H := H) (vs := [x, y, v]) hT2 (.cons ru1 (.cons ru2 (.cons ru3 .nil))) (by simp)
    have kp : ∀ c o, c ≠ z → c ≠ TO → c ≠ i1 → c ≠ i2 → c ≠ i3 → s.heap.get? c = some o → g2.get? c = some o := fun c o q1 q2 q3 q4 q5 q => (sb.2 c q1).trans (hk c o q1 q2 q3 q4 q5 q)
    have I1 := I.turnedNew (t' := tk) (ch := [z, TI, TO, i1, i2, i3]) (h' := g2) (fun c o hb q => kp c o (fun z => hb (by simp [z])) (fun z => hb (by simp [z])) (fun z => hb (by simp [z])) (fun z => hb (by simp [z])) (fun z => hb (by simp [z])) q) hf (Nat.le_refl _) nw
    refine ⟨.ref s.heap.objs.size, _, I1, rfl, ⟨_, x, y, v, rfl, I.hok.fresh (Nat.le_refl _), rfl, fun l hl => by rw [k1.inj I hqx hl]; exact hx, fun l hl => by rw [k2.inj I hqy hl]; exact hy, fun l hl => by rw [k3.inj I hqz hl]; exact hv⟩, ⟨hz3, ?_, ⟨w1, w2, w3, ?_⟩, ?_, ?_, ?_⟩, ?_⟩
    · exact kp _ _ S.TIz S.TITO S.TIi1 S.TIi2 S.TIi3 hTI
    · exact (sb.2 _ S.TOz).trans hTO2
    · exact k1.itr_at s1.1 fun o q => (sb.2 _ (fun e => S.zf1 (by rw [← e]; exact List.mem_cons_self))).trans q
    · exact k2.itr_at s2.1 fun o q => (sb.2 _ (fun e => S.zf2 (by rw [← e]; exact List.mem_cons_self))).trans q
    · exact k3.itr_at s3.1 fun o q => (sb.2 _ (fun e => S.zf3 (by rw [← e]; exact List.mem_cons_self))).trans q
    · intro c hcm
      have cl : c < s.heap.objs.size := by
        have hcm2 := hcm
        simp only [List.mem_cons, List.not_mem_nil, or_false] at hcm2
        rcases hcm2 with rfl | rfl | rfl | rfl | rfl | rfl
        · exact zl
        · exact Heap.lt_size hTI
        · exact Heap.lt_size hTO
        · obtain ⟨_, q, _⟩ := k1.itr_obj h1; exact Heap.lt_size q
        · obtain ⟨_, q, _⟩ := k2.itr_obj h2; exact Heap.lt_size q
        · obtain ⟨_, q, _⟩ := k3.itr_obj h3; exact Heap.lt_size q
      rw [upd_ne (Nat.ne_of_lt cl)]
      exact (hf c hcm).1
  done := by
    rintro X rfl rfl rfl hc i pins s σ H E I hf ⟨hz, hTI, ⟨x0, y0, u0, hTO⟩, h1, h2, h3⟩ ⟨xs, ys, zs, hqx, hqy, hqz, l1, l2, l3, hend⟩
    obtain ⟨its1, rv1, p1⟩ := k1.inv I hqx
    obtain ⟨its2, rv2, p2⟩ := k2.inv I hqy
    obtain ⟨its3, rv3, p3⟩ := k3.inv I hqz
    have m1 : its1.toArray.size = xs.length := by rw [rv1.length]; simp
    have m2 : its2.toArray.size = ys.length := by rw [rv2.length]; simp
    have m3 : its3.toArray.size = zs.length := by rw [rv3.length]; simp
    have d1 := k1.draws (prog := X.prog) (w := X.w) (A := X.A.in1) (I.ok.hd hc) i1 a n1 its1.toArray
    have d2 := k2.draws (prog := X.prog) (w := X.w) (A := X.A.in1) (I.ok.hd hc) i2 b n2 its2.toArray
    have d3 := k3.draws (prog := X.prog) (w := X.w) (A := X.A.in1) (I.ok.hd hc) i3 c n3 its3.toArray
    refine wpAny_pyNext_zipD3_end S d1 d2 d3 hz hTI hTO ⟨h1, p1⟩ ⟨h2, p2⟩ ⟨h3, p3⟩ (by omega) (by omega) (by omega) (by omega) fun g tk hk => ⟨rfl, ?_⟩
    exact I.turnedL (t' := tk) (ch := [z, TI, TO, i1, i2, i3]) (fun c o hb q => hk c o (fun z => hb (by simp [z])) (fun z => hb (by simp [z])) (fun z => hb (by simp [z])) (fun z => hb (by simp [z])) (fun z => hb (by simp [z])) q) hf
  self := by
    rintro A i s Q E ⟨hz, _⟩ h
    exact wpAny_pyIter_zip hz h
theorem sep3 (N a b c : Nat) (ha : a < N) (hb : b < N) (hc : c < N) : ZipSep3 (N + 5) (N + 3) (N + 4) N (N + 1) (N + 2) [N, a] [N + 1, b] [N + 2, c] := by
  constructor
  all_goals (first | exact List.mem_cons_self | (intro h; simp only [List.mem_cons, List.not_mem_nil, or_false] at h; exact absurd h (by show ¬ (_ : Prop); simp only [Addr] at *; omega)) | (simp only [Addr, ne_eq] at *; omega))
def iZp3 (K : Fg) (ta : TA) : TI := fun σ H R => ta σ H fun vs H1 => ∃ (k1 k2 k3 : Kd) (a b c : Addr) (xs ys zs : List V), vs = [.ref a, .ref b, .ref c] ∧ k1.sq K H1 a xs ∧ k2.sq K H1 b ys ∧ k3.sq K H1 c zs ∧ R (ItZ3 K k1 k2 k3 a b c) H1
theorem pi_zp3 {X : Cx} {e e2 e3 : Expr} {ta : TA} {p pos tpos : Pos} {elts : List Expr} {kk : Nat} (hg : Gl X "zip") (hm : X.mg "zip" = none) (ha : PA X [e, e2, e3] ta)
    (hs : starEach [e, e2, e3] X.env = (false, eval e X.env) :: starEach [e2, e3] X.env) (hpl : (backTo pos (starEach [e2, e3] X.env)).any (·.1) = false) : PI X (.Tuple elts kk tpos) (.Call (.Name "zip" p) [e, e2, e3] [] pos) (iZp3 X.K ta) := by
  refine ⟨fun pins s σ H R I h => ?_⟩
  refine Call_ (ld_blt I hg hm PyProof.Rows.boot_zip (PyProof.Rows.callWith_type1 (thn (ha.run pos pins s σ H _ I h) ?_) hs hpl))
  rintro us s1 ⟨vs, H1, I1, r1, k1, k2, k3, a, b, c, xs, ys, zs, rfl, hqx, hqy, hqz, q⟩
  cases r1 with
  | cons r rr =>
    cases rr with
    | cons r' rr =>
      cases rr with
      | cons r'' rr =>
        cases rr
        cases r
        cases r'
        cases r''
        obtain ⟨its1, rv1, p1⟩ := k1.inv I1 hqx
        obtain ⟨its2, rv2, p2⟩ := k2.inv I1 hqy
        obtain ⟨its3, rv3, p3⟩ := k3.inv I1 hqz
        have al := k1.lt p1
        have bl := k2.lt p2
        have cl := k3.lt p3
        refine zip_begins3 (k1.starts a its1.toArray) (k2.starts b its2.toArray) (k3.starts c its3.toArray) p1 p2 p3 fun h2 hz hTI hTO o1 o2 o3 hsz hk => wpAny_pyIter_zip hz ?_
        have I2 : Inv X pins σ H1 { s1 with heap := h2 } := I1.kept (t' := s1.toks) hk
        refine ⟨s1.heap.objs.size + 5, [s1.heap.objs.size + 5, s1.heap.objs.size + 3, s1.heap.objs.size + 4, s1.heap.objs.size, s1.heap.objs.size + 1, s1.heap.objs.size + 2], _, _, H1, rfl, I2,
          turn_z3 k1 k2 k3 (a := a) (b := b) (c := c) (sep3 _ a b c al bl cl) (Nat.ne_of_lt al) (Nat.ne_of_lt (Nat.lt_succ_of_lt bl)) (Nat.ne_of_lt (Nat.lt_succ_of_lt (Nat.lt_succ_of_lt cl))), ⟨hz, hTI, ⟨_, _, _, hTO⟩, k1.itr0 o1, k2.itr0 o2, k3.itr0 o3⟩, ?_, q⟩
        intro c hc
        have hle : s1.heap.objs.size ≤ c := new_le (ks := [5, 3, 4, 0, 1, 2]) hc
        exact I1.fpOk hle (I1.hok.fresh hle)
end Tg
/-! zip of two whose pairs a name keeps: the last pair may still be held, or be gone. -/
namespace Tg
open PySem PySem.Spec PyProof.Rows L2
/-- a zip, whatever it handed out before -/
def Zo (h : Heap) (z TI TO : Addr) (v : Value) (f : Bool) : Prop := h.get? z = some { cls := .type "zip", dict := none, data := .fields #[v, .bool f, .bool false, .ref TI, .ref TO], slots := #[] }
def Zs (h : Heap) (z TI TO : Addr) : Prop := ∃ v f, (v = .none ∨ ∃ T : Addr, v = rawInt T) ∧ Zo h z TI TO v f
section
variable {prog : Program} {w : World} {A : Around} {E : Value → Shared → Prop} {s : Shared} {z TI TO i1 i2 : Addr} {fp1 fp2 : List Addr} {n1 n2 i : Nat} {P1 P2 : Nat → Value → Prop} {St1 St2 : Nat → Heap → Prop} {a1 a2 v0 : Value} {f : Bool}
theorem z_free {Q : Bool → Shared → Prop} (hz : Zo s.heap z TI TO v0 f) (hv : v0 = .none ∨ ∃ T : Addr, v0 = rawInt T) (h1 : Q true s) (h2 : ∀ h', Zo h' z TI TO v0 true → Heap.SameBut z s.heap h' → Q false { s with heap := h' }) :
    wpAny (model prog w) A (Builtin.SmallTypes.ownedTupleIsFree (.ref z)) Q E s := by
  rcases hv with rfl | ⟨T, rfl⟩
  · exact wpAny_bind (wpAny_field hz rfl (x := Value.none) rfl (wpAny_pure h1))
  · cases hT : s.heap.get? T with
    | some o => exact wpAny_tupleHeld_zip hz hT h2
    | none =>
      refine wpAny_bind (wpAny_field hz rfl (x := rawInt T) rfl ?_)
      have q : wpAny (model prog w) A (loadIfAlive T) (fun r s' => r = none ∧ s' = s) E s := fun _ _ _ => by
        show s.heap.get? T = none ∧ s = s
        exact ⟨hT, rfl⟩
      show wpAny _ _ (loadIfAlive ((T : Int).toNat) >>= _) _ _ _
      rw [show ((T : Int)).toNat = T from Int.toNat_natCast T]
      refine wpAny_bind (wpAny_mono q (fun r s' e => ?_) fun _ _ e => e)
      obtain ⟨rfl, rfl⟩ := e
      exact wpAny_pure h1
theorem z_item {Q : Value → Shared → Prop} (S : ZipSep2 z TI TO i1 i2 fp1 fp2) (D1 : PySem.Draws prog w A i1 fp1 n1 P1 St1) (D2 : PySem.Draws prog w A i2 fp2 n2 P2 St2) (hz : Zs s.heap z TI TO) (hTI : IsTupOf2 s.heap TI (.ref i1) (.ref i2)) (hTO : IsTupOf2 s.heap TO a1 a2) (t1 : St1 i s.heap) (t2 : St2 i s.heap) (l1 : i < n1) (l2 : i < n2)
    (hQ : ∀ x y h' tk, P1 i x → P2 i y → Zs h' z TI TO → (∃ b c, IsTupOf2 h' TO b c) → St1 (i + 1) h' → St2 (i + 1) h' → IsTupOf2 h' s.heap.objs.size x y →
      (∀ c o, c ≠ z → c ≠ TO → c ≠ i1 → c ≠ i2 → s.heap.get? c = some o → h'.get? c = some o) → Q (.ref s.heap.objs.size) { s with heap := h', toks := tk }) :
    wpAny (model prog w) A (Builtin.«zip.__next__» ⟨[.ref z], []⟩) (fun fin s' => ∃ v, fin = .done (.ret v) ∧ Q v s') E s := by
  obtain ⟨v0, f, hv, hz⟩ := hz
  obtain ⟨hp, gn, dn, tk0, os⟩ := s
  change wpAny (model prog w) A (field (.ref z) 2 >>= _) _ E _
  refine wpAny_bind (wpAny_field hz rfl (x := .bool false) rfl ?_)
  change wpAny (model prog w) A (field (.ref z) 3 >>= _) _ E _
  refine wpAny_bind (wpAny_field hz rfl (x := .ref TI) rfl (wpAny_bind (wpAny_seqItems hTI rfl ?_)))
  change wpAny (model prog w) A (Builtin.SmallTypes.ownedTupleIsFree (.ref z) >>= _) _ E _
  refine wpAny_bind (z_free hz hv ?free ?held)
  case held =>
    intro h1 z1 b1
    have b1 : Heap.SameBut z hp h1 := b1
    simp only [Bool.false_eq_true, if_false]
    refine wpAny_bind ?_
    rw [← Array.forIn_toList]
    simp only [List.forIn_cons, List.forIn_nil]
    refine wpAny_bind (wpAny_bind (wpAny_holding ?_))
    change wpAny (model prog w) A (Builtin.SmallTypes.nextOf (.ref i1) >>= _) _ E _
    refine wpAny_bind (D1.item i ⟨h1, gn, dn, tk0, os⟩ _ _ l1 (D1.over t1 b1 S.zf1) fun x h2 k2 px u2 b2 => wpAny_pure (wpAny_pure ?_))
    have b2 : Heap.SameBut i1 h1 h2 := b2
    refine wpAny_bind (wpAny_bind (wpAny_holding ?_))
    change wpAny (model prog w) A (Builtin.SmallTypes.nextOf (.ref i2) >>= _) _ E _
    refine wpAny_bind (D2.item i ⟨h2, gn, dn, k2, os⟩ _ _ l2 (D2.over (D2.over t2 b1 S.zf2) b2 S.sep1_2) fun y h3 k3 py u3 b3 => wpAny_pure (wpAny_pure (wpAny_pure ?_)))
    have b3 : Heap.SameBut i2 h2 h3 := b3
    change wpAny (model prog w) A (newTuple [x, y] >>= _) _ E _
    refine wpAny_bind (wpAny_newTuple (wpAny_pure ⟨_, rfl, ?_⟩))
    have sz : h3.objs.size = hp.objs.size := by rw [b3.1, b2.1, b1.1]
    have kp : ∀ c o, c ≠ z → c ≠ i1 → c ≠ i2 → hp.get? c = some o → (h3.push { cls := .type "tuple", data := .seq #[x, y] }).get? c = some o := fun c o q1 q2 q3 e =>
      Heap.get?_push_of_some _ (b3.extBut _ _ q3 (b2.extBut _ _ q2 (b1.extBut _ _ q1 e)))
    have tp : IsTupOf2 (h3.push { cls := .type "tuple", data := .seq #[x, y] }) h3.objs.size x y := Heap.get?_push_size _ rfl
    have zz : Zo (h3.push { cls := .type "tuple", data := .seq #[x, y] }) z TI TO v0 true := Heap.get?_push_of_some _ (b3.extBut _ _ S.zi2 (b2.extBut _ _ S.zi1 z1))
    have e1 : St1 (i + 1) (h3.push { cls := .type "tuple", data := .seq #[x, y] }) := D1.frame _ _ _ (D1.over u2 b3 S.sep2_1) fun _ _ _ e => Heap.get?_push_of_some _ e
    have e2 : St2 (i + 1) (h3.push { cls := .type "tuple", data := .seq #[x, y] }) := D2.frame _ _ _ u3 fun _ _ _ e => Heap.get?_push_of_some _ e
    have fin := hQ x y (h3.push { cls := .type "tuple", data := .seq #[x, y] }) k3 px py ⟨v0, true, hv, zz⟩ ⟨a1, a2, kp _ _ S.TOz S.Ti1 S.Ti2 hTO⟩ e1 e2 (by rw [sz] at tp; exact tp) fun c o q1 _ q3 q4 e => kp c o q1 q3 q4 e
    show Q (.ref h3.objs.size) _
    rw [sz]
    exact fin
  case free =>
    simp only [if_true]
    refine wpAny_bind (wpAny_rule (wpAny_bind (wpAny_field hz rfl (x := .ref TO) rfl (wpAny_bind (wpAny_setField_rec hz (by simp) fun h1 z1 b1 => ?_)))))
    have z1 : Zo h1 z TI TO .ellipsis f := z1
    have b1 : Heap.SameBut z hp h1 := b1
    refine wpAny_bind ?_
    simp only [List.zipIdx_cons, List.zipIdx_nil, List.forIn_cons, List.forIn_nil]
    refine wpAny_bind (wpAny_bind (wpAny_onRaise ?_))
    change wpAny (model prog w) A (Builtin.SmallTypes.nextOf (.ref i1) >>= _) _ _ _
    refine wpAny_bind (D1.item i ⟨h1, gn, dn, tk0, os⟩ _ _ l1 (D1.over t1 b1 S.zf1) fun x h2 k2 px u2 b2 => wpAny_pure ?_)
    have b2 : Heap.SameBut i1 h1 h2 := b2
    have o2 : IsTupOf2 h2 TO a1 a2 := b2.extBut _ _ S.Ti1 (b1.extBut _ _ S.TOz hTO)
    refine wpAny_bind (wpAny_seqItems (s := ⟨h2, gn, dn, k2, os⟩) o2 rfl (wpAny_bind (updateSeq_IsTupOf2 (s := ⟨h2, gn, dn, k2, os⟩) o2 fun h3 o3 b3 => wpAny_bind (wpAny_letGo (wpAny_pure ?_)))))
    have o3 : IsTupOf2 h3 TO x a2 := o3
    have b3 : Heap.SameBut TO h2 h3 := b3
    refine wpAny_bind (wpAny_bind (wpAny_onRaise ?_))
    change wpAny (model prog w) A (Builtin.SmallTypes.nextOf (.ref i2) >>= _) _ _ _
    refine wpAny_bind (D2.item i ⟨h3, gn, dn, k2, os⟩ _ _ l2 (D2.over (D2.over (D2.over t2 b1 S.zf2) b2 S.sep1_2) b3 S.Tf2) fun y h4 k4 py u4 b4 => wpAny_pure ?_)
    have b4 : Heap.SameBut i2 h3 h4 := b4
    have o4 : IsTupOf2 h4 TO x a2 := b4.extBut _ _ S.Ti2 o3
    refine wpAny_bind (wpAny_seqItems (s := ⟨h4, gn, dn, k4, os⟩) o4 rfl (wpAny_bind (updateSeq_IsTupOf2 (s := ⟨h4, gn, dn, k4, os⟩) o4 fun h5 o5 b5 => wpAny_bind (wpAny_letGo (wpAny_pure (wpAny_pure ?_))))))
    have o5 : IsTupOf2 h5 TO x y := o5
    have b5 : Heap.SameBut TO h4 h5 := b5
    refine wpAny_bind (wpAny_seqItems (s := ⟨h5, gn, dn, k4, os⟩) o5 rfl (wpAny_bind (wpAny_newTuple ?_)))
    have sz : h5.objs.size = hp.objs.size := by rw [b5.1, b4.1, b3.1, b2.1, b1.1]
    have z5 : Zo h5 z TI TO .ellipsis f := b5.extBut _ _ S.TOz.symm (b4.extBut _ _ S.zi2 (b3.extBut _ _ S.TOz.symm (b2.extBut _ _ S.zi1 z1)))
    have zl : z < h5.objs.size := Heap.lt_size z5
    have z6 : Zo (h5.push { cls := .type "tuple", data := .seq #[x, y] }) z TI TO .ellipsis f := Heap.get?_push_of_some _ z5
    change wpAny (model prog w) A (Builtin.SmallTypes.ownedTupleHandOut (.ref z) (.ref h5.objs.size) >>= _) _ E _
    refine wpAny_bind ?_
    unfold Builtin.SmallTypes.ownedTupleHandOut
    refine wpAny_bind (wpAny_setField_rec (s := ⟨h5.push { cls := .type "tuple", data := .seq #[x, y] }, gn, dn, k4, os⟩) z6 (by simp) fun h7 z7 b7 => ?_)
    have z7 : Zo h7 z TI TO (rawInt h5.objs.size) f := z7
    have b7 : Heap.SameBut z (h5.push { cls := .type "tuple", data := .seq #[x, y] }) h7 := b7
    refine wpAny_setField_rec (s := ⟨h7, gn, dn, k4, os⟩) z7 (by simp) fun h8 z8 b8 => wpAny_pure ⟨_, rfl, ?_⟩
    have z8 : Zo h8 z TI TO (rawInt h5.objs.size) false := z8
    have b8 : Heap.SameBut z h7 h8 := b8
    have up : ∀ c o, c ≠ z → h5.get? c = some o → h8.get? c = some o := fun c o q e => b8.extBut _ _ q (b7.extBut _ _ q (Heap.get?_push_of_some _ e))
    have tp : IsTupOf2 h8 h5.objs.size x y := b8.extBut _ _ (Nat.ne_of_gt zl) (b7.extBut _ _ (Nat.ne_of_gt zl) (Heap.get?_push_size _ rfl))
    have e1 : St1 (i + 1) h8 := D1.frame _ _ _ (D1.over (D1.over (D1.over u2 b3 S.Tf1) b4 S.sep2_1) b5 S.Tf1) fun b hb o e => up b o (fun q => S.zf1 (q ▸ hb)) e
    have e2 : St2 (i + 1) h8 := D2.frame _ _ _ (D2.over u4 b5 S.Tf2) fun b hb o e => up b o (fun q => S.zf2 (q ▸ hb)) e
    have fin := hQ x y h8 k4 px py ⟨_, false, .inr ⟨_, rfl⟩, z8⟩ ⟨x, y, up _ _ S.TOz o5⟩ e1 e2 (by rw [sz] at tp; exact tp) fun c o q1 q2 q3 q4 e =>
      up c o q1 (b5.extBut _ _ q2 (b4.extBut _ _ q4 (b3.extBut _ _ q2 (b2.extBut _ _ q3 (b1.extBut _ _ q1 e)))))
    show Q (.ref h5.objs.size) _
    rw [sz]
    exact fin
theorem z_end {Q : PySem.Fin → Shared → Prop} (S : ZipSep2 z TI TO i1 i2 fp1 fp2) (D1 : PySem.Draws prog w A i1 fp1 n1 P1 St1) (D2 : PySem.Draws prog w A i2 fp2 n2 P2 St2) (hz : Zs s.heap z TI TO) (hTI : IsTupOf2 s.heap TI (.ref i1) (.ref i2)) (hTO : IsTupOf2 s.heap TO a1 a2) (t1 : St1 i s.heap) (t2 : St2 i s.heap) (l1 : i ≤ n1) (l2 : i ≤ n2) (hend : i = n1 ∨ i = n2)
    (hE : ∀ h' tk e, (∀ c o, c ≠ z → c ≠ TO → c ≠ i1 → c ≠ i2 → s.heap.get? c = some o → h'.get? c = some o) → (∃ o, h'.get? e = some o ∧ o.cls = .type "StopIteration") → E (.ref e) { s with heap := h', toks := tk }) :
    wpAny (model prog w) A (Builtin.«zip.__next__» ⟨[.ref z], []⟩) Q E s := by
  obtain ⟨v0, f, hv, hz⟩ := hz
  obtain ⟨hp, gn, dn, tk0, os⟩ := s
  change wpAny (model prog w) A (field (.ref z) 2 >>= _) _ E _
  refine wpAny_bind (wpAny_field hz rfl (x := .bool false) rfl ?_)
  change wpAny (model prog w) A (field (.ref z) 3 >>= _) _ E _
  refine wpAny_bind (wpAny_field hz rfl (x := .ref TI) rfl (wpAny_bind (wpAny_seqItems hTI rfl ?_)))
  change wpAny (model prog w) A (Builtin.SmallTypes.ownedTupleIsFree (.ref z) >>= _) _ E _
  refine wpAny_bind (z_free hz hv ?free ?held)
  case held =>
    intro h1 z1 b1
    have b1 : Heap.SameBut z hp h1 := b1
    simp only [Bool.false_eq_true, if_false]
    refine wpAny_bind ?_
    rw [← Array.forIn_toList]
    simp only [List.forIn_cons, List.forIn_nil]
    refine wpAny_bind (wpAny_bind (wpAny_holding ?_))
    change wpAny (model prog w) A (Builtin.SmallTypes.nextOf (.ref i1) >>= _) _ E _
    rcases Nat.lt_or_eq_of_le l1 with lt | eq
    · refine wpAny_bind (D1.item i ⟨h1, gn, dn, tk0, os⟩ _ _ lt (D1.over t1 b1 S.zf1) fun x h2 k2 px u2 b2 => wpAny_pure (wpAny_pure ?_))
      have b2 : Heap.SameBut i1 h1 h2 := b2
      refine wpAny_bind (wpAny_bind (wpAny_holding ?_))
      change wpAny (model prog w) A (Builtin.SmallTypes.nextOf (.ref i2) >>= _) _ E _
      have e2 : i = n2 := by omega
      refine wpAny_bind (D2.done ⟨h2, gn, dn, k2, os⟩ _ _ (by rw [← e2]; exact D2.over (D2.over t2 b1 S.zf2) b2 S.sep1_2) fun q e b3 he => ?_)
      have b3 : Heap.ExtBut i2 h2 q := b3
      exact hE q k2 e (fun c o q1 _ q3 q4 x => b3 _ _ q4 (b2.extBut _ _ q3 (b1.extBut _ _ q1 x))) he
    · refine wpAny_bind (D1.done ⟨h1, gn, dn, tk0, os⟩ _ _ (by rw [← eq]; exact D1.over t1 b1 S.zf1) fun q e b2 he => ?_)
      have b2 : Heap.ExtBut i1 h1 q := b2
      exact hE q tk0 e (fun c o q1 _ q3 _ x => b2 _ _ q3 (b1.extBut _ _ q1 x)) he
  case free =>
    simp only [if_true]
    refine wpAny_bind (wpAny_rule (wpAny_bind (wpAny_field hz rfl (x := .ref TO) rfl (wpAny_bind (wpAny_setField_rec hz (by simp) fun h1 z1 b1 => ?_)))))
    have z1 : Zo h1 z TI TO .ellipsis f := z1
    have b1 : Heap.SameBut z hp h1 := b1
    refine wpAny_bind ?_
    simp only [List.zipIdx_cons, List.zipIdx_nil, List.forIn_cons, List.forIn_nil]
    refine wpAny_bind (wpAny_bind (wpAny_onRaise ?_))
    change wpAny (model prog w) A (Builtin.SmallTypes.nextOf (.ref i1) >>= _) _ _ _
    have out : ∀ (q : Heap) (tk : Nat) (e : Addr), Zo q z TI TO .ellipsis f → (∃ o, q.get? e = some o ∧ o.cls = .type "StopIteration") → (∀ c o, c ≠ z → c ≠ TO → c ≠ i1 → c ≠ i2 → hp.get? c = some o → q.get? c = some o) →
        wpAny (model prog w) A (setField (.ref z) 0 .none) (fun _ s' => E (.ref e) s') E ⟨q, gn, dn, tk, os⟩ := by
      rintro q tk e hq ⟨oe, h1, h2⟩ hk
      have ne : e ≠ z := fun x => by
        subst x
        rw [hq] at h1
        cases h1
        simp at h2
      refine wpAny_setField_rec (s := ⟨q, gn, dn, tk, os⟩) hq (by simp) fun q' _ b => ?_
      have b : Heap.SameBut z q q' := b
      exact hE q' tk e (fun c o q1 q2 q3 q4 x => b.extBut _ _ q1 (hk c o q1 q2 q3 q4 x)) ⟨oe, b.extBut _ _ ne h1, h2⟩
    rcases Nat.lt_or_eq_of_le l1 with lt | eq
    · refine wpAny_bind (D1.item i ⟨h1, gn, dn, tk0, os⟩ _ _ lt (D1.over t1 b1 S.zf1) fun x h2 k2 px u2 b2 => wpAny_pure ?_)
      have b2 : Heap.SameBut i1 h1 h2 := b2
      have o2 : IsTupOf2 h2 TO a1 a2 := b2.extBut _ _ S.Ti1 (b1.extBut _ _ S.TOz hTO)
      refine wpAny_bind (wpAny_seqItems (s := ⟨h2, gn, dn, k2, os⟩) o2 rfl (wpAny_bind (updateSeq_IsTupOf2 (s := ⟨h2, gn, dn, k2, os⟩) o2 fun h3 o3 b3 => wpAny_bind (wpAny_letGo (wpAny_pure ?_)))))
      have b3 : Heap.SameBut TO h2 h3 := b3
      have e2 : i = n2 := by omega
      refine wpAny_bind (wpAny_bind (wpAny_onRaise ?_))
      change wpAny (model prog w) A (Builtin.SmallTypes.nextOf (.ref i2) >>= _) _ _ _
      refine wpAny_bind (D2.done ⟨h3, gn, dn, k2, os⟩ _ _ (by rw [← e2]; exact D2.over (D2.over (D2.over t2 b1 S.zf2) b2 S.sep1_2) b3 S.Tf2) fun q e b4 he => ?_)
      have b4 : Heap.ExtBut i2 h3 q := b4
      exact out q k2 e (b4 _ _ S.zi2 (b3.extBut _ _ S.TOz.symm (b2.extBut _ _ S.zi1 z1))) he fun c o q1 q2 q3 q4 x => b4 _ _ q4 (b3.extBut _ _ q2 (b2.extBut _ _ q3 (b1.extBut _ _ q1 x)))
    · refine wpAny_bind (D1.done ⟨h1, gn, dn, tk0, os⟩ _ _ (by rw [← eq]; exact D1.over t1 b1 S.zf1) fun q e b2 he => ?_)
      have b2 : Heap.ExtBut i1 h1 q := b2
      exact out q tk0 e (b2 _ _ S.zi1 z1) he fun c o q1 q2 q3 q4 x => b2 _ _ q3 (b1.extBut _ _ q1 x)
theorem Zs.ty (hz : Zs s.heap z TI TO) : s.TypeIs (.ref z) "zip" := by
  obtain ⟨_, _, _, h⟩ := hz
  exact ⟨_, h, rfl⟩
theorem z_next {Q : Option Value → Shared → Prop} (S : ZipSep2 z TI TO i1 i2 fp1 fp2) (D1 : PySem.Draws prog w A.in1 i1 fp1 n1 P1 St1) (D2 : PySem.Draws prog w A.in1 i2 fp2 n2 P2 St2) (hz : Zs s.heap z TI TO) (hTI : IsTupOf2 s.heap TI (.ref i1) (.ref i2)) (hTO : IsTupOf2 s.heap TO a1 a2) (t1 : St1 i s.heap) (t2 : St2 i s.heap) (l1 : i < n1) (l2 : i < n2)
    (hQ : ∀ x y h' tk, P1 i x → P2 i y → Zs h' z TI TO → (∃ b c, IsTupOf2 h' TO b c) → St1 (i + 1) h' → St2 (i + 1) h' → IsTupOf2 h' s.heap.objs.size x y →
      (∀ c o, c ≠ z → c ≠ TO → c ≠ i1 → c ≠ i2 → s.heap.get? c = some o → h'.get? c = some o) → Q (some (.ref s.heap.objs.size)) { s with heap := h', toks := tk }) :
    wpAny (model prog w) A (pyNext (.ref z)) Q E s := by
  unfold pyNext
  refine wpAny_bind (wpAny_attempt (wpAny_callSpecial?_slot (name := Str.ofString "__next__") hz.ty F.slot_zip_next (wpAny_call_entry F.slot_zip_next hz.ty F.entry_zip_next ?_ (F.args_zip_next_1 _))))
  exact z_item S D1 D2 hz hTI hTO t1 t2 l1 l2 fun x y h' tk c1 c2 c3 c4 c5 c6 c7 c8 => wpAny_pure (hQ x y h' tk c1 c2 c3 c4 c5 c6 c7 c8)
theorem z_stop {Q : Option Value → Shared → Prop} (S : ZipSep2 z TI TO i1 i2 fp1 fp2) (D1 : PySem.Draws prog w A.in1 i1 fp1 n1 P1 St1) (D2 : PySem.Draws prog w A.in1 i2 fp2 n2 P2 St2) (hz : Zs s.heap z TI TO) (hTI : IsTupOf2 s.heap TI (.ref i1) (.ref i2)) (hTO : IsTupOf2 s.heap TO a1 a2) (t1 : St1 i s.heap) (t2 : St2 i s.heap) (l1 : i ≤ n1) (l2 : i ≤ n2) (hend : i = n1 ∨ i = n2)
    (hQ : ∀ h' tk, (∀ c o, c ≠ z → c ≠ TO → c ≠ i1 → c ≠ i2 → s.heap.get? c = some o → h'.get? c = some o) → Q none { s with heap := h', toks := tk }) : wpAny (model prog w) A (pyNext (.ref z)) Q E s := by
  unfold pyNext
  refine wpAny_bind (wpAny_attempt (wpAny_callSpecial?_slot (name := Str.ofString "__next__") hz.ty F.slot_zip_next (wpAny_call_entry F.slot_zip_next hz.ty F.entry_zip_next ?_ (F.args_zip_next_1 _))))
  refine z_end S D1 D2 hz hTI hTO t1 t2 l1 l2 hend ?_
  rintro h' tk e hk ⟨o, ho, hc⟩
  exact wpAny_bind (wpAny_isInstance (T := "StopIteration") (b := true) ⟨o, ho, hc⟩ isSubtype_stop (wpAny_pure (hQ _ _ hk)))
end
theorem turn_zN {P : Program} {w : World} {K : Fg} {x : Str} {tpos : Pos} (k1 k2 : Kd) {a b z TI TO i1 i2 : Addr} (S : ZipSep2 z TI TO i1 i2 [i1, a] [i2, b]) (n1 : a ≠ i1) (n2 : b ≠ i2) :
    Turn P w K (.Name x tpos) (ItZ K k1 k2 a b) [z, TI, TO, i1, i2] z (fun i h => Zs h z TI TO ∧ IsTupOf2 h TI (.ref i1) (.ref i2) ∧ (∃ x y, IsTupOf2 h TO x y) ∧ k1.itr h i1 a i ∧ k2.itr h i2 b i) where
  mem := List.mem_cons_self
  obj := by
    rintro i h ⟨⟨v, f, _, hz⟩, hTI, ⟨x, y, hTO⟩, h1, h2⟩ c hc
    simp only [List.mem_cons, List.not_mem_nil, or_false] at hc
    rcases hc with rfl | rfl | rfl | rfl | rfl
    · exact ⟨_, hz, fun v q => nomatch q⟩
    · exact ⟨_, hTI, fun v q => nomatch q⟩
    · exact ⟨_, hTO, fun v q => nomatch q⟩
    · exact k1.itr_obj h1
    · exact k2.itr_obj h2
  keep := by
    rintro i h h' ⟨⟨v, f, hv, hz⟩, hTI, ⟨x, y, hTO⟩, h1, h2⟩ hk
    exact ⟨⟨v, f, hv, hk z (by simp) _ hz⟩, hk TI (by simp) _ hTI, ⟨x, y, hk TO (by simp) _ hTO⟩, k1.itr_at h1 fun o q => hk i1 (by simp) o q, k2.itr_at h2 fun o q => hk i2 (by simp) o q⟩
  item := by
    rintro X rfl rfl rfl hc i pins s σ H E I hf ⟨hz, hTI, ⟨x0, y0, hTO⟩, h1, h2⟩ ⟨xs, ys, x, y, hqx, hqy, hx, hy⟩
    obtain ⟨its1, rv1, p1⟩ := k1.inv I hqx
    obtain ⟨its2, rv2, p2⟩ := k2.inv I hqy
    obtain ⟨u1, hu1, ru1⟩ := rv1.get hx
    obtain ⟨u2, hu2, ru2⟩ := rv2.get hy
    have d1 := k1.draws (prog := X.prog) (w := X.w) (A := X.A.in1) (I.ok.hd hc) i1 a n1 its1.toArray
    have d2 := k2.draws (prog := X.prog) (w := X.w) (A := X.A.in1) (I.ok.hd hc) i2 b n2 its2.toArray
    refine z_next S d1 d2 hz hTI hTO ⟨h1, p1⟩ ⟨h2, p2⟩ (sz_lt hu1) (sz_lt hu2) fun w1 w2 g tk e1 e2 hz2 hTO2 s1 s2 hT hk => ?_
    obtain rfl : w1 = u1 := arr_get hu1 e1
    obtain rfl : w2 = u2 := arr_get hu2 e2
    refine ⟨_, rfl, wpAny_pure ?_⟩
    have nw := new_ok (P := X.prog) (w := X.w) (H := H) (vs := [x, y]) hT (.cons ru1 (.cons ru2 .nil)) (by simp)
    have I1 := I.turnedNew (t' := tk) (ch := [z, TI, TO, i1, i2]) (h' := g) (fun c o hb q => hk c o (fun z => hb (by simp [z])) (fun z => hb (by simp [z])) (fun z => hb (by simp [z])) (fun z => hb (by simp [z])) q) hf (Nat.le_refl _) nw
    refine ⟨.ref s.heap.objs.size, _, I1, rfl, ⟨_, x, y, rfl, I.hok.fresh (Nat.le_refl _), rfl, fun l hl => by rw [k1.inj I hqx hl]; exact hx, fun l hl => by rw [k2.inj I hqy hl]; exact hy⟩, ⟨hz2, hk _ _ S.TIz S.TITO S.TIi1 S.TIi2 hTI, hTO2, s1.1, s2.1⟩, ?_⟩
    intro c hcm
    have cl : c < s.heap.objs.size := by
      obtain ⟨v, f, _, hz⟩ := hz
      have hcm2 := hcm
      simp only [List.mem_cons, List.not_mem_nil, or_false] at hcm2
      rcases hcm2 with rfl | rfl | rfl | rfl | rfl
      · exact Heap.lt_size hz
      · exact Heap.lt_size hTI
      · exact Heap.lt_size hTO
      · obtain ⟨_, q, _⟩ := k1.itr_obj h1; exact Heap.lt_size q
      · obtain ⟨_, q, _⟩ := k2.itr_obj h2; exact Heap.lt_size q
    rw [upd_ne (Nat.ne_of_lt cl)]
    exact (hf c hcm).1
  done := by
    rintro X rfl rfl rfl hc i pins s σ H E I hf ⟨hz, hTI, ⟨x0, y0, hTO⟩, h1, h2⟩ ⟨xs, ys, hqx, hqy, l1, l2, hend⟩
    obtain ⟨its1, rv1, p1⟩ := k1.inv I hqx
    obtain ⟨its2, rv2, p2⟩ := k2.inv I hqy
    have m1 : its1.toArray.size = xs.length := by rw [rv1.length]; simp
    have m2 : its2.toArray.size = ys.length := by rw [rv2.length]; simp
    have d1 := k1.draws (prog := X.prog) (w := X.w) (A := X.A.in1) (I.ok.hd hc) i1 a n1 its1.toArray
    have d2 := k2.draws (prog := X.prog) (w := X.w) (A := X.A.in1) (I.ok.hd hc) i2 b n2 its2.toArray
    refine z_stop S d1 d2 hz hTI hTO ⟨h1, p1⟩ ⟨h2, p2⟩ (by omega) (by omega) (by omega) fun g tk hk => ⟨rfl, ?_⟩
    exact I.turnedL (t' := tk) (ch := [z, TI, TO, i1, i2]) (fun c o hb q => hk c o (fun z => hb (by simp [z])) (fun z => hb (by simp [z])) (fun z => hb (by simp [z])) (fun z => hb (by simp [z])) q) hf
  self := by
    rintro A i s Q E ⟨hz, _⟩ h
    refine wpAny_pyIter_slot hz.ty F.slot_zip_iter (wpAny_call_entry F.slot_zip_iter hz.ty F.entry_zip_iter ?_ (F.args_zip_iter_1 _))
    change wpAny (model P w) _ (ret (.ref z)) _ _ s
    exact wpAny_pure ⟨_, rfl, "zip", _, hz.ty, F.slot_zip_next.lookup, h⟩
theorem pi_zpN {X : Cx} {e e2 : Expr} {ta : TA} {p pos tpos : Pos} {x : Str} (hg : Gl X "zip") (hm : X.mg "zip" = none) (ha : PA X [e, e2] ta)
    (hs : starEach [e, e2] X.env = (false, eval e X.env) :: starEach [e2] X.env) (hpl : (backTo pos (starEach [e2] X.env)).any (·.1) = false) : PI X (.Name x tpos) (.Call (.Name "zip" p) [e, e2] [] pos) (iZpK X.K ta) := by
  refine ⟨fun pins s σ H R I h => ?_⟩
  refine Call_ (ld_blt I hg hm PyProof.Rows.boot_zip (PyProof.Rows.callWith_type1 (thn (ha.run pos pins s σ H _ I h) ?_) hs hpl))
  rintro us s1 ⟨vs, H1, I1, r1, k1, k2, a, b, xs, ys, rfl, hqx, hqy, q⟩
  cases r1 with
  | cons r rr =>
    cases rr with
    | cons r' rr =>
      cases rr
      cases r
      cases r'
      obtain ⟨its1, rv1, p1⟩ := k1.inv I1 hqx
      obtain ⟨its2, rv2, p2⟩ := k2.inv I1 hqy
      have al := k1.lt p1
      have bl := k2.lt p2
      refine zip_begins2 (k1.starts a its1.toArray) (k2.starts b its2.toArray) p1 p2 fun h2 hz hTI hTO o1 o2 hsz hk => wpAny_pyIter_zip hz ?_
      have I2 : Inv X pins σ H1 { s1 with heap := h2 } := I1.kept (t' := s1.toks) hk
      refine ⟨s1.heap.objs.size + 4, [s1.heap.objs.size + 4, s1.heap.objs.size + 2, s1.heap.objs.size + 3, s1.heap.objs.size, s1.heap.objs.size + 1], _, _, H1, rfl, I2, turn_zN k1 k2 (a := a) (b := b) (sep2 _ a b al bl) (Nat.ne_of_lt al) (Nat.ne_of_lt (Nat.lt_succ_of_lt bl)), ⟨⟨_, _, .inl rfl, hz⟩, hTI, ⟨_, _, hTO⟩, k1.itr0 o1, k2.itr0 o2⟩, ?_, q⟩
      intro c hc
      have hle : s1.heap.objs.size ≤ c := new_le (ks := [4, 2, 3, 0, 1]) hc
      exact I1.fpOk hle (I1.hok.fresh hle)
end Tg
/-! Methods of cells, zip, repr, calls. -/
namespace Tg
open PySem PySem.Spec PyProof.Rows L2

/-! ### methods of a cell -/
def eAppend (fo : DE) (fa : DE) : DE := fun env st => (fo env st).bind fun p => (fa env p.2).bind fun q => match p.1 with
  | .loc n => (q.2[n]?).bind fun xs => if fits xs.length then some (.non, q.2.set n (xs ++ [q.1])) else none
  | _ => none
section
variable {K : Fg} {σ : L2.St} {H : Hp} {Q : VK}
theorem ty_loc {r m : List Addr} {st : Sto} {n : Nat} {v : V} (g : Good K r m st H) (h : Den K r m H (.loc n) v) : tyV K "list" v H := by
  obtain ⟨a, rfl, ha⟩ := h
  have hi : n < st.length := by
    rw [← g.len]
    exact (List.getElem?_eq_some_iff.mp ha).1
  obtain ⟨xs, q, _⟩ := g.cell n a _ ha (List.getElem?_eq_getElem hi)
  exact .inl ⟨rfl, xs, SqL.of q⟩
theorem t_append {fo fa : DE} (h : tE K (eAppend fo fa) σ H Q) : tBM K "list" rAppend (tE K fo) (tAr K (aCons fa aNil)) σ H Q := by
  obtain ⟨r, m, st, env, d, st', g, e, f, q⟩ := h
  unfold eAppend at f
  obtain ⟨⟨x, s1⟩, f1, f⟩ := Option.bind_eq_some_iff.mp f
  obtain ⟨⟨y, s2⟩, f2, f⟩ := Option.bind_eq_some_iff.mp f
  dsimp only at f
  cases x with
  | loc n =>
    obtain ⟨xs, f3, f⟩ := Option.bind_eq_some_iff.mp f
    split at f
    · next hz =>
      cases f
      refine ⟨r, m, st, env, _, s1, g, e, f1, fun m1 H1 v1 l1 g1 d1 => ⟨ty_loc g1 d1, ?_⟩⟩
      have fr : aCons fa aNil env s1 = some ([y], s2) := by
        unfold aCons aNil
        rw [show fa env s1 = some (y, s2) from f2]
        rfl
      refine ⟨r, m1, s1, env, [y], s2, g1, e.mono l1, fr, fun m2 H2 vs l2 g2 d2 => ?_⟩
      obtain ⟨w, tl, rfl, a2, b2⟩ := d2
      cases b2
      obtain ⟨a, rfl, ha⟩ := d1.mono l2
      obtain ⟨us, h1, z, dd⟩ := g2.cell n a xs ha f3
      have hz2 : us.length < sizeLine := by
        rw [← dd.len]
        exact fits_lt hz
      obtain ⟨l3, g3⟩ := g2.put (xs := us ++ [w]) (c := xs ++ [y]) ha (by rw [List.length_append]; exact hz2) (dd.append (Dens.one a2))
      exact ⟨a, us, w, rfl, rfl, h1, hz2, q m2 _ _ ((l1.trans l2).trans l3) g3 rfl⟩
    · cases f
  | _ => cases f

/-- x.extend(list) -/
def eExtend (fo : DE) (fa : DE) : DE := fun env st => (fo env st).bind fun p => (fa env p.2).bind fun q => match p.1 with
  | .loc n => (q.2[n]?).bind fun xs => (lstOf q.2 q.1).bind fun ys => if fits (xs.length + ys.length) then some (.non, q.2.set n (xs ++ ys)) else none
  | _ => none
theorem args1 {fa : DE} {env : En} {s1 s2 : Sto} {y : D} (f2 : fa env s1 = some (y, s2)) : aCons fa aNil env s1 = some ([y], s2) := by
  unfold aCons aNil
  rw [f2]
  rfl
theorem t_extend {fo fa : DE} (h : tE K (eExtend fo fa) σ H Q) : tBM K "list" rExtend (tE K fo) (tAr K (aCons fa aNil)) σ H Q := by
  obtain ⟨r, m, st, env, d, st', g, e, f, q⟩ := h
  unfold eExtend at f
  obtain ⟨⟨x, s1⟩, f1, f⟩ := Option.bind_eq_some_iff.mp f
  obtain ⟨⟨y, s2⟩, f2, f⟩ := Option.bind_eq_some_iff.mp f
  dsimp only at f
  cases x with
  | loc n =>
    obtain ⟨xs, f3, f⟩ := Option.bind_eq_some_iff.mp f
    obtain ⟨ys, f4, f⟩ := Option.bind_eq_some_iff.mp f
    split at f
    · next hz =>
      cases f
      refine ⟨r, m, st, env, _, s1, g, e, f1, fun m1 H1 v1 l1 g1 d1 => ⟨ty_loc g1 d1, ?_⟩⟩
      refine ⟨r, m1, s1, env, [y], s2, g1, e.mono l1, args1 f2, fun m2 H2 vs l2 g2 d2 => ?_⟩
      obtain ⟨w, tl, rfl, a2, b2⟩ := d2
      cases b2
      obtain ⟨a, rfl, ha⟩ := d1.mono l2
      obtain ⟨us, h1, z, dd⟩ := g2.cell n a xs ha f3
      obtain ⟨b, ws, rfl, hb, db, zb⟩ := lst_list0 g2 a2 f4
      have hz2 : us.length + ws.length ≤ sizeLine := by
        rw [← dd.len, ← db.len]
        exact fits_line hz
      obtain ⟨l3, g3⟩ := g2.put (xs := us ++ ws) (c := xs ++ ys) ha (by rw [List.length_append]; exact hz2) (dd.append db)
      exact ⟨a, b, us, ws, rfl, rfl, h1, hb, hz2, q m2 _ _ ((l1.trans l2).trans l3) g3 rfl⟩
    · cases f
  | _ => cases f
/-- x.pop(i), i not negative -/
def ePopAt (fo : DE) (fa : DE) : DE := fun env st => (fo env st).bind fun p => (fa env p.2).bind fun q => match p.1, q.1 with
  | .loc n, .int i => (q.2[n]?).bind fun xs => if decide (0 ≤ i) && decide (i < (xs.length : Int)) && decide (i ≤ 1000000) then (xs[i.toNat]?).map fun y => (y, q.2.set n (xs.eraseIdx i.toNat)) else none
  | _, _ => none
theorem t_popAt {fo fa : DE} (h : tE K (ePopAt fo fa) σ H Q) : tBM K "list" rPopAt (tE K fo) (tAr K (aCons fa aNil)) σ H Q := by
  obtain ⟨r, m, st, env, d, st', g, e, f, q⟩ := h
  unfold ePopAt at f
  obtain ⟨⟨x, s1⟩, f1, f⟩ := Option.bind_eq_some_iff.mp f
  obtain ⟨⟨y, s2⟩, f2, f⟩ := Option.bind_eq_some_iff.mp f
  dsimp only at f
  split at f
  · next n i _ =>
    obtain ⟨xs, f3, f⟩ := Option.bind_eq_some_iff.mp f
    split at f
    · next hz =>
      obtain ⟨w, f4, f⟩ := Option.map_eq_some_iff.mp f
      cases f
      simp only [Bool.and_eq_true, decide_eq_true_eq] at hz
      obtain ⟨⟨h0, hl⟩, hm⟩ := hz
      refine ⟨r, m, st, env, _, s1, g, e, f1, fun m1 H1 v1 l1 g1 d1 => ⟨ty_loc g1 d1, ?_⟩⟩
      refine ⟨r, m1, s1, env, [.int i], s2, g1, e.mono l1, args1 f2, fun m2 H2 vs l2 g2 d2 => ?_⟩
      obtain ⟨u, tl, rfl, a2, b2⟩ := d2
      cases b2
      cases a2
      obtain ⟨a, rfl, ha⟩ := d1.mono l2
      obtain ⟨us, h1, z, dd⟩ := g2.cell n a xs ha f3
      obtain ⟨w2, e4, d4⟩ := dd.get f4
      have e63 : (2 : Int) ^ 63 = 9223372036854775808 := by decide
      have ul : (us.eraseIdx i.toNat).length ≤ sizeLine := by
        rw [List.length_eraseIdx]
        split <;> omega
      obtain ⟨l3, g3⟩ := g2.put (xs := us.eraseIdx i.toNat) (c := xs.eraseIdx i.toNat) ha ul (dd.eraseIdx i.toNat)
      exact ⟨a, us, i, i.toNat, w2, rfl, rfl, h1, by rw [e63]; omega, by rw [e63]; omega, seqIndex_of h0 (by rw [← dd.len]; exact hl), e4, q m2 _ _ ((l1.trans l2).trans l3) g3 (d4.mono l3)⟩
    · cases f
  · cases f
/-- x.index(v), integers -/
def eIndex (fo : DE) (fa : DE) : DE := fun env st => (fo env st).bind fun p => (fa env p.2).bind fun q => match q.1 with
  | .int v => (lstOf q.2 p.1).bind fun xs => (intsOf xs).bind fun ns => (ns.findIdx? fun z => decide (z = v)).map fun j => (.int (j : Nat), q.2)
  | _ => none
theorem ty_lst {r m : List Addr} {st st2 : Sto} {d : D} {xs : List D} {v : V} (g : Good K r m st H) (h : Den K r m H d v) (e : lstOf st2 d = some xs) : tyV K "list" v H := by
  cases d with
  | lst ds =>
    obtain ⟨a, vs, rfl, i, _⟩ := h
    exact .inl ⟨rfl, vs, SqL.of i⟩
  | loc n => exact ty_loc g h
  | _ => cases e
theorem t_index {fo fa : DE} (h : tE K (eIndex fo fa) σ H Q) : tBM K "list" (rIndex K) (tE K fo) (tAr K (aCons fa aNil)) σ H Q := by
  obtain ⟨r, m, st, env, d, st', g, e, f, q⟩ := h
  unfold eIndex at f
  obtain ⟨⟨x, s1⟩, f1, f⟩ := Option.bind_eq_some_iff.mp f
  obtain ⟨⟨y, s2⟩, f2, f⟩ := Option.bind_eq_some_iff.mp f
  dsimp only at f
  split at f
  · next v =>
    obtain ⟨xs, f3, f⟩ := Option.bind_eq_some_iff.mp f
    obtain ⟨ns, f4, f⟩ := Option.bind_eq_some_iff.mp f
    obtain ⟨j, f5, f⟩ := Option.map_eq_some_iff.mp f
    cases f
    refine ⟨r, m, st, env, _, _, g, e, f1, fun m1 H1 v1 l1 g1 d1 => ⟨ty_lst g1 d1 f3, ?_⟩⟩
    refine ⟨r, m1, _, env, [.int v], _, g1, e.mono l1, args1 f2, fun m2 H2 vs l2 g2 d2 => ?_⟩
    obtain ⟨u, tl, rfl, a2, b2⟩ := d2
    cases b2
    cases a2
    obtain ⟨a, us, rfl, h1, dd, z⟩ := lst_list0 g2 (d1.mono l2) f3
    rw [intsOf_eq f4] at dd
    rw [dd.ints] at h1
    obtain ⟨hj, p1, p2⟩ := List.findIdx?_eq_some_iff_getElem.mp f5
    have p1 := of_decide_eq_true p1
    refine ⟨a, ns.map V.int, .int v, j, .int ns[j], rfl, rfl, SqL.of h1, rfl, ?_, by rw [List.getElem?_map, List.getElem?_eq_getElem hj]; rfl, by show (ns[j] == v) = true; rw [p1]; exact beq_self_eq_true _, fun i z' hi hz => ?_, q m2 _ _ (l1.trans l2) g2 rfl⟩
    · rw [List.all_eq_true]
      intro w hw
      obtain ⟨_, _, rfl⟩ := List.mem_map.mp hw
      rfl
    · rw [List.getElem?_map, List.getElem?_eq_getElem (by omega)] at hz
      cases hz
      have := p2 i hi
      simp only [decide_eq_true_eq] at this
      show (ns[i] == v) = false
      simpa using this
  · cases f
/-- list(range(n)), tuple(range(n)) -/
def rg1 (j : Int) : Option (List D) := if decide (-1000000 ≤ j) && decide (j ≤ 1000000) then some (rangeD 0 j.toNat) else none
def eRgL (fa : DE) : DE := fun env st => (fa env st).bind fun p => match p.1 with
  | .int j => (rg1 j).map fun xs => (.lst xs, p.2)
  | _ => none
def eRgM (fa : DE) : DE := fun env st => (fa env st).bind fun p => match p.1 with
  | .int j => (rg1 j).map fun xs => (.loc p.2.length, p.2 ++ [xs])
  | _ => none
def eRgT (fa : DE) : DE := fun env st => (fa env st).bind fun p => match p.1 with
  | .int j => (rg1 j).map fun xs => (.tup xs, p.2)
  | _ => none
theorem rg_den {r m : List Addr} {j : Int} {xs : List D} (e : rg1 j = some xs) : RgOk 0 j ∧ Dens K r m H xs (rgV 0 j) ∧ (rgV 0 j).length ≤ sizeLine := by
  unfold rg1 at e
  split at e
  · next hc =>
    cases e
    simp only [Bool.and_eq_true, decide_eq_true_eq] at hc
    have e62 : (2 : Int) ^ 62 = 4611686018427387904 := by decide
    have e24 : (2 : Nat) ^ 24 = 16777216 := by decide
    refine ⟨⟨by rw [e62]; omega, by rw [e62]; omega, by rw [e62]; omega, by rw [e62]; omega, by rw [e24]; omega⟩, ?_, ?_⟩
    · have h1 : rangeD 0 j.toNat = ((List.range j.toNat).map fun i : Nat => (0 : Int) + (i : Int)).map D.int := by
        rw [List.map_map]
        rfl
      have h2 : rgV 0 j = ((List.range j.toNat).map fun i : Nat => (0 : Int) + (i : Int)).map V.int := by
        unfold rgV
        rw [List.map_map, Int.sub_zero]
        rfl
      rw [h1, h2]
      exact Dens.of_ints _
    · unfold rgV
      rw [List.length_map, List.length_range, sizeLine_eq]
      omega
  · cases e
theorem t_rgL {fa : DE} (h : tE K (eRgL fa) σ H Q) : tLstRg (tRg1 (tE K fa)) σ H Q := by
  obtain ⟨r, m, st, env, d, st', g, e, f, q⟩ := h
  unfold eRgL at f
  obtain ⟨⟨x, s1⟩, f1, f⟩ := Option.bind_eq_some_iff.mp f
  dsimp only at f
  split at f
  · next j =>
    obtain ⟨xs, f2, f⟩ := Option.map_eq_some_iff.mp f
    cases f
    refine ⟨r, m, st, env, _, _, g, e, f1, fun m1 H1 v1 l1 g1 d1 => ?_⟩
    cases d1
    obtain ⟨ok, dd, z⟩ := rg_den (K := K) (r := r) (m := m1) (H := H1) f2
    refine ⟨j, rfl, ok, fun p np => ?_⟩
    have l2 : Le m1 H1 m1 (upd H1 p (.lst (rgV 0 j))) := le_upd np
    exact q m1 _ (.ref p) (l1.trans l2) (g1.upd np) ⟨p, _, rfl, upd_same, g1.fresh np, z, dd.mono l2⟩
  · cases f
theorem t_rgM {fa : DE} (h : tE K (eRgM fa) σ H Q) : tLstRg (tRg1 (tE K fa)) σ H Q := by
  obtain ⟨r, m, st, env, d, st', g, e, f, q⟩ := h
  unfold eRgM at f
  obtain ⟨⟨x, s1⟩, f1, f⟩ := Option.bind_eq_some_iff.mp f
  dsimp only at f
  split at f
  · next j =>
    obtain ⟨xs, f2, f⟩ := Option.map_eq_some_iff.mp f
    cases f
    refine ⟨r, m, st, env, _, _, g, e, f1, fun m1 H1 v1 l1 g1 d1 => ?_⟩
    cases d1
    obtain ⟨ok, dd, z⟩ := rg_den (K := K) (r := r) (m := m1) (H := H1) f2
    refine ⟨j, rfl, ok, fun p np => ?_⟩
    obtain ⟨l2, g2, d2⟩ := new_cell g1 np z dd
    exact q _ _ (.ref p) (l1.trans l2) g2 d2
  · cases f
theorem t_rgT {fa : DE} (h : tE K (eRgT fa) σ H Q) : tTupRg (tRg1 (tE K fa)) σ H Q := by
  obtain ⟨r, m, st, env, d, st', g, e, f, q⟩ := h
  unfold eRgT at f
  obtain ⟨⟨x, s1⟩, f1, f⟩ := Option.bind_eq_some_iff.mp f
  dsimp only at f
  split at f
  · next j =>
    obtain ⟨xs, f2, f⟩ := Option.map_eq_some_iff.mp f
    cases f
    refine ⟨r, m, st, env, _, _, g, e, f1, fun m1 H1 v1 l1 g1 d1 => ?_⟩
    cases d1
    obtain ⟨ok, dd, z⟩ := rg_den (K := K) (r := r) (m := m1) (H := H1) f2
    refine ⟨j, rfl, ok, fun p np => ?_⟩
    have l2 : Le m1 H1 m1 (upd H1 p (.tup (rgV 0 j))) := le_upd np
    exact q m1 _ (.ref p) (l1.trans l2) (g1.upd np) ⟨p, _, rfl, .inl ⟨upd_same, g1.fresh np, z⟩, dd.mono l2⟩
  · cases f

/-! ### own defs -/
abbrev Orc := String → List D → Sto → Option (D × Sto)
def eCall (C : Orc) (x : String) (fa : DA) : DE := fun env st => (fa env st).bind fun p => C x p.1 p.2
def spC (K : Fg) (C : Orc) (x : String) (n : Nat) : List V → Hp → VK → Prop := fun vs H Q => ∃ r m st ds d st', ds.length = n ∧ Good K r m st H ∧ Dens K r m H ds vs ∧ C x ds st = some (d, st') ∧
  ∀ m' H' v, Le m H m' H' → Good K r m' st' H' → Den K r m' H' d v → Q v H'
theorem t_call {C : Orc} {x : String} {n : Nat} {fa : DA} (hn : ∀ env st ds st', fa env st = some (ds, st') → ds.length = n) (h : tE K (eCall C x fa) σ H Q) : tCallG (spC K C x n) (tAr K fa) σ H Q := by
  obtain ⟨r, m, st, env, d, st', g, e, f, q⟩ := h
  unfold eCall at f
  obtain ⟨⟨ds, s1⟩, f1, f⟩ := Option.bind_eq_some_iff.mp f
  exact ⟨r, m, st, env, ds, s1, g, e, f1, fun m1 H1 vs l1 g1 d1 => ⟨r, m1, s1, ds, d, st', hn _ _ _ _ f1, g1, d1, f, fun m2 H2 v l2 g2 d2 => q m2 H2 v (l1.trans l2) g2 d2⟩⟩

/-! ### zip, enumerate -/
noncomputable def ksrc (st : Sto) : D → Option (Kd × (Sto → Bool) × List D)
  | .tup xs => some (.t, always, xs)
  | .lst xs => some (.l, always, xs)
  | .loc n => (st[n]?).map fun xs => (.l, unchanged n xs, xs)
  | _ => none
def both (a b : Sto → Bool) : Sto → Bool := fun s => a s && b s
noncomputable def zipSrc (st : Sto) (d e : D) : Option ((Sto → Bool) × List D) := (ksrc st d).bind fun p => (ksrc st e).map fun q => (both p.2.1 q.2.1, pairsD p.2.2 q.2.2)
noncomputable def iZip (fa fb : DE) : DI := fun env st => (fa env st).bind fun p => (fb env p.2).bind fun q => (zipSrc q.2 p.1 q.1).map fun z => (z, q.2)
def enD : Nat → List D → List D
  | _, [] => []
  | i, x :: xs => .tup [.int i, x] :: enD (i + 1) xs
noncomputable def enSrc (st : Sto) (d : D) : Option ((Sto → Bool) × List D) := (ksrc st d).map fun p => (p.2.1, enD 0 p.2.2)
noncomputable def iEn (fa : DE) : DI := fun env st => (fa env st).bind fun p => (enSrc p.2 p.1).map fun z => (z, p.2)
def triD : List D → List D → List D → List D
  | x :: xs, y :: ys, z :: zs => .tup [x, y, z] :: triD xs ys zs
  | _, _, _ => []
noncomputable def zip3Src (st : Sto) (d e f : D) : Option ((Sto → Bool) × List D) := (ksrc st d).bind fun p => (ksrc st e).bind fun q => (ksrc st f).map fun u => (both p.2.1 (both q.2.1 u.2.1), triD p.2.2 q.2.2 u.2.2)
noncomputable def iZip3 (fa fb fc : DE) : DI := fun env st => (fa env st).bind fun p => (fb env p.2).bind fun q => (fc env q.2).bind fun u => (zip3Src u.2 p.1 q.1 u.1).map fun z => (z, u.2)
theorem pairsD_length : ∀ xs ys : List D, (pairsD xs ys).length = min xs.length ys.length
  | [], _ => by simp [pairsD]
  | _ :: _, [] => by simp [pairsD]
  | x :: xs, y :: ys => by
    simp only [pairsD, List.length_cons, pairsD_length xs ys]
    omega
theorem pairsD_get : ∀ {xs ys : List D} {i : Nat} {d : D}, (pairsD xs ys)[i]? = some d → ∃ x y, xs[i]? = some x ∧ ys[i]? = some y ∧ d = .tup [x, y]
  | [], _, _, _, h => by simp [pairsD] at h
  | _ :: _, [], _, _, h => by simp [pairsD] at h
  | x :: xs, y :: ys, 0, _, h => by
    simp [pairsD] at h
    exact ⟨x, y, rfl, rfl, h.symm⟩
  | x :: xs, y :: ys, i + 1, d, h => by
    simp only [pairsD, List.getElem?_cons_succ] at h
    simpa using pairsD_get h
theorem enD_length : ∀ (i : Nat) (xs : List D), (enD i xs).length = xs.length
  | _, [] => rfl
  | i, x :: xs => by simp only [enD, List.length_cons, enD_length (i + 1) xs]
theorem enD_get : ∀ {j : Nat} {xs : List D} {i : Nat} {d : D}, (enD j xs)[i]? = some d → ∃ x, xs[i]? = some x ∧ d = .tup [.int ((j + i : Nat) : Int), x]
  | _, [], _, _, h => by simp [enD] at h
  | j, x :: xs, 0, _, h => by
    simp [enD] at h
    exact ⟨x, rfl, h.symm⟩
  | j, x :: xs, i + 1, d, h => by
    simp only [enD, List.getElem?_cons_succ] at h
    obtain ⟨y, h1, h2⟩ := enD_get h
    refine ⟨y, by simpa using h1, ?_⟩
    rw [h2, show j + 1 + i = j + (i + 1) by omega]
theorem triD_length : ∀ xs ys zs : List D, (triD xs ys zs).length = min xs.length (min ys.length zs.length)
  | [], _, _ => by simp [triD]
  | _ :: _, [], _ => by simp [triD]
  | _ :: _, _ :: _, [] => by simp [triD]
  | x :: xs, y :: ys, z :: zs => by
    simp only [triD, List.length_cons, triD_length xs ys zs]
    omega
theorem triD_get : ∀ {xs ys zs : List D} {i : Nat} {d : D}, (triD xs ys zs)[i]? = some d → ∃ x y z, xs[i]? = some x ∧ ys[i]? = some y ∧ zs[i]? = some z ∧ d = .tup [x, y, z]
  | [], _, _, _, _, h => by simp [triD] at h
  | _ :: _, [], _, _, _, h => by simp [triD] at h
  | _ :: _, _ :: _, [], _, _, h => by simp [triD] at h
  | x :: xs, y :: ys, z :: zs, 0, _, h => by
    simp [triD] at h
    exact ⟨x, y, z, rfl, rfl, rfl, h.symm⟩
  | x :: xs, y :: ys, z :: zs, i + 1, d, h => by
    simp only [triD, List.getElem?_cons_succ] at h
    simpa using triD_get h
theorem ksrc_later {r m : List Addr} {st : Sto} {d : D} {k : Kd} {chk : Sto → Bool} {xs : List D} {v : V} (g : Good K r m st H) (h : Den K r m H d v) (e : ksrc st d = some (k, chk, xs)) :
    ∃ a vs, v = .ref a ∧ k.sq K H a vs ∧ xs.length ≤ sizeLine ∧ ∀ r1 m1 H1 s1, Rs r r1 H → Le m H m1 H1 → Good K r1 m1 s1 H1 → chk s1 = true → ∃ vs, k.sq K H1 a vs ∧ Dens K r1 m1 H1 xs vs := by
  cases d with
  | tup ds =>
    cases e
    obtain ⟨a, us, rfl, ia, da⟩ := h
    exact ⟨a, us, rfl, ia.sq, by rw [da.len]; exact ia.len, fun r1 m1 H1 s1 hr l _ _ => ⟨us, (ia.mono l).sq, (da.ext hr).mono l⟩⟩
  | lst ds =>
    cases e
    obtain ⟨a, vs, rfl, i, n, z, dd⟩ := h
    exact ⟨a, vs, rfl, SqL.of i, by rw [dd.len]; exact z, fun r1 m1 H1 s1 hr l _ _ => ⟨vs, SqL.of (l.keep a _ i n.1), (dd.ext hr).mono l⟩⟩
  | loc n =>
    obtain ⟨ys, e1, e2⟩ := Option.map_eq_some_iff.mp e
    cases e2
    obtain ⟨a, rfl, ha⟩ := h
    obtain ⟨vs, h1, z, dd⟩ := g.cell n a xs ha e1
    refine ⟨a, vs, rfl, SqL.of h1, by rw [dd.len]; exact z, fun r1 m1 H1 s1 _ l g1 c => ?_⟩
    obtain ⟨ws, h1, _, dd⟩ := g1.cell n a xs (l.at ha) (unchanged_iff.mp c)
    exact ⟨ws, SqL.of h1, dd⟩
  | _ => cases e
/-- a new tuple -/
theorem new_tuple {r m : List Addr} {st : Sto} {ds : List D} {vs : List V} {p : Addr} (g : Good K r m st H) (hd : Dens K r m H ds vs) (hl : vs.length ≤ 100) (h0 : 0 < vs.length) (np : H p = none) :
    Le m H m (upd H p (.tup vs)) ∧ Good K r m st (upd H p (.tup vs)) ∧ Den K r m (upd H p (.tup vs)) (.tup ds) (.ref p) := by
  have l : Le m H m (upd H p (.tup vs)) := le_upd np
  exact ⟨l, g.upd np, p, _, rfl, .inl ⟨upd_same, g.fresh np, Nat.le_trans hl (by decide)⟩, hd.mono l⟩
theorem zip_strm {r m1 : List Addr} {H1 : Hp} {s2 : Sto} {x y : D} {vx vy : V} {chk : Sto → Bool} {ds : List D} (g1 : Good K r m1 s2 H1) (dx : Den K r m1 H1 x vx) (dy : Den K r m1 H1 y vy) (f3 : zipSrc s2 x y = some (chk, ds)) :
    ∃ k1 k2 a b xs ys, vx = .ref a ∧ vy = .ref b ∧ Kd.sq K k1 H1 a xs ∧ Kd.sq K k2 H1 b ys ∧ Strm K r (ItZ K k1 k2 a b) chk ds m1 H1 := by
  obtain ⟨⟨k1, c1, xs⟩, f4, f5⟩ := Option.bind_eq_some_iff.mp f3
  obtain ⟨⟨k2, c2, ys⟩, f6, f7⟩ := Option.map_eq_some_iff.mp f5
  cases f7
  obtain ⟨a, us, rfl, qa0, za, la⟩ := ksrc_later g1 dx f4
  obtain ⟨b, ws, rfl, qb0, zb, lb⟩ := ksrc_later g1 dy f6
  refine ⟨k1, k2, a, b, us, ws, rfl, rfl, qa0, qb0, ?_⟩
  refine ⟨?_, fun r2 m2 H2 s3 i hr l g2 c hi => ?_, fun r2 m2 H2 s3 i v H' d hr l g2 c hi y => ?_, fun r2 m2 H2 s3 hr l g2 c => ?_⟩
  · rw [pairsD_length]
    exact Nat.le_trans (Nat.min_le_left _ _) za
  · have c := (Bool.and_eq_true _ _).mp c
    rw [pairsD_length] at hi
    obtain ⟨us, qa, d2⟩ := la r2 m2 H2 s3 hr l g2 c.1
    obtain ⟨ws, qb, d3⟩ := lb r2 m2 H2 s3 hr l g2 c.2
    have h1 : i < us.length := by rw [← d2.len]; exact Nat.lt_of_lt_of_le hi (Nat.min_le_left _ _)
    have h2 : i < ws.length := by rw [← d3.len]; exact Nat.lt_of_lt_of_le hi (Nat.min_le_right _ _)
    exact ⟨us, ws, us[i], ws[i], qa, qb, List.getElem?_eq_getElem h1, List.getElem?_eq_getElem h2⟩
  · have c := (Bool.and_eq_true _ _).mp c
    obtain ⟨us, qa, d2⟩ := la r2 m2 H2 s3 hr l g2 c.1
    obtain ⟨ws, qb, d3⟩ := lb r2 m2 H2 s3 hr l g2 c.2
    obtain ⟨x1, x2, e1, e2, rfl⟩ := pairsD_get hi
    obtain ⟨T, v1, v2, rfl, nT, rfl, y1, y2⟩ := y
    obtain ⟨w1, b1, k1⟩ := d2.get e1
    obtain ⟨w2, b2, k2⟩ := d3.get e2
    rw [y1 us qa] at b1
    rw [y2 ws qb] at b2
    cases b1
    cases b2
    exact new_tuple g2 ⟨_, _, rfl, k1, _, _, rfl, k2, rfl⟩ (by simp) (by simp) nT
  · have c := (Bool.and_eq_true _ _).mp c
    obtain ⟨us, qa, d2⟩ := la r2 m2 H2 s3 hr l g2 c.1
    obtain ⟨ws, qb, d3⟩ := lb r2 m2 H2 s3 hr l g2 c.2
    refine ⟨us, ws, qa, qb, ?_⟩
    rw [pairsD_length, d2.len, d3.len]
    omega
theorem en_strm {r m1 : List Addr} {H1 : Hp} {s2 : Sto} {x : D} {vx : V} {chk : Sto → Bool} {ds : List D} (g1 : Good K r m1 s2 H1) (dx : Den K r m1 H1 x vx) (f3 : enSrc s2 x = some (chk, ds)) :
    ∃ k a xs, vx = .ref a ∧ Kd.sq K k H1 a xs ∧ Strm K r (ItE K k a) chk ds m1 H1 := by
  obtain ⟨⟨k, c1, xs⟩, f4, f5⟩ := Option.map_eq_some_iff.mp f3
  cases f5
  obtain ⟨a, us, rfl, qa0, za, la⟩ := ksrc_later g1 dx f4
  refine ⟨k, a, us, rfl, qa0, ?_⟩
  refine ⟨?_, fun r2 m2 H2 s3 i hr l g2 c hi => ?_, fun r2 m2 H2 s3 i v H' d hr l g2 c hi y => ?_, fun r2 m2 H2 s3 hr l g2 c => ?_⟩
  · rw [enD_length]
    exact za
  · rw [enD_length] at hi
    obtain ⟨us, qa, d2⟩ := la r2 m2 H2 s3 hr l g2 c
    have h1 : i < us.length := by rw [← d2.len]; exact hi
    exact ⟨us, us[i], qa, List.getElem?_eq_getElem h1⟩
  · obtain ⟨us, qa, d2⟩ := la r2 m2 H2 s3 hr l g2 c
    obtain ⟨x1, e1, rfl⟩ := enD_get hi
    obtain ⟨T, v1, rfl, nT, rfl, y1⟩ := y
    obtain ⟨w1, b1, k1⟩ := d2.get e1
    rw [y1 us qa] at b1
    cases b1
    exact new_tuple g2 ⟨_, _, rfl, (by rw [Nat.zero_add]; rfl), _, _, rfl, k1, rfl⟩ (by simp) (by simp) nT
  · obtain ⟨us, qa, d2⟩ := la r2 m2 H2 s3 hr l g2 c
    refine ⟨us, qa, ?_⟩
    rw [enD_length, d2.len]
theorem zip3_strm {r m1 : List Addr} {H1 : Hp} {s2 : Sto} {x y z : D} {vx vy vz : V} {chk : Sto → Bool} {ds : List D} (g1 : Good K r m1 s2 H1) (dx : Den K r m1 H1 x vx) (dy : Den K r m1 H1 y vy) (dz : Den K r m1 H1 z vz) (f3 : zip3Src s2 x y z = some (chk, ds)) :
    ∃ k1 k2 k3 a b c xs ys zs, vx = .ref a ∧ vy = .ref b ∧ vz = .ref c ∧ Kd.sq K k1 H1 a xs ∧ Kd.sq K k2 H1 b ys ∧ Kd.sq K k3 H1 c zs ∧ Strm K r (ItZ3 K k1 k2 k3 a b c) chk ds m1 H1 := by
  obtain ⟨⟨k1, c1, xs⟩, f4, f5⟩ := Option.bind_eq_some_iff.mp f3
  obtain ⟨⟨k2, c2, ys⟩, f6, f7⟩ := Option.bind_eq_some_iff.mp f5
  obtain ⟨⟨k3, c3, zs⟩, f8, f9⟩ := Option.map_eq_some_iff.mp f7
  cases f9
  obtain ⟨a, us, rfl, qa0, za, la⟩ := ksrc_later g1 dx f4
  obtain ⟨b, ws, rfl, qb0, zb, lb⟩ := ksrc_later g1 dy f6
  obtain ⟨c, ts, rfl, qc0, zc, lc⟩ := ksrc_later g1 dz f8
  refine ⟨k1, k2, k3, a, b, c, us, ws, ts, rfl, rfl, rfl, qa0, qb0, qc0, ?_⟩
  refine ⟨?_, fun r2 m2 H2 s3 i hr l g2 c hi => ?_, fun r2 m2 H2 s3 i v H' d hr l g2 c hi y => ?_, fun r2 m2 H2 s3 hr l g2 c => ?_⟩
  · rw [triD_length]
    exact Nat.le_trans (Nat.min_le_left _ _) za
  · have c := (Bool.and_eq_true _ _).mp c
    have c2 := (Bool.and_eq_true _ _).mp c.2
    rw [triD_length] at hi
    have hi : i < min xs.length (min ys.length zs.length) := hi
    obtain ⟨us, qa, d2⟩ := la r2 m2 H2 s3 hr l g2 c.1
    obtain ⟨ws, qb, d3⟩ := lb r2 m2 H2 s3 hr l g2 c2.1
    obtain ⟨ts, qc, d4⟩ := lc r2 m2 H2 s3 hr l g2 c2.2
    have h1 : i < us.length := by rw [← d2.len]; omega
    have h2 : i < ws.length := by rw [← d3.len]; omega
    have h3 : i < ts.length := by rw [← d4.len]; omega
    exact ⟨us, ws, ts, us[i], ws[i], ts[i], qa, qb, qc, List.getElem?_eq_getElem h1, List.getElem?_eq_getElem h2, List.getElem?_eq_getElem h3⟩
  · have c := (Bool.and_eq_true _ _).mp c
    have c2 := (Bool.and_eq_true _ _).mp c.2
    obtain ⟨us, qa, d2⟩ := la r2 m2 H2 s3 hr l g2 c.1
    obtain ⟨ws, qb, d3⟩ := lb r2 m2 H2 s3 hr l g2 c2.1
    obtain ⟨ts, qc, d4⟩ := lc r2 m2 H2 s3 hr l g2 c2.2
    obtain ⟨x1, x2, x3, e1, e2, e3, rfl⟩ := triD_get hi
    obtain ⟨T, v1, v2, v3, rfl, nT, rfl, y1, y2, y3⟩ := y
    obtain ⟨w1, b1, k1⟩ := d2.get e1
    obtain ⟨w2, b2, k2⟩ := d3.get e2
    obtain ⟨w3, b3, k3⟩ := d4.get e3
    rw [y1 us qa] at b1
    rw [y2 ws qb] at b2
    rw [y3 ts qc] at b3
    cases b1
    cases b2
    cases b3
    exact new_tuple g2 ⟨_, _, rfl, k1, _, _, rfl, k2, _, _, rfl, k3, rfl⟩ (by simp) (by simp) nT
  · have c := (Bool.and_eq_true _ _).mp c
    have c2 := (Bool.and_eq_true _ _).mp c.2
    obtain ⟨us, qa, d2⟩ := la r2 m2 H2 s3 hr l g2 c.1
    obtain ⟨ws, qb, d3⟩ := lb r2 m2 H2 s3 hr l g2 c2.1
    obtain ⟨ts, qc, d4⟩ := lc r2 m2 H2 s3 hr l g2 c2.2
    refine ⟨us, ws, ts, qa, qb, qc, ?_⟩
    rw [triD_length, d2.len, d3.len, d4.len]
    omega
theorem i_zip {fa fb : DE} {R : It → Hp → Prop} (h : tI K (iZip fa fb) σ H R) : iZpK K (tAr K (aCons fa (aCons fb aNil))) σ H R := by
  obtain ⟨r, m, st, env, chk, ds, st', g, e, f, q⟩ := h
  unfold iZip at f
  obtain ⟨⟨x, s1⟩, f1, f⟩ := Option.bind_eq_some_iff.mp f
  obtain ⟨⟨y, s2⟩, f2, f⟩ := Option.bind_eq_some_iff.mp f
  obtain ⟨zz, f3, f⟩ := Option.map_eq_some_iff.mp f
  cases f
  have f3 : zipSrc s2 x y = some (chk, ds) := f3
  have fr : aCons fa (aCons fb aNil) env st = some ([x, y], s2) := by
    unfold aCons aNil
    rw [show fa env st = some (x, s1) from f1]
    show (Option.bind (Option.bind (fb env s1) _) _) = _
    rw [show fb env s1 = some (y, s2) from f2]
    rfl
  refine ⟨r, m, st, env, [x, y], s2, g, e, fr, fun m1 H1 vs l1 g1 d1 => ?_⟩
  obtain ⟨vx, t1, rfl, dx, vy, t2, rfl, dy, dn⟩ := d1
  cases dn
  obtain ⟨k1, k2, a, b, us, ws, rfl, rfl, z1, z2, z3⟩ := zip_strm g1 dx dy f3
  exact ⟨k1, k2, a, b, us, ws, rfl, z1, z2, q m1 H1 _ l1 g1 z3⟩
theorem i_en {fa : DE} {R : It → Hp → Prop} (h : tI K (iEn fa) σ H R) : iEnK K (tAr K (aCons fa aNil)) σ H R := by
  obtain ⟨r, m, st, env, chk, ds, st', g, e, f, q⟩ := h
  unfold iEn at f
  obtain ⟨⟨x, s1⟩, f1, f⟩ := Option.bind_eq_some_iff.mp f
  obtain ⟨zz, f3, f⟩ := Option.map_eq_some_iff.mp f
  cases f
  have f3 : enSrc s1 x = some (chk, ds) := f3
  have fr : aCons fa aNil env st = some ([x], s1) := by
    unfold aCons aNil
    rw [show fa env st = some (x, s1) from f1]
    rfl
  refine ⟨r, m, st, env, [x], s1, g, e, fr, fun m1 H1 vs l1 g1 d1 => ?_⟩
  obtain ⟨vx, t1, rfl, dx, dn⟩ := d1
  cases dn
  obtain ⟨k1, a, us, rfl, z1, z3⟩ := en_strm g1 dx f3
  exact ⟨k1, a, us, rfl, z1, q m1 H1 _ l1 g1 z3⟩
theorem i_zip3 {fa fb fc : DE} {R : It → Hp → Prop} (h : tI K (iZip3 fa fb fc) σ H R) : iZp3 K (tAr K (aCons fa (aCons fb (aCons fc aNil)))) σ H R := by
  obtain ⟨r, m, st, env, chk, ds, st', g, e, f, q⟩ := h
  unfold iZip3 at f
  obtain ⟨⟨x, s1⟩, f1, f⟩ := Option.bind_eq_some_iff.mp f
  obtain ⟨⟨y, s2⟩, f2, f⟩ := Option.bind_eq_some_iff.mp f
  obtain ⟨⟨u, s3⟩, f4, f⟩ := Option.bind_eq_some_iff.mp f
  obtain ⟨zz, f3, f⟩ := Option.map_eq_some_iff.mp f
  cases f
  have f3 : zip3Src s3 x y u = some (chk, ds) := f3
  have fr : aCons fa (aCons fb (aCons fc aNil)) env st = some ([x, y, u], s3) := by
    unfold aCons aNil
    rw [show fa env st = some (x, s1) from f1]
    show (Option.bind (Option.bind (fb env s1) _) _) = _
    rw [show fb env s1 = some (y, s2) from f2]
    show (Option.bind (Option.bind (Option.bind (fc env s2) _) _) _) = _
    rw [show fc env s2 = some (u, s3) from f4]
    rfl
  refine ⟨r, m, st, env, [x, y, u], s3, g, e, fr, fun m1 H1 vs l1 g1 d1 => ?_⟩
  obtain ⟨vx, t1, rfl, dx, vy, t2, rfl, dy, vz, t3, rfl, dz, dn⟩ := d1
  cases dn
  obtain ⟨k1, k2, k3, a, b, c, us, ws, ts, rfl, rfl, rfl, z1, z2, z4, z3⟩ := zip3_strm g1 dx dy dz f3
  exact ⟨k1, k2, k3, a, b, c, us, ws, ts, rfl, z1, z2, z4, q m1 H1 _ l1 g1 z3⟩
end

/-! ### repr -/
mutual
theorem noDict : ∀ d : D, (pyD d).hasDict = false
  | .non => by simp [pyD, PyData.hasDict]
  | .bl _ => by simp [pyD, PyData.hasDict]
  | .int _ => by simp [pyD, PyData.hasDict]
  | .str _ => by simp [pyD, PyData.hasDict]
  | .tup xs => by simp only [pyD, PyData.hasDict]; exact noDicts xs
  | .lst xs => by simp only [pyD, PyData.hasDict]; exact noDicts xs
  | .scr _ => by simp [pyD, PyData.hasDict]
  | .dic => by simp [pyD, PyData.hasDict]
  | .loc _ => by simp [pyD, PyData.hasDict]
theorem noDicts : ∀ ds : List D, PyData.hasDictAll (pyDs ds) = false
  | [] => by simp [pyDs, PyData.hasDictAll]
  | d :: ds => by simp only [pyDs, PyData.hasDictAll, noDict d, noDicts ds]; rfl
end
def shownD (d : D) : Str := (pyD d).shown
def rpOk (d : D) : Bool := okD d && (pyD d).showable && fits (shownD d).length
def gRepr (_ : Sto) : List D → Option D
  | [d] => if rpOk d then some (.str (shownD d)) else none
  | _ => none
def rRepr (K : Fg) : List V → Hp → VK → Prop := fun xs H Q => ∃ x r m d, xs = [x] ∧ Den K r m H d x ∧ rpOk d = true ∧ Q (.str (shownD d)) H
section
variable {X : Cx}
theorem cr_repr (gd : X.A.guards = some []) (hu : X.A.units + 80 < cLine) : CallR X (.builtin "repr") (rRepr X.K) := by
  intro pins s σ H xs us Q I rv h
  obtain ⟨x, r, m, d, rfl, hd, ok, q⟩ := h
  obtain ⟨u, rfl, ru⟩ := vals1 rv
  unfold rpOk at ok
  simp only [Bool.and_eq_true] at ok
  obtain ⟨⟨k1, k2⟩, k3⟩ := ok
  have hz : (pyD d).shown.length ≤ sizeLine := fits_line k3
  have fin : ∀ h' t tk, (∀ b o, s.heap.get? b = some o → h'.get? b = some o) → EP X pins σ Q (.str (pyD d).shown t) { s with heap := h', toks := tk } :=
    fun h' t tk hk => ⟨.str (shownD d), H, I.kept (t' := tk) hk, ⟨t, rfl⟩, q⟩
  have hdep : (pyD d).depth ≤ 64 := by
    rw [dep_eq d]
    exact of_decide_eq_true (Bool.and_eq_true_iff.mp k1).2
  have big : ∀ a, u = .ref a → wpAny (model X.prog X.w) X.A (call (.builtin "repr") [u]) (EP X pins σ Q) X.xe s := fun a e => by
    subst e
    obtain ⟨as, rd⟩ := Den.reads I d x _ hd (okD_lay k1) ru
    refine repr_of_reads' rd k2 (fun z => ?_) gd (by omega) (fun _ _ e => e) fin hz
    rw [noDict d] at z
    cases z
  cases d with
  | non =>
    cases hd; cases ru
    exact P.repr_of_none (fin s.heap _ _ fun _ _ e => e)
  | bl b =>
    cases hd; cases ru
    exact P.repr_of_bool (fin s.heap _ _ fun _ _ e => e)
  | int i =>
    cases hd
    obtain ⟨t, rfl⟩ := ru
    exact P.repr_of_int (of_decide_eq_true (by simpa [pyD, PyData.showable] using k2)) (fin s.heap _ _ fun _ _ e => e)
  | str z =>
    cases hd
    obtain ⟨t, rfl⟩ := ru
    exact P.repr_of_str (fin s.heap _ _ fun _ _ e => e) hz
  | tup ds =>
    obtain ⟨a, xs, rfl, _⟩ := id hd
    exact big a ru
  | lst ds =>
    obtain ⟨a, xs, rfl, _⟩ := id hd
    exact big a ru
  | scr _ => simp [okD, lay] at k1
  | dic => simp [okD, lay] at k1
  | loc _ => simp [okD, lay] at k1
theorem cd_repr {K : Fg} : CallD K gRepr (rRepr K) := by
  intro r m st H ds d vs Q g h e q
  unfold gRepr at e
  split at e
  · split at e
    · next d' ok =>
      cases e
      obtain ⟨x, tl, rfl, a, b⟩ := h
      cases b
      exact ⟨x, r, m, d', rfl, a, ok, q m H _ (Le.refl m H) g rfl⟩
    · cases e
  · cases e
end
end Tg
/-! Sorting: tuples of ints by their order, tuples by their length, ints down; a stable insertion sort as the function. -/
namespace Tg
open PySem PySem.Spec PyProof.Rows L2

section
variable {α β : Type} {lt : α → α → Bool}
def insB (lt : α → α → Bool) (x : α) : List α → List α
  | [] => [x]
  | y :: ys => if lt y x then y :: insB lt x ys else x :: y :: ys
def isort (lt : α → α → Bool) : List α → List α
  | [] => []
  | x :: xs => insB lt x (isort lt xs)
theorem insB_perm (x : α) : ∀ ys : List α, (insB lt x ys).Perm (x :: ys)
  | [] => List.Perm.refl _
  | y :: ys => by
    unfold insB
    split
    · exact ((insB_perm x ys).cons y).trans (List.Perm.swap x y ys)
    · exact List.Perm.refl _
theorem isort_perm : ∀ xs : List α, (isort lt xs).Perm xs
  | [] => List.Perm.refl _
  | x :: xs => (insB_perm x _).trans ((isort_perm xs).cons x)
theorem insB_srtd (O : SrtO.Swo lt) (x : α) : ∀ ys : List α, SrtO.Srtd lt ys → SrtO.Srtd lt (insB lt x ys)
  | [], _ => List.pairwise_singleton _ _
  | y :: ys, h => by
    unfold insB
    obtain ⟨h1, h2⟩ := List.pairwise_cons.mp h
    split
    · next hl =>
      refine List.pairwise_cons.mpr ⟨fun z hz => ?_, insB_srtd O x ys h2⟩
      rcases List.mem_cons.mp ((insB_perm x ys).mem_iff.mp hz) with rfl | hz
      · exact O.asym _ _ hl
      · exact h1 z hz
    · next hl =>
      have hl : lt y x = false := by simpa using hl
      refine List.pairwise_cons.mpr ⟨fun z hz => ?_, h⟩
      rcases List.mem_cons.mp hz with rfl | hz
      · exact hl
      · exact O.tr x y z hl (h1 z hz)
theorem isort_srtd (O : SrtO.Swo lt) : ∀ xs : List α, SrtO.Srtd lt (isort lt xs)
  | [] => List.Pairwise.nil
  | x :: xs => insB_srtd O x _ (isort_srtd O xs)
theorem insB_cls (O : SrtO.Swo lt) (x z : α) : ∀ ys : List α, (insB lt x ys).filter (SrtO.eqv lt z) = (x :: ys).filter (SrtO.eqv lt z)
  | [] => rfl
  | y :: ys => by
    unfold insB
    split
    · next hl =>
      have ih := insB_cls O x z ys
      rw [List.filter_cons, ih]
      rw [List.filter_cons, List.filter_cons, List.filter_cons]
      by_cases h1 : SrtO.eqv lt z y = true
      · by_cases h2 : SrtO.eqv lt z x = true
        · have := SrtO.eqv_trans O (v := x) h1
          rw [h2] at this
          have := (SrtO.eqv_iff.mp this.symm).1
          rw [hl] at this
          cases this
        · simp only [h1, h2, if_true, Bool.false_eq_true, if_false]
      · simp only [h1, Bool.false_eq_true, if_false]
    · rfl
theorem isort_stb (O : SrtO.Swo lt) : ∀ xs : List α, SrtO.Stb lt (isort lt xs) xs
  | [] => SrtO.Stb.refl _
  | x :: xs => ⟨isort_perm _, fun z => by
      have ih := (isort_stb O xs).cls z
      show (insB lt x (isort lt xs)).filter _ = _
      rw [insB_cls O x z, List.filter_cons, List.filter_cons, ih]⟩
theorem isort_uniq (O : SrtO.Swo lt) {xs ys : List α} (h : SrtO.Srtd lt ys) (q : SrtO.Stb lt ys xs) : ys = isort lt xs := by
  have s := isort_stb O xs
  exact SrtO.stb_uniq O h (isort_srtd O xs) ⟨q.perm.trans s.perm.symm, fun z => (q.cls z).trans (s.cls z).symm⟩
theorem insB_map (f : β → α) (x : β) : ∀ ys : List β, (insB (fun a b => lt (f a) (f b)) x ys).map f = insB lt (f x) (ys.map f)
  | [] => rfl
  | y :: ys => by
    unfold insB
    rw [List.map_cons]
    show _ = if lt (f y) (f x) = true then _ else _
    by_cases h : lt (f y) (f x) = true
    · rw [if_pos h, if_pos h, List.map_cons, insB_map f x ys]
    · rw [if_neg h, if_neg h]
      rfl
theorem isort_map (f : β → α) : ∀ xs : List β, (isort (fun a b => lt (f a) (f b)) xs).map f = isort lt (xs.map f)
  | [] => rfl
  | x :: xs => by
    show (insB _ x (isort _ xs)).map f = insB lt (f x) (isort lt (xs.map f))
    rw [insB_map, isort_map f xs]
theorem insB_congr {lt' : α → α → Bool} (x : α) : ∀ ys : List α, (∀ y ∈ ys, lt y x = lt' y x) → insB lt x ys = insB lt' x ys
  | [], _ => rfl
  | y :: ys, h => by
    unfold insB
    rw [h y List.mem_cons_self, insB_congr x ys fun z hz => h z (List.mem_cons_of_mem _ hz)]
theorem isort_congr {lt' : α → α → Bool} : ∀ xs : List α, (∀ x ∈ xs, ∀ y ∈ xs, lt x y = lt' x y) → isort lt xs = isort lt' xs
  | [], _ => rfl
  | x :: xs, h => by
    show insB lt x (isort lt xs) = insB lt' x (isort lt' xs)
    rw [isort_congr xs fun a ha b hb => h a (List.mem_cons_of_mem _ ha) b (List.mem_cons_of_mem _ hb)]
    exact insB_congr x _ fun y hy => h y (List.mem_cons_of_mem _ ((isort_perm xs).mem_iff.mp hy)) x List.mem_cons_self
end

/-! ### tuples of ints -/
theorem vals_pairs {γ : Type} {f : γ → V} {g : γ → Value} : ∀ {l : List γ}, (∀ x ∈ l, RelV (f x) (g x)) → Vals (l.map f) (l.map g)
  | [], _ => .nil
  | x :: l, h => .cons (h x List.mem_cons_self) (vals_pairs fun y hy => h y (List.mem_cons_of_mem _ hy))
theorem vals_zip : ∀ {xs : List V} {us : List Value}, Vals xs us → ∀ p ∈ xs.zip us, RelV p.1 p.2
  | _, _, .nil, p, h => by simp at h
  | _, _, .cons a b, p, h => by
    rw [List.zip_cons_cons] at h
    rcases List.mem_cons.mp h with rfl | h
    · exact a
    · exact vals_zip b p h
section
variable {prog : Program} {w : World} {A : Around} {E : Value → Shared → Prop} {s : Shared}
theorem lt_tup {v u : Value} {ns ms : List Int} {Q : Bool → Shared → Prop} (hu : A.units < cLine) (hv : TS.TupInts s.heap v ns) (hw : TS.TupInts s.heap u ms) (h : Q (HT.lexLt ns ms) s) : wpAny (model prog w) A (keyLt' oneType' v u) Q E s := by
  obtain ⟨a, xs, rfl, ⟨⟨cls, dd, data, sl⟩, ho, hc, n, hd⟩, i⟩ := hv
  obtain ⟨b, ys, rfl, ⟨⟨cls2, dd2, data2, sl2⟩, ho2, hc2, n2, hd2⟩, j⟩ := hw
  simp only at hc hd hc2 hd2
  subst hc hd hc2 hd2
  rw [keyLt'_oneType, oneLt'_eq]
  simp only [if_true]
  refine wpAny_bind (wpAny_cRoomFor hu ?_)
  refine wpAny_bind (wpAny_callSpecialIfBound?_slot ⟨_, ho, rfl⟩ PySem.F.slot_tuple_lt (call_meets PySem.F.slot_tuple_lt ⟨_, ho, rfl⟩ PySem.F.entry_tuple_lt (PySem.F.args_tuple_lt_2 _ _) (HT.tuple_lt_ints a b xs ys n n2 dd dd2 sl sl2 ns ms i j) ⟨ho, ho2, ?_⟩))
  exact wpAny_truthy_bool h
/-- list.sort by a key that is an int -/
theorem list_sort_key {a : Addr} {vs : List Value} {n : Nat} {f : Value} {ks : List Int} {R : PySem.Fin → Shared → Prop} (ho : s.heap.get? a = some (seqObj "list" vs.toArray n)) (hz : vs.length ≤ sizeLine) (hlen : ks.length = vs.length)
    (turn : ∀ (i : Nat) (v : Value) (k : Int), vs[i]? = some v → ks[i]? = some k → ∀ (h : Heap) (tk : Nat), (∀ b o, b ≠ a → s.heap.get? b = some o → h.get? b = some o) →
      wpAny (model prog w) A (call f [v]) (fun r s' => ∃ t tk', r = .int k t ∧ s' = { s with heap := h, toks := tk' }) (fun _ _ => False) { s with heap := h, toks := tk })
    (h : ∀ (h' : Heap) (tk : Nat) (out : List Value) (c : Nat), (∀ b o, b ≠ a → s.heap.get? b = some o → h'.get? b = some o) → h'.get? a = some (seqObj "list" out.toArray c) → out = (isort (fun p q : Value × Int => decide (p.2 < q.2)) (vs.zip ks)).map (·.1) → R (.done (.ret .none)) { s with heap := h', toks := tk }) :
    wpAny (model prog w) A (ksk_tree a f false) R E s := by
  have ha : a < s.heap.objs.size := Heap.lt_size ho
  have s1 := Heap.SameBut.update s.heap a (Obj.mapSeq fun _ => (#[] : Array Value))
  obtain ⟨e1, ho1⟩ : ∃ e1, (s.heap.update a (Obj.mapSeq fun _ => (#[] : Array Value))).get? a = some (seqObj "list" #[] e1) := ⟨_, get?_update_seq ho fun _ => #[]⟩
  have hkS : ((s.heap.update a (Obj.mapSeq fun _ => (#[] : Array Value))).push (seqObj "tuple" vs.toArray 0)).objs.size = s.heap.objs.size + 1 := by rw [size_push', Heap.size_update]
  unfold ksk_tree
  refine wpAny_bind (listItems_at ho rfl ?_)
  refine wpAny_bind (listUpdate_at ho rfl ?_ (by rw [List.size_toArray]; exact hz) (Nat.zero_le _))
  refine wpAny_bind (seqEpoch_at ho1 rfl ?_)
  refine wpAny_bind (wpAny_newTuple ?_ (by show vs.length ≤ _; exact hz))
  refine wpAny_bind (wpAny_newList ?_ (Nat.zero_le _))
  refine wpAny_holding ?_
  generalize hh0 : ((s.heap.update a (Obj.mapSeq fun _ => (#[] : Array Value))).push (seqObj "tuple" vs.toArray 0)).push (seqObj "list" #[] 0) = h0
  rw [hkS]
  have k0 : ∀ b o, b ≠ a → s.heap.get? b = some o → h0.get? b = some o := fun b o hb e => by
    rw [← hh0]
    exact Heap.get?_push_of_some _ (Heap.get?_push_of_some _ ((s1.2 b hb).trans e))
  have a0 : h0.get? a = some (seqObj "list" #[] e1) := by
    rw [← hh0]
    exact Heap.get?_push_of_some _ (Heap.get?_push_of_some _ ho1)
  have q0 : h0.get? (s.heap.objs.size + 1) = some (seqObj "list" #[] 0) := by
    rw [← hh0, ← hkS]
    exact Heap.get?_push_size _ rfl
  have hka : s.heap.objs.size + 1 ≠ a := Nat.ne_of_gt (Nat.lt_succ_of_lt ha)
  have hbk : ∀ b o, s.heap.get? b = some o → b ≠ s.heap.objs.size + 1 := fun b o e => Nat.ne_of_lt (Nat.lt_succ_of_lt (Heap.lt_size e))
  show wpAny (model prog w) A (ksk_rest a f false vs.toArray e1 (.ref (s.heap.objs.size + 1))) R E { s with heap := h0 }
  unfold ksk_rest
  refine wpAny_bind (wpAny_rule ?_)
  first
    | rw [List.forIn_toArray]
    | (rw [← Array.forIn_toList]; simp only [List.toList_toArray])
    | rw [← Array.forIn_toList]
  refine wpAny_bind (ksk_fold (fun i s' => ∃ h' tk kA e, s' = { s with heap := h', toks := tk } ∧ (∀ b o, b ≠ a → s.heap.get? b = some o → h'.get? b = some o) ∧ h'.get? a = some (seqObj "list" #[] e1) ∧ h'.get? (s.heap.objs.size + 1) = some (seqObj "list" kA e) ∧ IntsAre kA.toList (ks.take i)) vs 0 _
    ⟨h0, s.toks, #[], 0, rfl, k0, a0, q0, by simpa using IntsAre.nil⟩ ?step ?done)
  case step =>
    rintro j x s' hx ⟨h', tk, kA, e, rfl, k1, a1, q1, hk⟩
    simp only [Nat.zero_add] at hk ⊢
    have hj : j < vs.length := (List.getElem?_eq_some_iff.mp hx).1
    obtain ⟨k, hkj⟩ : ∃ k, ks[j]? = some k := ⟨_, List.getElem?_eq_getElem (by omega)⟩
    have hz2 : kA.size ≤ j := by
      have h1 := hk.length
      rw [Array.length_toList, List.length_take] at h1
      omega
    refine wpAny_bind (wpAny_attempt (wpAny_mono (turn j x k hx hkj h' tk k1) (fun v s'' he => ?_) fun _ _ hF => hF.elim))
    obtain ⟨t2, tk2, rfl, rfl⟩ := he
    try dsimp only
    have s2 := Heap.SameBut.update h' (s.heap.objs.size + 1) (Obj.mapSeq (·.push (.int k t2)))
    obtain ⟨c2, hc2⟩ : ∃ c2, (h'.update (s.heap.objs.size + 1) (Obj.mapSeq (·.push (.int k t2)))).get? (s.heap.objs.size + 1) = some (seqObj "list" (kA.push (.int k t2)) c2) := ⟨_, get?_update_seq q1 (·.push (.int k t2))⟩
    have ek : ks.take (j + 1) = ks.take j ++ [k] := by rw [List.take_add_one, hkj]; simp
    have ea : (kA.push (Value.int k t2)).toList = kA.toList ++ [Value.int k t2] := by simp
    refine wpAny_bind (listUpdate_at q1 rfl ?_ (by omega) (Nat.le_trans (Nat.le_of_eq (Array.size_push ..)) (by omega)))
    exact wpAny_pure ⟨rfl, _, _, kA.push (.int k t2), c2, rfl, fun b o hb e => (s2.2 b (hbk b o e)).trans (k1 b o hb e), (s2.2 a hka.symm).trans a1, hc2, by rw [ea, ek]; exact ksk_snoc hk⟩
  case done =>
    rintro s' ⟨h', tk, kA, e, rfl, k1, a1, q1, hk⟩
    have hk' : IntsAre kA.toList ks := by
      have e3 : ks.take (0 + vs.length) = ks := List.take_of_length_le (by omega)
      rw [e3] at hk
      exact hk
    have hsz : kA.size = vs.length := by
      have h1 := hk'.length
      rw [Array.length_toList] at h1
      omega
    try dsimp only
    refine wpAny_bind (listItems_at q1 rfl ?_)
    unfold ksk_end
    try dsimp only
    have tail : ∀ st : SortSt, failedOf st = none → SrtO.Srtd (SrtO.lt2 SrtO.ltIv) (arrOf st).toList → SrtO.Stb (SrtO.lt2 SrtO.ltIv) (arrOf st).toList (kA.zip vs.toArray).toList →
        wpAny (model prog w) A (ksk_tail a false e1 (.ref (s.heap.objs.size + 1)) st) R E { s with heap := h', toks := tk } := by
      intro st hfl hs hb
      have u := isort_uniq (SrtO.swo2 SrtO.swo_int) hs hb
      rw [ksk_zip] at u
      have eo : ((arrOf st).map (·.2)).toList = (isort (fun p q : Value × Int => decide (p.2 < q.2)) (vs.zip ks)).map (·.1) := by
        have ez : (kA.toList.zip vs).map (fun p : Keyed => (p.2, SrtO.iv p.1)) = vs.zip ks := by
          rw [← SrtO.iv_ints hk', List.zip_map_right]
          apply List.ext_getElem
          · simp [Nat.min_comm]
          · intro i h1 h2
            simp
        rw [Array.toList_map, u, ← ez, ← isort_map (lt := fun p q : Value × Int => decide (p.2 < q.2)) (fun p : Keyed => (p.2, SrtO.iv p.1)), List.map_map]
        rfl
      have hsz2 : (arrOf st).size = vs.length := by
        have := hb.perm.length_eq
        rw [ksk_zip, List.length_zip, Array.length_toList, Array.length_toList, hsz, Nat.min_self] at this
        exact this
      have s3 := Heap.SameBut.update h' (s.heap.objs.size + 1) (Obj.mapSeq fun _ => (#[] : Array Value))
      have na1 : (h'.update (s.heap.objs.size + 1) (Obj.mapSeq fun _ => (#[] : Array Value))).get? a = some (seqObj "list" #[] e1) := (s3.2 a hka.symm).trans a1
      have s4 := Heap.SameBut.update (h'.update (s.heap.objs.size + 1) (Obj.mapSeq fun _ => (#[] : Array Value))) a (Obj.mapSeq fun _ => (arrOf st).map (·.2))
      obtain ⟨c2, hc2⟩ : ∃ c2, ((h'.update (s.heap.objs.size + 1) (Obj.mapSeq fun _ => (#[] : Array Value))).update a (Obj.mapSeq fun _ => (arrOf st).map (·.2))).get? a = some (seqObj "list" ((arrOf st).map (·.2)) c2) :=
        ⟨_, get?_update_seq na1 fun _ => (arrOf st).map (·.2)⟩
      unfold ksk_tail
      try dsimp only
      refine wpAny_bind (listUpdate_at q1 rfl ?_ (by omega) (Nat.zero_le _))
      refine wpAny_bind (wpAny_letGo ?_)
      refine wpAny_bind (seqEpoch_at na1 rfl ?_)
      refine wpAny_bind (listUpdate_at na1 rfl ?_ (Nat.zero_le _) (by simp only [Bool.false_eq_true, if_false, Array.size_map]; omega))
      rw [hfl]
      simp only [bne_self_eq_false, Bool.false_eq_true, if_false]
      refine wpAny_pure (h _ _ ((arrOf st).map (·.2)).toList c2 (fun b o hb e => (s4.2 b hb).trans ((s3.2 b (hbk b o e)).trans (k1 b o hb e))) ?_ eo)
      rw [Array.toArray_toList]
      exact hc2
    simp only [Bool.false_eq_true, if_false]
    by_cases h2 : vs.toArray.size < 2
    · rw [if_pos h2, if_pos h2]
      refine wpAny_bind (wpAny_pure ?_)
      rw [StateT.run_pure]
      refine wpAny_bind (wpAny_pure ?_)
      try dsimp only
      refine tail (SortSt.mk' general' (kA.zip vs.toArray) #[] 7 none) rfl ?_ (SrtO.Stb.refl _)
      show SrtO.Srtd _ (kA.zip vs.toArray).toList
      rw [ksk_zip]
      have : (kA.toList.zip vs).length < 2 := by
        rw [List.length_zip, Array.length_toList]
        rw [List.size_toArray] at h2
        omega
      match hq : kA.toList.zip vs, this with
      | [], _ => exact List.Pairwise.nil
      | [p], _ => exact List.pairwise_singleton _ _
      | _ :: _ :: _, h => exact absurd h (by simp)
    · rw [if_neg h2, if_neg h2]
      rw [List.size_toArray] at h2
      rw [ksk_kind hk' (by omega)]
      refine wpAny_bind (wpAny_pure ?_)
      refine wpAny_bind (wpAny_mono (SrtO.wpS_sortO (κ := oneType') (P := fun p => p.1 ∈ kA.toList) (lt := SrtO.lt2 SrtO.ltIv) (st0 := SortSt.mk' oneType' (kA.zip vs.toArray) #[] 7 none)
        (Q := fun _ st' => SrtO.Srtd (SrtO.lt2 SrtO.ltIv) (arrOf st').toList ∧ SrtO.Stb (SrtO.lt2 SrtO.ltIv) (arrOf st').toList (kA.zip vs.toArray).toList ∧ failedOf st' = none) (SrtO.swo2 SrtO.swo_int) (SrtO.int_cmp hk') rfl (fun p hp => ?_) rfl rfl fun st' b1 b2 b3 => ⟨b1, b2, b3⟩) ?_ fun _ _ e => e)
      · have hp : p ∈ (kA.zip vs.toArray).toList := hp
        rw [ksk_zip] at hp
        exact (List.of_mem_zip hp).1
      · rintro ⟨⟨⟩, st'⟩ s' ⟨rfl, hp1, hp2, hf⟩
        try dsimp only
        exact tail st' hf hp1 hp2
end

/-! ### rules -/
/-- x stands before y by what is known of them -/
def lexP {α : Type} (p q : α × List Int) : Bool := HT.lexLt p.2 q.2
def lenP {α : Type} (p q : α × Int) : Bool := decide (p.2 < q.2)
def rSortTI (K : Fg) : List V → Hp → VK → Prop := fun vs H Q => ∃ (a : Addr) (ps : List (V × List Int)), vs = [.ref a] ∧ SqL K H a (ps.map (·.1)) ∧ (∀ p ∈ ps, ∃ t, p.1 = .ref t ∧ SqT K H t (p.2.map V.int)) ∧ (∃ v r, ps = (v, []) :: r) ∧
  ∀ q, H q = none → Q (.ref q) (upd H q (.lst ((isort lexP ps).map (·.1))))
def rSortLen (K : Fg) : List V → Hp → VK → Prop := fun vs H Q => ∃ (a : Addr) (ps : List (V × Int)), vs = [.ref a] ∧ SqL K H a (ps.map (·.1)) ∧ (∀ p ∈ ps, ∃ t xs, p.1 = .ref t ∧ SqT K H t xs ∧ (xs.length : Int) = p.2) ∧
  ∀ q, H q = none → Q (.ref q) (upd H q (.lst ((isort lenP ps).map (·.1))))
section
variable {X : Cx}
theorem kind_tup0 {M : Model} {A : Around} {E : Value → Shared → Prop} {s : Shared} {v : Value} {vs : List Value} {Q : SortKind → Shared → Prop} (h0 : TS.TupInts s.heap v []) (hv : ∀ u ∈ vs, ∃ ns, TS.TupInts s.heap u ns) (h : Q oneType' s) :
    wpAny M A (keyKind' (v :: vs).toArray) Q E s := by
  have ty : ∀ {u : Value} {ns : List Int}, TS.TupInts s.heap u ns → PySem.W.Looks M s.heap (typeOf u) (.type "tuple") := fun {u ns} ⟨a, xs, e, ⟨o, ho, hc, hd⟩, _⟩ => by
    subst e
    rw [← hc]
    exact (PySem.W.Looks.ld ho).andThen .now
  have fst : ∀ {u : Value} {ns : List Int}, TS.TupInts s.heap u ns → ∃ r : Option Value, (ns = [] → r = none) ∧ ∀ Q' : Option Value → Shared → Prop, Q' r s → wpAny M A (firstOfTuple' u) Q' E s := fun {u ns} h => by
    have t1 := ty h
    obtain ⟨a, xs, e, ⟨o, ho, hc, n, hd⟩, i⟩ := h
    subst e
    refine ⟨xs[0]?, fun hn => ?_, fun Q' hq => ?_⟩
    · subst hn
      have e0 : xs.toList = [] := List.length_eq_zero_iff.mp (by rw [i.length]; rfl)
      have e1 : xs = #[] := by rw [← Array.toArray_toList (xs := xs), e0]
      rw [e1]; rfl
    · rw [PySem.W.kas_first_eq]
      refine wpAny_bind (t1.here ?_)
      rw [if_neg (by decide)]
      exact wpAny_bind (listItems_at ho hd (wpAny_pure hq))
  have fsts : ∀ us : List Value, (∀ u ∈ us, ∃ ns, TS.TupInts s.heap u ns) → ∀ Q' : List (Option Value) → Shared → Prop, (∀ rs, Q' rs s) → wpAny M A (us.mapM firstOfTuple') Q' E s := by
    intro us
    induction us with
    | nil => intro _ Q' hq; rw [List.mapM_nil]; exact wpAny_pure (hq [])
    | cons u us ih =>
      intro hu Q' hq
      obtain ⟨ns, hn⟩ := hu u List.mem_cons_self
      obtain ⟨r, _, hr⟩ := fst hn
      rw [List.mapM_cons]
      exact wpAny_bind (hr _ (wpAny_bind (ih (fun x hx => hu x (List.mem_cons_of_mem _ hx)) _ fun rs => wpAny_pure (hq _))))
  obtain ⟨r0, r0n, hr0⟩ := fst h0
  have r0n := r0n rfl
  subst r0n
  rw [keyKind'_eq, List.mapM_toArray, map_eq_pure_bind, List.mapM_cons]
  refine wpAny_bind (wpAny_bind (wpAny_bind (hr0 _ (wpAny_bind (fsts vs hv _ fun rs => wpAny_pure (wpAny_pure ?_))))))
  rw [if_neg (by simp), if_neg (by simp)]
  rw [oneTypeOnly'_eq, List.mapM_toArray, map_eq_pure_bind]
  refine wpAny_bind (wpAny_bind (wpAny_bind (PySem.W.kas_mapM (r := .type "tuple") _ (fun u hu Q' hq => ?_) (wpAny_pure ?_))))
  · rcases List.mem_cons.mp hu with rfl | hu
    · exact (ty h0).here hq
    · obtain ⟨ns, hn⟩ := hv u hu
      exact (ty hn).here hq
  · have hall : ((List.map (fun _ => Value.type "tuple") (v :: vs)).toArray.all fun x => x == Value.type "tuple") = true := by
      simp only [List.all_toArray, List.all_map, List.all_eq_true]
      intro _ _
      rfl
    have h0 : (List.map (fun _ => Value.type "tuple") (v :: vs)).toArray[0]? = some (Value.type "tuple") := by simp
    rw [h0]
    simp only [hall, if_true]
    exact wpAny_pure (wpAny_pure h)
theorem cr_sortTI (hu : X.A.units + 64 < cLine) : CallR X (.builtin "sorted") (rSortTI X.K) := by
  intro pins s σ H vs us Q I r h
  obtain ⟨a, ps, rfl, hs, hx, ⟨v0, rest, hps⟩, q⟩ := h
  obtain ⟨its, rv, hl, hz⟩ := I.list hs
  rw [Vals.ref1 r]
  have hzl : ps.length = its.length := by rw [← rv.length, List.length_map]
  have hrel : ∀ z ∈ ps.zip its, RelV z.1.1 z.2 ∧ TS.TupInts s.heap z.2 z.1.2 := fun z hz => by
    have h1 : (z.1.1, z.2) ∈ (ps.map (·.1)).zip its := by
      rw [List.zip_map_left]
      exact List.mem_map.mpr ⟨z, hz, rfl⟩
    have h2 := vals_zip rv _ h1
    refine ⟨h2, ?_⟩
    obtain ⟨t, e, ht⟩ := hx z.1 (List.of_mem_zip hz).1
    rw [e] at h2
    rw [show z.2 = Value.ref t from h2]
    obtain ⟨its', rv', hT', _⟩ := I.tuple ht
    exact ⟨t, its'.toArray, rfl, hT', by simpa using rv'.ints⟩
  have e1 : (ps.zip its).map (·.1) = ps := List.map_fst_zip (by omega)
  have e2 : (ps.zip its).map (·.2) = its := List.map_snd_zip (by omega)
  have hT : ∀ u ∈ its, TS.TupInts s.heap u (TS.intsOf s.heap u) := fun u hu => by
    rw [← e2] at hu
    obtain ⟨z, hz, rfl⟩ := List.mem_map.mp hu
    have := (hrel z hz).2
    rw [this.ints]
    exact this
  have O := NtL.swo_lexL fun u => TS.intsOf s.heap u
  refine SrtO.sorted_ord O hl.isList (by rw [← hzl, ← List.length_map (f := (·.1))]; exact hz) (fun h2 h₁ a' ha' kk => ?_) fun out h1 h2 => ?_
  · intro h' keep
    have hT' : ∀ u ∈ its, TS.TupInts h' u (TS.intsOf s.heap u) := fun u hu => by
      refine (hT u hu).keeps fun b o e c => ?_
      obtain ⟨n1, n2⟩ := kk b o e
      exact keep b o n1 n2
    refine ⟨oneType', fun Q' E' hq => ?_, fun p q' hp hq => lt_tup (Q := fun r s' => s' = _ ∧ r = HT.lexLt (TS.intsOf s.heap p.1) (TS.intsOf s.heap q'.1)) (by show X.A.units + 1 + 1 < cLine; omega) (hT' p.1 hp) (hT' q'.1 hq) ⟨rfl, rfl⟩⟩
    match its, hzl, hT', hps, hrel with
    | u :: us', hzl, hT', hps, hrel =>
      have : TS.intsOf s.heap u = [] := by
        have := (hrel ((v0, []), u) (by rw [hps, List.zip_cons_cons]; exact List.mem_cons_self)).2
        exact this.ints
      have t0 := hT' u List.mem_cons_self
      rw [this] at t0
      exact kind_tup0 t0 (fun w hw => ⟨_, hT' w (List.mem_cons_of_mem _ hw)⟩) hq
    | [], hzl, _, hps, _ => rw [hps] at hzl; simp at hzl
  · have u := isort_uniq O h1 h2
    have ev : isort (fun v u => HT.lexLt (TS.intsOf s.heap v) (TS.intsOf s.heap u)) its = (isort (fun z z' : (V × List Int) × Value => lexP z.1 z'.1) (ps.zip its)).map (·.2) := by
      conv => lhs; rw [← e2]
      rw [← isort_map]
      congr 1
      refine isort_congr _ fun z hz z' hz' => ?_
      show HT.lexLt (TS.intsOf s.heap z.2) (TS.intsOf s.heap z'.2) = HT.lexLt z.1.2 z'.1.2
      rw [(hrel z hz).2.ints, (hrel z' hz').2.ints]
    have ex : isort lexP ps = (isort (fun z z' : (V × List Int) × Value => lexP z.1 z'.1) (ps.zip its)).map (·.1) := by
      conv => lhs; rw [← e1]
      rw [← isort_map]
    have vo : Vals ((isort lexP ps).map (·.1)) out := by
      rw [u, ev, ex, List.map_map]
      exact vals_pairs fun z hz => (hrel z ((isort_perm _).mem_iff.mp hz)).1
    obtain ⟨ep, he'⟩ := PyProof.Rows.sortedAll_at s.heap its out.toArray
    have hlen : ((isort lexP ps).map (·.1)).length ≤ sizeLine := by
      rw [List.length_map, (isort_perm _).length_eq]
      rw [List.length_map] at hz
      exact hz
    exact ⟨.ref _, upd H (s.heap.objs.size + 1) (.lst ((isort lexP ps).map (·.1))), I.laid (t' := s.toks) (fun _ _ => PyProof.Rows.sortedAll_old) (Nat.le_succ _) ⟨hlen, out, ep, vo, he'⟩, rfl, q _ (I.hok.fresh (Nat.le_succ _))⟩
theorem pe_sortLen {p p2 kp pos : Pos} {a : Expr} {ta : TE} (hg : Gl X "sorted") (hm : X.mg "sorted" = none) (hg2 : Gl X "len") (hm2 : X.mg "len" = none) (ha : PE X a ta)
    (he : backTo pos (starEach [a] X.env) = (false, eval a X.env) :: backTo pos (starEach [] X.env)) (hpl : (backTo pos (starEach [a] X.env)).any (·.1) = false) (hpa : PA X [a] (tCons ta tNil)) :
    PE X (.Call (.Name "sorted" p) [a] [⟨some "key", .Name "len" p2, kp⟩] pos) (tCB (rSortLen X.K) (tCons ta tNil)) := by
  refine ⟨fun pins s σ H Q I h => ?_⟩
  refine wpAny_Call_Name_kw (ld_blt I hg hm (u := .builtin "sorted") (by decide +kernel) ?_)
  refine PyProof.Rows.callWith_kw (thn (hpa.run pos pins s σ H _ I h) fun us s1 ⟨vs, H1, I1, r1, q1⟩ => ?_) he hpl
  show wpAny _ _ (evalAll [(do let v ← eval (.Name "len" p2) X.env; standAt pos; pure v)]) _ _ _
  refine wpAny_evalAll_cons (wpAny_bind (ld_blt I1 hg2 hm2 (u := .builtin "len") (by decide +kernel) (wpAny_bind (wpAny_standAt (wpAny_pure (wpAny_evalAll_nil ?_))))))
  show wpAny (model X.prog X.w) X.A (call (.builtin "sorted") us [(Str.ofString "key", .builtin "len")]) _ _ _
  obtain ⟨l, ps, rfl, hs, hx, q⟩ := q1
  obtain ⟨its, rv, hl, hz⟩ := I1.list hs
  rw [Vals.ref1 r1]
  have hzl : ps.length = its.length := by rw [← rv.length, List.length_map]
  have hzi : its.length ≤ sizeLine := by rw [← hzl, ← List.length_map (f := (·.1))]; exact hz
  have hrel : ∀ z ∈ ps.zip its, RelV z.1.1 z.2 := fun z hz => by
    have h1 : (z.1.1, z.2) ∈ (ps.map (·.1)).zip its := by
      rw [List.zip_map_left]
      exact List.mem_map.mpr ⟨z, hz, rfl⟩
    exact vals_zip rv _ h1
  have e1 : (ps.zip its).map (·.1) = ps := List.map_fst_zip (by omega)
  have e2 : (ps.zip its).map (·.2) = its := List.map_snd_zip (by omega)
  refine call_function_entry_kw kind_sorted plain_sorted entry_sorted (ksk_s1 _ _) ?_
  unfold Builtin.«sorted»
  refine wpAny_bind (m := checkCount "sorted" 1 1 _) (wpAny_pure ?_)
  refine wpAny_bind (collect_list hl.isList ?_ hzi)
  refine wpAny_bind (wpAny_newList ?_ hzi)
  have hsz : ((s1.heap.push (seqObj "list" #[] 0)).update s1.heap.objs.size (Obj.mapSeq (· ++ its.toArray))).objs.size = s1.heap.objs.size + 1 := by
    rw [Heap.size_update, size_push']
  have hoL : (((s1.heap.push (seqObj "list" #[] 0)).update s1.heap.objs.size (Obj.mapSeq (· ++ its.toArray))).push (seqObj "list" its.toArray 0)).get? (s1.heap.objs.size + 1) = some (seqObj "list" its.toArray 0) := by
    rw [← hsz]; exact Heap.get?_push_size _ rfl
  have keep : ∀ b o, s1.heap.get? b = some o → b ≠ s1.heap.objs.size + 1 ∧ (((s1.heap.push (seqObj "list" #[] 0)).update s1.heap.objs.size (Obj.mapSeq (· ++ its.toArray))).push (seqObj "list" its.toArray 0)).get? b = some o := fun b o q => by
    have hlt : b < s1.heap.objs.size := Heap.lt_size q
    refine ⟨Nat.ne_of_lt (Nat.lt_succ_of_lt hlt), Heap.get?_push_of_some _ ?_⟩
    rw [Heap.get?_update_ne _ _ _ _ (Nat.ne_of_lt hlt)]
    exact Heap.get?_push_of_some _ q
  show wpAny _ _ _ _ _ { s1 with heap := ((s1.heap.push (seqObj "list" #[] 0)).update s1.heap.objs.size (Obj.mapSeq (· ++ its.toArray))).push (seqObj "list" its.toArray 0) }
  rw [hsz]
  refine wpAny_bind (wpAny_holding (wpAny_call_entry_kw slot_list_sort ⟨_, hoL, rfl⟩ entry_list_sort ?body (ksk_l1 _ _)))
  case body =>
    rw [ksk_t4]
    refine list_sort_key (ks := ps.map (·.2)) hoL hzi (by rw [List.length_map]; exact hzl) (fun i v k hv hk h tk kp => ?_) fun h' tk out c kp ho eo => ⟨_, rfl, ?_⟩
    · obtain ⟨p, hp, rfl⟩ : ∃ p, ps[i]? = some p ∧ p.2 = k := by
        rw [List.getElem?_map] at hk
        obtain ⟨p, h1, h2⟩ := Option.map_eq_some_iff.mp hk
        exact ⟨p, h1, h2⟩
      have hz' : (p, v) ∈ ps.zip its := by
        rw [List.mem_iff_getElem?]
        exact ⟨i, by rw [List.getElem?_zip_eq_some]; exact ⟨hp, hv⟩⟩
      obtain ⟨t, xs, e, ht, hn⟩ := hx p (List.mem_of_getElem? hp)
      have hr := hrel _ hz'
      rw [e] at hr
      cases hr
      obtain ⟨its2, r', ⟨o, ho2, hc2, hd2⟩, hz2⟩ := I1.tuple ht
      have big := line63
      have hlen2 := r'.length
      obtain ⟨n1, n2⟩ := keep t o ho2
      have pl : PyProof.Rows.IsTup h t its2.toArray := ⟨o, kp t o n1 n2, hc2, hd2⟩
      refine len_tuple (s := { s1 with heap := h, toks := tk }) pl (by simp only [List.size_toArray] <;> omega) ⟨tk + 1, tk + 1 + 1, ?_, rfl⟩
      rw [List.size_toArray, ← hlen2, hn]
    · have vo : Vals ((isort lenP ps).map (·.1)) out := by
        have ex : isort lenP ps = (isort (fun z z' : (V × Int) × Value => lenP z.1 z'.1) (ps.zip its)).map (·.1) := by
          conv => lhs; rw [← e1]
          rw [← isort_map]
        have ey : its.zip (ps.map (·.2)) = (ps.zip its).map fun z => (z.2, z.1.2) := by
          apply List.ext_getElem
          · simp [Nat.min_comm]
          · intro i h1 h2
            simp
        rw [eo, ex, ey, ← isort_map, List.map_map, List.map_map]
        exact vals_pairs fun z hz => hrel z ((isort_perm _).mem_iff.mp hz)
      have hlen : ((isort lenP ps).map (·.1)).length ≤ sizeLine := by
        rw [List.length_map, (isort_perm _).length_eq]
        rw [List.length_map] at hz
        exact hz
      refine wpAny_pure ⟨_, rfl, .ref _, upd H1 (s1.heap.objs.size + 1) (.lst ((isort lenP ps).map (·.1))), I1.laid (t' := tk) (fun b u e => ?_) (Nat.le_succ _) ⟨hlen, out, c, vo, ho⟩, rfl, q _ (I1.hok.fresh (Nat.le_succ _))⟩
      obtain ⟨n1, n2⟩ := keep b u e
      exact kp b u n1 n2
end
end Tg
/-! Sorting and turning round, on data. -/
namespace Tg
open PySem PySem.Spec PyProof.Rows L2

def tupsOf : List D → Option (List (List Int))
  | [] => some []
  | .tup xs :: ds => (intsOf xs).bind fun ns => (tupsOf ds).map fun r => ns :: r
  | _ => none
def lensOf : List D → Option (List Int)
  | [] => some []
  | .tup xs :: ds => (lensOf ds).map fun r => (xs.length : Int) :: r
  | _ => none
def ltI (a b : Int) : Bool := decide (a < b)
def gtI (a b : Int) : Bool := decide (b < a)
def sortT (xs : List D) : Option D := (tupsOf xs).bind fun ks => match ks with
  | [] :: _ => some (.lst ((isort lexP (xs.zip ks)).map (·.1)))
  | _ => none
def sortX (xs : List D) : Option D := match intsOf xs with
  | some ns => some (.lst ((isort ltI ns).map D.int))
  | none => sortT xs
def gSorted (st : Sto) : List D → Option D
  | [d] => (lsqOf st d).bind sortX
  | _ => none
def gSortRev (st : Sto) : List D → Option D
  | [d] => (lsqOf st d).bind fun xs => (intsOf xs).map fun ns => .lst ((isort gtI ns).map D.int)
  | _ => none
def gSortLen (st : Sto) : List D → Option D
  | [d] => (lsqOf st d).bind fun xs => (lensOf xs).map fun ks => .lst ((isort lenP (xs.zip ks)).map (·.1))
  | _ => none
theorem swo_ltI : SrtO.Swo ltI := by
  refine ⟨fun x y h => ?_, fun x y z h1 h2 => ?_⟩
  · have a := of_decide_eq_true (p := x < y) h
    exact decide_eq_false (p := y < x) (by omega)
  · have a := of_decide_eq_false (p := y < x) h1
    have b := of_decide_eq_false (p := z < y) h2
    exact decide_eq_false (p := z < x) (by omega)
theorem swo_gtI : SrtO.Swo gtI := by
  refine ⟨fun x y h => ?_, fun x y z h1 h2 => ?_⟩
  · have a := of_decide_eq_true (p := y < x) h
    exact decide_eq_false (p := x < y) (by omega)
  · have a := of_decide_eq_false (p := x < y) h1
    have b := of_decide_eq_false (p := y < z) h2
    exact decide_eq_false (p := x < z) (by omega)
theorem isort_le (ns : List Int) : (isort ltI ns).Pairwise (· ≤ ·) := (isort_srtd swo_ltI ns).imp fun {x y} h => by
  have := of_decide_eq_false (p := y < x) h
  omega
theorem isort_ge (ns : List Int) : (isort gtI ns).Pairwise (· ≥ ·) := (isort_srtd swo_gtI ns).imp fun {x y} h => by
  have := of_decide_eq_false (p := x < y) h
  show y ≤ x
  omega
theorem sorted_ints {ns ms : List Int} (h : ms.Perm ns) (p : ms.Pairwise (· ≤ ·)) : ms = isort ltI ns :=
  List.Perm.eq_of_pairwise (fun a b _ _ h1 h2 => Int.le_antisymm h1 h2) p (isort_le ns) (h.trans (isort_perm ns).symm)
theorem sorted_down {ns ms : List Int} (h : ms.Perm ns) (p : ms.Pairwise (· ≥ ·)) : ms = isort gtI ns :=
  List.Perm.eq_of_pairwise (le := fun a b : Int => a ≥ b) (fun a b _ _ h1 h2 => Int.le_antisymm h2 h1) p (isort_ge ns) (h.trans (isort_perm ns).symm)
section
variable {K : Fg} {r m : List Addr} {H : Hp} {st : Sto}
theorem dens_pairs {γ : Type} {f : γ → D} {g : γ → V} : ∀ {l : List γ}, (∀ x ∈ l, Den K r m H (f x) (g x)) → Dens K r m H (l.map f) (l.map g)
  | [], _ => rfl
  | x :: l, h => ⟨_, _, rfl, h x List.mem_cons_self, dens_pairs fun y hy => h y (List.mem_cons_of_mem _ hy)⟩
theorem dens_zip : ∀ {ds : List D} {vs : List V}, Dens K r m H ds vs → ∀ p ∈ ds.zip vs, Den K r m H p.1 p.2
  | [], _, h, p, hp => by simp at hp
  | d :: ds, _, h, p, hp => by
    obtain ⟨x, q, rfl, a, b⟩ := h
    rw [List.zip_cons_cons] at hp
    rcases List.mem_cons.mp hp with rfl | hp
    · exact a
    · exact dens_zip b p hp
theorem tups_len : ∀ {ds : List D} {ks : List (List Int)}, tupsOf ds = some ks → ks.length = ds.length ∧ ∀ p ∈ ds.zip ks, p.1 = .tup (p.2.map D.int)
  | [], _, h => by
    cases h
    exact ⟨rfl, fun p hp => by simp at hp⟩
  | d :: ds, ks, h => by
    unfold tupsOf at h
    split at h
    · next e => cases e
    · next xs ds' e =>
      cases e
      obtain ⟨ns, h1, h⟩ := Option.bind_eq_some_iff.mp h
      obtain ⟨rr, h2, h3⟩ := Option.map_eq_some_iff.mp h
      subst h3
      obtain ⟨a, b⟩ := tups_len h2
      refine ⟨by rw [List.length_cons, List.length_cons, a], fun p hp => ?_⟩
      rw [List.zip_cons_cons] at hp
      rcases List.mem_cons.mp hp with rfl | hp
      · show D.tup xs = _
        rw [intsOf_eq h1]
      · exact b p hp
    · cases h
theorem lens_len : ∀ {ds : List D} {ks : List Int}, lensOf ds = some ks → ks.length = ds.length ∧ ∀ p ∈ ds.zip ks, ∃ xs, p.1 = .tup xs ∧ (xs.length : Int) = p.2
  | [], _, h => by
    cases h
    exact ⟨rfl, fun p hp => by simp at hp⟩
  | d :: ds, ks, h => by
    unfold lensOf at h
    split at h
    · next e => cases e
    · next xs ds' e =>
      cases e
      obtain ⟨rr, h2, h3⟩ := Option.map_eq_some_iff.mp h
      subst h3
      obtain ⟨a, b⟩ := lens_len h2
      refine ⟨by rw [List.length_cons, List.length_cons, a], fun p hp => ?_⟩
      rw [List.zip_cons_cons] at hp
      rcases List.mem_cons.mp hp with rfl | hp
      · exact ⟨xs, rfl, rfl⟩
      · exact b p hp
    · cases h
/-- keys sort data and values alike -/
theorem sort_both {κ : Type} {lt : κ → κ → Bool} {ds : List D} {vs : List V} {ks : List κ} (h : Dens K r m H ds vs) (hk : ks.length = ds.length) :
    Dens K r m H ((isort (fun p q : D × κ => lt p.2 q.2) (ds.zip ks)).map (·.1)) ((isort (fun p q : V × κ => lt p.2 q.2) (vs.zip ks)).map (·.1)) := by
  have hl := h.len
  have e1 : ds.zip ks = ((ds.zip vs).zip ks).map fun z => (z.1.1, z.2) := by
    apply List.ext_getElem
    · simp; omega
    · intro i h1 h2
      simp
  have e2 : vs.zip ks = ((ds.zip vs).zip ks).map fun z => (z.1.2, z.2) := by
    apply List.ext_getElem
    · simp; omega
    · intro i h1 h2
      simp
  rw [e1, e2, ← isort_map (lt := fun p q : D × κ => lt p.2 q.2), ← isort_map (lt := fun p q : V × κ => lt p.2 q.2), List.map_map, List.map_map]
  refine dens_pairs fun z hz => ?_
  have hz := (isort_perm _).mem_iff.mp hz
  exact dens_zip h z.1 (List.of_mem_zip hz).1
theorem cd_sorted : CallD K gSorted (fun vs H Q => rSortedI K vs H Q ∨ rSortTI K vs H Q) := by
  intro r m st H ds d vs Q g h e q
  unfold gSorted at e
  split at e
  · obtain ⟨xs, e1, e⟩ := Option.bind_eq_some_iff.mp e
    obtain ⟨x, tl, rfl, a, b⟩ := h
    cases b
    obtain ⟨p, ws, rfl, s, dd, z⟩ := lsq_list g a e1
    unfold sortX at e
    split at e
    · next ns e2 =>
      cases e
      rw [intsOf_eq e2] at dd
      have hw := dd.ints
      subst hw
      refine .inl ⟨p, ns, rfl, s, fun ns' l pm pw nl => ?_⟩
      rw [sorted_ints pm pw]
      have l2 : Le m H m (upd H l (.lst ((isort ltI ns).map V.int))) := le_upd nl
      refine q m _ _ l2 (g.upd nl) ⟨l, _, rfl, upd_same, g.fresh nl, ?_, Dens.of_ints _⟩
      rw [List.length_map, (isort_perm ns).length_eq]
      rw [List.length_map] at z
      exact z
    · unfold sortT at e
      obtain ⟨ks, e2, e⟩ := Option.bind_eq_some_iff.mp e
      obtain ⟨t1, t2⟩ := tups_len e2
      split at e
      · next ks' =>
        cases e
        have hl := dd.len
        generalize hks : ([] : List Int) :: ks' = ks at *
        refine .inr ⟨p, ws.zip ks, rfl, ?_, fun y hy => ?_, ?_, fun l nl => ?_⟩
        · rw [List.map_fst_zip (by omega)]
          exact s
        · obtain ⟨i, hi⟩ := List.mem_iff_getElem?.mp hy
          rw [List.getElem?_zip_eq_some] at hi
          obtain ⟨dv, h1, h2⟩ := dd.getV hi.1
          have h3 := t2 (dv, y.2) (List.mem_iff_getElem?.mpr ⟨i, by rw [List.getElem?_zip_eq_some]; exact ⟨h1, hi.2⟩⟩)
          have h3 : dv = .tup (y.2.map D.int) := h3
          rw [h3] at h2
          obtain ⟨t, us, e, it, du⟩ := h2
          rw [du.ints] at it
          exact ⟨t, e, it.sq⟩
        · cases ws with
          | nil =>
            rw [← hks, List.length_cons] at t1
            rw [List.length_nil] at hl
            omega
          | cons w ws' => exact ⟨w, ws'.zip ks', by rw [← hks, List.zip_cons_cons]⟩
        · have l2 : Le m H m (upd H l (.lst ((isort lexP (ws.zip ks)).map (·.1)))) := le_upd nl
          refine q m _ _ l2 (g.upd nl) ⟨l, _, rfl, upd_same, g.fresh nl, ?_, (sort_both (lt := HT.lexLt) dd t1).mono l2⟩
          rw [List.length_map, (isort_perm _).length_eq, List.length_zip]
          omega
      · cases e
  · cases e
theorem cd_sortLen : CallD K gSortLen (rSortLen K) := by
  intro r m st H ds d vs Q g h e q
  unfold gSortLen at e
  split at e
  · obtain ⟨xs, e1, e⟩ := Option.bind_eq_some_iff.mp e
    obtain ⟨ks, e2, e3⟩ := Option.map_eq_some_iff.mp e
    subst e3
    obtain ⟨x, tl, rfl, a, b⟩ := h
    cases b
    obtain ⟨p, ws, rfl, s, dd, z⟩ := lsq_list g a e1
    obtain ⟨t1, t2⟩ := lens_len e2
    have hl := dd.len
    refine ⟨p, ws.zip ks, rfl, ?_, fun y hy => ?_, fun l nl => ?_⟩
    · rw [List.map_fst_zip (by omega)]
      exact s
    · obtain ⟨i, hi⟩ := List.mem_iff_getElem?.mp hy
      rw [List.getElem?_zip_eq_some] at hi
      obtain ⟨dv, h1, h2⟩ := dd.getV hi.1
      obtain ⟨ys, h3, h4⟩ := t2 (dv, y.2) (List.mem_iff_getElem?.mpr ⟨i, by rw [List.getElem?_zip_eq_some]; exact ⟨h1, hi.2⟩⟩)
      have h3 : dv = .tup ys := h3
      rw [h3] at h2
      obtain ⟨t, us, e, it, du⟩ := h2
      exact ⟨t, us, e, it.sq, by rw [← du.len]; exact h4⟩
    · have l2 : Le m H m (upd H l (.lst ((isort lenP (ws.zip ks)).map (·.1)))) := le_upd nl
      refine q m _ _ l2 (g.upd nl) ⟨l, _, rfl, upd_same, g.fresh nl, ?_, (sort_both (lt := fun a b : Int => decide (a < b)) dd t1).mono l2⟩
      rw [List.length_map, (isort_perm _).length_eq, List.length_zip]
      omega
  · cases e
/-- sorted(xs, reverse=True) -/
theorem t_sortRev {σ : L2.St} {H : Hp} {Q : VK} {fa : DA} (h : tE K (eBlt gSortRev fa) σ H Q) : tCKw (rSortedKw K true [.bl true]) (tAr K fa) (tCons (tC (.bl true)) tNil) σ H Q := by
  obtain ⟨r, m, st, env, d, st', g, e, f, q⟩ := h
  unfold eBlt at f
  obtain ⟨⟨x, s1⟩, f1, f⟩ := Option.bind_eq_some_iff.mp f
  obtain ⟨d', f3, f⟩ := Option.map_eq_some_iff.mp f
  cases f
  refine ⟨r, m, st, env, x, s1, g, e, f1, fun m1 H1 v1 l1 g1 d1 => ?_⟩
  have f3 : gSortRev s1 x = some d := f3
  unfold gSortRev at f3
  split at f3
  · obtain ⟨xs, e1, f3⟩ := Option.bind_eq_some_iff.mp f3
    obtain ⟨ns, e2, e3⟩ := Option.map_eq_some_iff.mp f3
    subst e3
    obtain ⟨y, tl, rfl, a, b⟩ := d1
    cases b
    obtain ⟨p, ws, rfl, s, dd, z⟩ := lsq_list g1 a e1
    rw [intsOf_eq e2] at dd
    have hw := dd.ints
    subst hw
    refine ⟨p, ns, rfl, rfl, s, fun ns' l pm pw nl => ?_⟩
    have pw : ns'.Pairwise (· ≥ ·) := pw
    rw [sorted_down pm pw]
    have l2 : Le m1 H1 m1 (upd H1 l (.lst ((isort gtI ns).map V.int))) := le_upd nl
    refine q m1 _ _ (l1.trans l2) (g1.upd nl) ⟨l, _, rfl, upd_same, g1.fresh nl, ?_, Dens.of_ints _⟩
    rw [List.length_map, (isort_perm ns).length_eq]
    rw [List.length_map] at z
    exact z
  · cases f3
/-- xs[::-1] -/
def eRev (fa : DE) : DE := fun env st => (fa env st).bind fun p => (lsqOf p.2 p.1).map fun xs => (.lst xs.reverse, p.2)
theorem Dens.rev : ∀ {ds : List D} {vs : List V}, Dens K r m H ds vs → Dens K r m H ds.reverse vs.reverse
  | [], _, h => by
    cases h
    rfl
  | d :: ds, _, h => by
    obtain ⟨x, q, rfl, a, b⟩ := h
    rw [List.reverse_cons, List.reverse_cons]
    exact b.rev.append (Dens.one a)
theorem t_rev {σ : L2.St} {H : Hp} {Q : VK} {fa : DE} (h : tE K (eRev fa) σ H Q) : tRevL K (tE K fa) σ H Q := by
  obtain ⟨r, m, st, env, d, st', g, e, f, q⟩ := h
  unfold eRev at f
  obtain ⟨⟨x, s1⟩, f1, f⟩ := Option.bind_eq_some_iff.mp f
  obtain ⟨xs, f3, f⟩ := Option.map_eq_some_iff.mp f
  cases f
  refine ⟨r, m, st, env, x, s1, g, e, f1, fun m1 H1 v1 l1 g1 d1 => ?_⟩
  obtain ⟨p, ws, rfl, s, dd, z⟩ := lsq_list g1 d1 f3
  refine ⟨p, ws, rfl, s, fun l nl => ?_⟩
  have l2 : Le m1 H1 m1 (upd H1 l (.lst ws.reverse)) := le_upd nl
  exact q m1 _ _ (l1.trans l2) (g1.upd nl) ⟨l, _, rfl, upd_same, g1.fresh nl, by rw [List.length_reverse]; exact z, dd.rev.mono l2⟩
end
end Tg
/-! From the text's own syntax to functions on data. -/
namespace Tg
open PySem PySem.Spec PyProof.Rows L2

inductive Gv where
  | fn (id : String) (n : Nat)
  | cst (d : D)
structure Ct where
  N : List Str
  sc : Scope
  fn : Str → Bool
  mu : List (Nat × Nat)
  glb : List (Str × Gv)
  blt : List Str

/-- built-ins that only compute -/
inductive Bt where
  | len | min2 | max2 | sum | all | any | maxL | minL | tuple | list | int | abs | repr | sorted
def Bt.nm : Bt → Str
  | .len => "len" | .min2 => "min" | .max2 => "max" | .sum => "sum" | .all => "all" | .any => "any" | .maxL => "max" | .minL => "min" | .tuple => "tuple" | .list => "list" | .int => "int" | .abs => "abs" | .repr => "repr" | .sorted => "sorted"
def Bt.ar : Bt → Nat
  | .min2 => 2 | .max2 => 2 | _ => 1
def Bt.g : Bt → Sto → List D → Option D
  | .len => gLen | .min2 => gMin2 | .max2 => gMax2 | .sum => gSum | .all => gAll | .any => gAny | .maxL => gMaxL | .minL => gMinL | .tuple => gTuple | .list => gList | .int => gInt | .abs => gAbs | .repr => gRepr | .sorted => gSorted
def Bt.every : List Bt := [.len, .min2, .max2, .sum, .all, .any, .maxL, .minL, .tuple, .list, .int, .abs, .repr, .sorted]
def btOf (x : Str) (n : Nat) : Option Bt := Bt.every.find? fun b => decide (b.nm = x) && decide (b.ar = n)
def tyOf (x : Str) : Option Ty := [Ty.int, .bool, .str, .tuple, .list].find? fun t => decide (Str.ofString t.name = x)

def plainE : Expr → Bool
  | .Starred .. => false
  | .Set .. => false
  | .Slice .. => false
  | _ => true
def isComp : Expr → Bool
  | .ListComp .. => true
  | .SetComp .. => true
  | .DictComp .. => true
  | _ => false
def isTupE : Expr → Bool
  | .Tuple .. => true
  | _ => false
def isNmE : Expr → Bool
  | .Name .. => true
  | _ => false
/-- a test that is the value's own truth -/
def ownTest : Expr → Bool
  | .UnaryOp .Not _ _ => false
  | .BoolOp .. => false
  | .IfExp .. => false
  | .Compare .. => false
  | _ => true
def ixS (N : List Str) (x : Str) : Option Nat := N.findIdx? fun y => decide (y = x)
def visB (sc : Scope) (x : Str) : Bool := match sc.names.lookup x with
  | some .local => true
  | some .cell => true
  | some .free => true
  | _ => false
def locB (c : Ct) (x : Str) : Bool := match c.sc.names.lookup x with
  | some .local => true
  | some .cell => c.fn x
  | _ => false
def glB (sc : Scope) (x : Str) : Bool := decide (sc.names.lookup x = some .globalImplicit)
def okNm (x : Str) : Bool := !(x == ("__debug__" : Str)) && !(x == ("__classdict__" : Str)) && decide (x ≠ "__name__")
def binD : Operator → Option (Sto → D → D → Option D)
  | .Add => some oAdd
  | .Sub => some oSub
  | .Mult => some oMul
  | .FloorDiv => some oDiv
  | .Mod => some oMod
  | .Pow => some oPow
  | _ => none
def cmpD : CmpOp → Option (Sto → D → D → Option D)
  | .Eq => some oEq
  | .NotEq => some oNe
  | .Lt => some oLt
  | .LtE => some oLe
  | .Gt => some oGt
  | .GtE => some oGe
  | .Is => some oIs
  | .IsNot => some oIsNot
  | .In => some (oInS false)
  | .NotIn => some (oInS true)
def addB : Operator → Bool
  | .Add => true
  | _ => false
def mulB : Operator → Bool
  | .Mult => true
  | _ => false
def muB (c : Ct) (pos : Pos) : Bool := c.mu.any fun q => decide (q.1 = pos.line) && decide (q.2 = pos.col)
/-- the block's own names with their slots -/
def ownOf (N : List Str) (scope : Scope) : List (Str × Nat) := scope.names.filterMap fun y => match y.2 with
  | .local => (ixS N y.1).map fun i => (y.1, i)
  | .cell => (ixS N y.1).map fun i => (y.1, i)
  | _ => none
def Ct.blk (c : Ct) (scope : Scope) : Ct := { c with sc := relS scope c.sc, fn := fun x => scope.names.lookup x == some .cell }
/-- how a pair of tuples is stored: none where the model has no answer -/
def swapP (sc : Scope) (ts vs : List Expr) : Option (Option (List Str)) :=
  if !(ts.length == 2 || ts.length == 3) || vs.length != ts.length then some none else
  if vs.any (fun | .Starred .. => true | _ => false) then some none else
  let line := (ts.head?.map (·.pos.line)).getD 0
  let names := ts.filterMap fun
    | .Name id pos => if sc.names.lookup id == some .local && pos.line == line then some id else none
    | _ => none
  if names.length != ts.length || names.eraseDups.length != names.length then some none else
  if vs.all (foldedForSure 8) then some none else
  if vs.all (constantsAlone 8) then none else some (some names)

def sliceP : Expr → Option (Option Expr × Option Expr)
  | .Slice lo hi none _ => some (lo, hi)
  | _ => none
/-- [::-1] -/
def revP : Expr → Bool
  | .Slice none none (some (.UnaryOp .USub (.Constant (.int 1) _ _) _)) _ => true
  | _ => false
/-- sorted(a, key=len): false; sorted(a, reverse=True): true -/
def kwP (x : Str) (es : List Expr) (kws : List Keyword) : Option (Expr × Bool) := if decide (x = "sorted") then (match es, kws with
  | [a], [⟨some k, .Name y _, _⟩] => if decide (k = "key") && decide (y = "len") then some (a, false) else none
  | [a], [⟨some k, .Constant (.bool true) _ _, _⟩] => if decide (k = "reverse") then some (a, true) else none
  | _, _ => none) else none
def isiP (x : Str) (es : List Expr) : Option (Expr × Str) := if decide (x = "isinstance") then (match es with
  | [a, .Name y _] => some (a, y)
  | _ => none) else none
/-- list(range(a)) or tuple(range(a)) -/
def rngP (x : Str) (es : List Expr) : Option (Bool × Expr) := if decide (x = "list") || decide (x = "tuple") then (match es with
  | [.Call (.Name y _) [a] [] _] => if decide (y = "range") then some (decide (x = "list"), a) else none
  | _ => none) else none
inductive Mth | append | extend | pop | index
def mthOf (m : Str) : Option Mth := if decide (m = "append") then some .append else if decide (m = "extend") then some .extend else if decide (m = "pop") then some .pop else if decide (m = "index") then some .index else none
def Mth.e : Mth → DE → DE → DE
  | .append => eAppend
  | .extend => eExtend
  | .pop => ePopAt
  | .index => eIndex
variable (C : Orc)
/-- a call of a built-in or of a def, its arguments compiled -/
def cC (c : Ct) (x : Str) (k : Nat) (pos : Pos) (fa : DA) : Option DE := match c.glb.lookup x with
  | some (.fn id j) => if decide (j = k) then some (eCall C id fa) else none
  | _ => if decide (x ∈ c.blt) then (btOf x k).bind fun b => some (if muB c pos && decide (b.nm = "list") then eNew seq1 fa else eBlt b.g fa) else none
mutual
noncomputable def cE : Nat → Expr → Ct → Option DE
  | 0, _, _ => none
  | n + 1, e, c => if plainE e then (match e with
    | .Name x _ => if okNm x then (match ixS c.N x with
      | some i => if visB c.sc x then some (eVar i) else none
      | none => if glB c.sc x then (match c.glb.lookup x with
        | some (.cst d) => some (eC d)
        | _ => none) else none) else none
    | .Constant (.int i) _ _ => some (eC (.int i))
    | .Constant (.bool b) _ _ => some (eC (.bl b))
    | .Constant .none _ _ => some (eC .non)
    | .Constant (.str x) _ _ => some (eC (.str x))
    | .BinOp a op b pos => (binD op).bind fun o => (cE n a c).bind fun fa => (cE n b c).map fun fb => if muB c pos && addB op then eCat fa fb else if muB c pos && mulB op then eRepM fa fb else eOp o fa fb
    | .UnaryOp .USub a _ => (cE n a c).map fun fa => eUn oNeg fa
    | .UnaryOp .Not a _ => (cE n a c).map fun fa => eNot fa
    | .BoolOp op es _ => cBE n op es c
    | .Compare a [op] [b] _ => (cmpD op).bind fun o => (cE n a c).bind fun fa => (cE n b c).map fun fb => eOp o fa fb
    | .Compare a [op, op'] [b, b'] _ => (cmpD op).bind fun o => (cmpD op').bind fun o' => (cE n a c).bind fun fa => (cE n b c).bind fun fb => (cE n b' c).map fun fc => eChain o o' fa fb fc
    | .IfExp t a b _ => (cT n t c).bind fun ft => (cE n a c).bind fun fa => (cE n b c).map fun fb => eIf ft fa fb
    | .Tuple es _ _ => if decide (es.length ≤ 1000) then (cA n es c).map fun fa => eTup fa else none
    | .List es pos => if decide (es.length ≤ 1000) then (cA n es c).map fun fa => if muB c pos then eMLst fa else eLst fa else none
    | .Subscript a b _ => (match sliceP b with
      | some (lo, hi) => (cE n a c).bind fun fa => (cO n lo c).bind fun fl => (cO n hi c).map fun fh => eSl fa fl fh
      | none => if revP b then (cE n a c).map fun fa => eRev fa else (cE n a c).bind fun fa => (cE n b c).map fun fb => eOp oIx fa fb)
    | .Call (.Name x _) es [] pos => if okNm x && glB c.sc x then (match isiP x es with
      | some (a, y) => if okNm y && glB c.sc y && decide (x ∈ c.blt) && decide (y ∈ c.blt) then (tyOf y).bind fun t => (cE n a c).map fun fa => eIsi t fa else none
      | none => (match rngP x es with
        | some (l, a) => if glB c.sc "range" && decide (x ∈ c.blt) && decide (("range" : Str) ∈ c.blt) then (cE n a c).map fun fa => if l then (if muB c pos then eRgM fa else eRgL fa) else eRgT fa else none
        | none => (cA n es c).bind fun fa => cC C c x es.length pos fa)) else none
    | .Call (.Name x _) es (kw :: kws) _ => if okNm x && glB c.sc x && decide (x ∈ c.blt) then (match kwP x es (kw :: kws) with
      | some (a, false) => if glB c.sc "len" && decide (("len" : Str) ∈ c.blt) then (cE n a c).map fun fa => eBlt gSortLen (aCons fa aNil) else none
      | some (a, true) => (cE n a c).map fun fa => eBlt gSortRev (aCons fa aNil)
      | none => none) else none
    | .Call (.Attribute (.Name o po) m apos) [a] [] cpos => if decide (apos.endLine = cpos.line) then (mthOf m).bind fun mt => (cE n (.Name o po) c).bind fun fo => (cE n a c).map fun fa => mt.e fo fa else none
    | .ListComp elt [⟨tg, iter, ifs, 0⟩] scope pos => (cLc n elt tg iter ifs scope pos c).map fun q => q.2
    | _ => none) else none
noncomputable def cLc : Nat → Expr → Expr → Expr → List Expr → Scope → Pos → Ct → Option (Unit × DE)
  | 0, _, _, _, _, _, _, _ => none
  | n + 1, elt, tg, iter, ifs, scope, pos, c => if blkC c.N c.sc scope (ownOf c.N scope) && plainE iter then
      (cI n tg iter c).bind fun fi => (cG n tg (c.blk scope)).bind fun g => if g.1.all (fun i => decide (i ∈ (ownOf c.N scope).map (·.2))) then
        (cIf n ifs (c.blk scope)).bind fun fb => (cE n elt (c.blk scope)).map fun fe => ((), if muB c pos then eMLc ((ownOf c.N scope).map (·.2)) fi g.2 fb fe else eLc ((ownOf c.N scope).map (·.2)) fi g.2 fb fe) else none else none
noncomputable def cIf : Nat → List Expr → Ct → Option DB
  | 0, _, _ => none
  | n + 1, es, c => match es with
    | [] => some bYes
    | [t] => cT n t c
    | _ => none
noncomputable def cBE : Nat → BoolOp → List Expr → Ct → Option DE
  | 0, _, _, _ => none
  | n + 1, op, es, c => match es with
    | [a] => cE n a c
    | a :: b :: es => (match op with
      | .And => (cE n a c).bind fun fa => (cBE n .And (b :: es) c).map fun fb => eAnd fa fb
      | .Or => (cE n a c).bind fun fa => (cBE n .Or (b :: es) c).map fun fb => eOr fa fb)
    | [] => none
noncomputable def cBT : Nat → BoolOp → List Expr → Ct → Option DB
  | 0, _, _, _ => none
  | n + 1, op, es, c => match es with
    | [a] => cT n a c
    | a :: b :: es => (match op with
      | .And => (cT n a c).bind fun fa => (cBT n .And (b :: es) c).map fun fb => bAnd fa fb
      | .Or => (cT n a c).bind fun fa => (cBT n .Or (b :: es) c).map fun fb => bOr fa fb)
    | [] => none
noncomputable def cT : Nat → Expr → Ct → Option DB
  | 0, _, _ => none
  | n + 1, e, c => match e with
    | .UnaryOp .Not a _ => (cT n a c).map fun fa => bNot fa
    | .BoolOp op es _ => cBT n op es c
    | .Compare a [op] [b] _ => (cmpD op).bind fun o => (cE n a c).bind fun fa => (cE n b c).map fun fb => bVal (eOp o fa fb)
    | .Compare a [op, op'] [b, b'] _ => (cmpD op).bind fun o => (cmpD op').bind fun o' => (cE n a c).bind fun fa => (cE n b c).bind fun fb => (cE n b' c).map fun fc => bVal (eChain o o' fa fb fc)
    | e => if ownTest e then (cE n e c).map fun fa => bVal fa else none
noncomputable def cA : Nat → List Expr → Ct → Option DA
  | 0, _, _ => none
  | n + 1, es, c => match es with
    | [] => some aNil
    | e :: es => (cE n e c).bind fun fa => (cA n es c).map fun fr => aCons fa fr
noncomputable def cO : Nat → Option Expr → Ct → Option DO
  | 0, _, _ => none
  | n + 1, e, c => match e with
    | none => some oNo
    | some e => (cE n e c).map fun f => oSo f
noncomputable def cI : Nat → Expr → Expr → Ct → Option DI
  | 0, _, _, _ => none
  | n + 1, tg, e, c => match e with
    | .Call (.Name x _) es [] _ => if okNm x && glB c.sc x && decide (x ∈ c.blt) && decide (c.glb.lookup x = none) then
        (if decide (x = "range") && (decide (es.length = 1) || decide (es.length = 2)) then (cA n es c).map fun fa => iRng fa
        else if decide (x = "zip") && isTupE tg then (match es with
          | [a, b] => (cE n a c).bind fun fa => (cE n b c).map fun fb => iZip fa fb
          | [a, b, d] => (cE n a c).bind fun fa => (cE n b c).bind fun fb => (cE n d c).map fun fd => iZip3 fa fb fd
          | _ => none)
        else if decide (x = "zip") && isNmE tg then (match es with
          | [a, b] => (cE n a c).bind fun fa => (cE n b c).map fun fb => iZip fa fb
          | _ => none)
        else if decide (x = "enumerate") && isTupE tg then (match es with
          | [a] => (cE n a c).map fun fa => iEn fa
          | _ => none)
        else if decide (x = "range") || decide (x = "zip") || decide (x = "enumerate") || decide (x = "reversed") then none
        else (cE n e c).map fun f => iSeq f) else (cE n e c).map fun f => iSeq f
    | e => (cE n e c).map fun f => iSeq f
noncomputable def cG : Nat → Expr → Ct → Option (List Nat × DG)
  | 0, _, _ => none
  | n + 1, e, c => match e with
    | .Name x _ => if locB c x then (ixS c.N x).map fun i => ([i], gN i) else none
    | .Tuple es _ _ => (cGs n es c).map fun g => (g.1, gT es.length g.2)
    | .Subscript o i _ => if plainE i then (cE n o c).bind fun fo => (cE n i c).map fun fi => ([], gSb fo fi) else none
    | _ => none
noncomputable def cGs : Nat → List Expr → Ct → Option (List Nat × DGs)
  | 0, _, _ => none
  | n + 1, es, c => match es with
    | [] => some ([], gsNil)
    | e :: es => (cG n e c).bind fun g => (cGs n es c).map fun h => (g.1 ++ h.1, gsCons g.2 h.2)
end
end Tg
/-! The functions on data tell what the text does. -/
namespace Tg
open PySem PySem.Spec PyProof.Rows L2

structure Stat (C : Orc) (k : Nat) (c : Ct) (X : Cx) : Prop where
  N : X.N = c.N
  nd : c.N.Nodup
  sc : X.env.scope = c.sc
  fn : X.fn = c.fn
  kind : c.sc.kind = .function
  calm : X.calm = true
  gd : X.A.guards = some []
  rm : Room k X.A
  xe : X.xe = fun _ _ => False
  free : ∀ x ∈ c.blt, X.mg x = none
  funs : ∀ x id n, c.glb.lookup x = some (.fn id n) → ∃ f fd ps, X.mg x = some (.ref f) ∧ PySem.W.keepIn X.K (.ref f) = true ∧ Binds X.K fd ps [] ∧ FnG X.prog X.w X.K X.mg X.base k f fd ps (spC X.K C id n)
  csts : ∀ x d, c.glb.lookup x = some (.cst d) → ∃ u v, X.mg x = some u ∧ RelV v u ∧ ∀ r m H, Den X.K r m H d v

theorem ixS_get {N : List Str} {x : Str} {i : Nat} (h : ixS N x = some i) : N[i]? = some x := by
  unfold ixS at h
  obtain ⟨hi, h1, _⟩ := List.findIdx?_eq_some_iff_getElem.mp h
  rw [List.getElem?_eq_getElem hi, of_decide_eq_true h1]
theorem visB_ok {sc : Scope} {x : Str} (h : visB sc x = true) : Vis sc x := by
  unfold visB at h
  unfold Vis
  split at h
  · next e => exact .inl e
  · next e => exact .inr (.inl e)
  · next e => exact .inr (.inr e)
  · cases h
theorem okNm_ok {x : Str} (h : okNm x = true) : (x == ("__debug__" : Str)) = false ∧ (x == ("__classdict__" : Str)) = false ∧ x ≠ "__name__" := by
  unfold okNm at h
  simp only [Bool.and_eq_true, Bool.not_eq_true', decide_eq_true_eq] at h
  exact ⟨h.1.1, h.1.2, h.2⟩
theorem plain_star {e : Expr} (h : plainE e = true) (es : List Expr) (env : Env) : starEach (e :: es) env = (false, eval e env) :: starEach es env := by
  cases e <;> first | rfl | cases h
theorem plain_ix {e : Expr} (h : plainE e = true) : PlainIx e := by
  intro o i
  cases e <;> first | rfl | cases h
theorem plain_mark {e : Expr} (h : plainE e = true) (op : CmpOp) : behindInMarks op e = false := by
  cases e <;> first | rfl | cases h
theorem plain_set {e : Expr} (h : plainE e = true) (env : Env) (x : Value) : foldedSetIterable e env x = pure x := by
  cases e <;> first | rfl | cases h
theorem plain_each {e : Expr} (h : plainE e = true) (es : List Expr) (env : Env) : assignEach (e :: es) env = (false, assign e env) :: assignEach es env := by
  cases e <;> first | rfl | cases h
theorem stars_none {es : List Expr} (h : es.all plainE = true) (pos : Pos) (env : Env) : (backTo pos (starEach es env)).any (·.1) = false := by
  induction es with
  | nil => rfl
  | cons e es ih =>
    rw [List.all_cons, Bool.and_eq_true] at h
    rw [plain_star h.1]
    have := ih h.2
    unfold backTo at this ⊢
    rw [List.map_cons, List.any_cons, this]
    rfl
theorem comp_noswap {e : Expr} (h : isComp e = false) (t : Option Expr) (l : Nat) (env : Env) : swapsWith e t l env = pure false := by
  cases e <;> first | rfl | cases h
theorem own_test {e : Expr} (h : ownTest e = true) (env : Env) (whole : Sem Value) : isTrue e env whole = (do let v ← whole; standAt e.pos; holding [v] (truthy v)) := by
  cases e with
  | UnaryOp op a p => cases op <;> first | rfl | cases h
  | BoolOp _ _ _ => cases h
  | IfExp _ _ _ _ => cases h
  | Compare _ _ _ _ => cases h
  | _ => rfl

theorem pa_len1' {K : Fg} {σ : L2.St} {H : Hp} {fa : DE} {Q : List V → Hp → Prop} (h : tAr K (aCons fa aNil) σ H Q) : tCons (tE K fa) tNil σ H Q := by
  have := t_cons h
  obtain ⟨r, m, st, env, d, st', g, e, f, q⟩ := this
  exact ⟨r, m, st, env, d, st', g, e, f, fun m1 H1 v l g1 d1 => t_nil (q m1 H1 v l g1 d1)⟩
section
variable {C : Orc} {k : Nat} {c : Ct} {X : Cx}
theorem Stat.blk (S : Stat C k c X) {scope : Scope} (hk : scope.kind = .function) (s : Shared) (H : Hp) (A : Addr) (cl : List (Str × Addr)) (fp : List Addr) :
    Stat C k (c.blk scope) (X.blk s H scope (compEnvC scope cl A X.env) fp) :=
  ⟨S.N, S.nd, by show relS scope X.env.scope = relS scope c.sc; rw [S.sc], rfl, hk, S.calm, S.gd, S.rm, rfl, S.free, S.funs, S.csts⟩
theorem Stat.gl (S : Stat C k c X) {x : Str} (h : glB c.sc x = true) : Gl X x := by
  unfold Gl
  show X.env.scope.names.lookup x = _
  rw [S.sc]
  exact of_decide_eq_true h
theorem Stat.passes (S : Stat C k c X) : PassesOwn (model X.prog X.w) X.A X.env X.xe := by
  rw [S.xe]
  exact PassesOwn.never
theorem Stat.ndX (S : Stat C k c X) : X.N.Nodup := by
  rw [S.N]
  exact S.nd
theorem Stat.at_ (S : Stat C k c X) {x : Str} {i : Nat} (h : ixS c.N x = some i) : X.N[i]? = some x := by
  rw [S.N]
  exact ixS_get h
theorem bin_ok (S : Stat C k c X) {op : Operator} {o : Sto → D → D → Option D} (h : binD op = some o) {a b : Expr} {fa fb : DE} {pos : Pos} (ha : PE X a (tE X.K fa)) (hb : PE X b (tE X.K fb)) :
    PE X (.BinOp a op b pos) (tE X.K (eOp o fa fb)) := by
  cases op with
  | Add => cases h; exact pe_imp (pe_op op_adds ha hb) fun _ _ _ => t_op od_add
  | Sub => cases h; exact pe_imp (pe_op op_sub ha hb) fun _ _ _ => t_op od_sub
  | Mult => cases h; exact pe_imp (pe_op op_muls ha hb) fun _ _ _ => t_op od_mul
  | FloorDiv => cases h; exact pe_imp (pe_op op_fdivW ha hb) fun _ _ _ => t_op od_div
  | Mod => cases h; exact pe_imp (pe_op op_mod ha hb) fun _ _ _ => t_op od_mod
  | Pow => cases h; exact pe_imp (pe_op op_pow ha hb) fun _ _ _ => t_op od_pow
  | _ => cases h
theorem cmp_ok (S : Stat C k c X) {op : CmpOp} {o : Sto → D → D → Option D} (h : cmpD op = some o) : ∃ rr, OpR X (compareOp op) rr ∧ OpD X.K o rr := by
  cases op with
  | Eq => cases h; exact ⟨_, op_eqs S.rm.units, od_eq⟩
  | NotEq => cases h; exact ⟨_, op_nes S.rm.units, od_ne⟩
  | Lt => cases h; exact ⟨_, op_lt, od_lt⟩
  | LtE => cases h; exact ⟨_, op_le, od_le⟩
  | Gt => cases h; exact ⟨_, op_gt, od_gt⟩
  | GtE => cases h; exact ⟨_, op_ge, od_ge⟩
  | Is => cases h; exact ⟨_, op_isN.or op_isBl, od_is⟩
  | IsNot => cases h; exact ⟨_, op_notN.or op_notBl, od_isnot⟩
  | In => cases h; exact ⟨_, op_in_seq, od_in false⟩
  | NotIn => cases h; exact ⟨_, op_notIn_seq, od_in true⟩
theorem bt_ok (S : Stat C k c X) {x : Str} {j : Nat} {b : Bt} (h : btOf x j = some b) {e : Expr} {es : List Expr} {fa : DA} {p pos : Pos} (hg : glB c.sc x = true) (hm : x ∈ c.blt) (ha : PA X (e :: es) (tAr X.K fa)) (hp : (e :: es).all plainE = true) :
    PE X (.Call (.Name x p) (e :: es) [] pos) (tE X.K (eBlt b.g fa)) ∧ (b.nm = "list" → PE X (.Call (.Name x p) (e :: es) [] pos) (tE X.K (eNew seq1 fa))) := by
  have hb := List.find?_some h
  simp only [Bool.and_eq_true, decide_eq_true_eq] at hb
  obtain ⟨hb, _⟩ := hb
  rw [List.all_cons, Bool.and_eq_true] at hp
  have h1 := plain_star hp.1 es X.env
  have h2 := stars_none hp.2 pos X.env
  subst hb
  have hG := S.gl hg
  have hM := S.free _ hm
  cases b with
  | len => exact ⟨pe_imp (pe_callB cr_lens hG hM (by decide +kernel) ha (by decide) (by decide) h1 h2) fun _ _ _ => t_blt cd_len, fun z => absurd z (by decide)⟩
  | min2 => exact ⟨pe_imp (pe_callB (call_min2 S.calm) hG hM (by decide +kernel) ha (by decide) (by decide) h1 h2) fun _ _ _ => t_blt cd_min2, fun z => absurd z (by decide)⟩
  | max2 => exact ⟨pe_imp (pe_callB (call_max2 S.calm) hG hM (by decide +kernel) ha (by decide) (by decide) h1 h2) fun _ _ _ => t_blt cd_max2, fun z => absurd z (by decide)⟩
  | sum => exact ⟨pe_imp (pe_callB (cr_sum S.calm) hG hM (by decide +kernel) ha (by decide) (by decide) h1 h2) fun _ _ _ => t_blt cd_sum, fun z => absurd z (by decide)⟩
  | all => exact ⟨pe_imp (pe_callB (cr_all S.calm) hG hM (by decide +kernel) ha (by decide) (by decide) h1 h2) fun _ _ _ => t_blt cd_all, fun z => absurd z (by decide)⟩
  | any => exact ⟨pe_imp (pe_callB (cr_any S.calm) hG hM (by decide +kernel) ha (by decide) (by decide) h1 h2) fun _ _ _ => t_blt cd_any, fun z => absurd z (by decide)⟩
  | maxL => exact ⟨pe_imp (pe_callB ((cr_max S.calm).or (cr_maxT S.calm S.rm.units)) hG hM (by decide +kernel) ha (by decide) (by decide) h1 h2) fun _ _ _ => t_blt cd_maxL, fun z => absurd z (by decide)⟩
  | minL => exact ⟨pe_imp (pe_callB ((cr_min S.calm).or (cr_minT S.calm S.rm.units)) hG hM (by decide +kernel) ha (by decide) (by decide) h1 h2) fun _ _ _ => t_blt cd_minL, fun z => absurd z (by decide)⟩
  | tuple => exact ⟨pe_imp (pe_callTy call_tuple_of hG hM (by decide +kernel) ha (by decide) (by decide) h1 h2) fun _ _ _ => t_blt cd_tuple, fun z => absurd z (by decide)⟩
  | int => exact ⟨pe_imp (pe_callTy call_int1 hG hM (by decide +kernel) ha (by decide) (by decide) h1 h2) fun _ _ _ => t_blt cd_int, fun z => absurd z (by decide)⟩
  | abs => exact ⟨pe_imp (pe_callB call_abs hG hM (by decide +kernel) ha (by decide) (by decide) h1 h2) fun _ _ _ => t_blt cd_abs, fun z => absurd z (by decide)⟩
  | sorted => exact ⟨pe_imp (pe_callB (cr_sortedI.or (cr_sortTI S.rm.units)) hG hM (by decide +kernel) ha (by decide) (by decide) h1 h2) fun _ _ _ => t_blt cd_sorted, fun z => absurd z (by decide)⟩
  | repr => exact ⟨pe_imp (pe_callB (cr_repr S.gd (by have := S.rm.un; omega)) hG hM (by decide +kernel) ha (by decide) (by decide) h1 h2) fun _ _ _ => t_blt cd_repr, fun z => absurd z (by decide)⟩
  | list =>
    exact ⟨pe_imp (pe_callTy call_list_of hG hM (by decide +kernel) ha (by decide) (by decide) h1 h2) fun _ _ _ => t_blt cd_list,
      fun _ => pe_imp (pe_callTy call_list_of hG hM (by decide +kernel) ha (by decide) (by decide) h1 h2) fun _ _ _ => t_mlist⟩
theorem kw_ok (S : Stat C k c X) {x : Str} {es : List Expr} {kws : List Keyword} {a : Expr} {b : Bool} {fa : DE} {p pos : Pos} (hk : kwP x es kws = some (a, b)) (hg : glB c.sc x = true) (hm : x ∈ c.blt) (hl : b = false → glB c.sc "len" = true ∧ ("len" : Str) ∈ c.blt) (ha : PE X a (tE X.K fa)) (hp : plainE a = true) :
    PE X (.Call (.Name x p) es kws pos) (tE X.K (if b then eBlt gSortRev (aCons fa aNil) else eBlt gSortLen (aCons fa aNil))) := by
  unfold kwP at hk
  split at hk
  · next hx =>
    have hx := of_decide_eq_true hx
    subst hx
    have hs := plain_star hp [] X.env
    have hn : (backTo pos (starEach [a] X.env)).any (·.1) = false := stars_none (by simp [hp]) pos X.env
    have he : backTo pos (starEach [a] X.env) = (false, eval a X.env) :: backTo pos (starEach [] X.env) := by rw [hs]; rfl
    split at hk
    · split at hk
      · next hc =>
        simp only [Bool.and_eq_true, decide_eq_true_eq] at hc
        obtain ⟨rfl, rfl⟩ := hc
        cases hk
        obtain ⟨l1, l2⟩ := hl rfl
        refine pe_imp (pe_sortLen (S.gl hg) (S.free _ hm) (S.gl l1) (S.free _ l2) ha he hn (pa_cons ha pa_nil hs)) fun σ H Q hh => ?_
        obtain ⟨r, m, st, env, d, st', g, e, f, q⟩ := t_blt cd_sortLen hh
        exact pa_len1' ⟨r, m, st, env, d, st', g, e, f, q⟩
      · cases hk
    · split at hk
      · next hc =>
        have hc := of_decide_eq_true hc
        subst hc
        cases hk
        refine pe_imp (pe_callBK (cr_sortedRev (b := true)) (S.gl hg) (S.free _ hm) (by decide +kernel) (pa_cons ha pa_nil hs) (pk_cons pe_bl pk_nil) (by decide) (by decide) he hn) fun σ H Q hh => ?_
        obtain ⟨r, m, st, env, d, st', g, e, f, q⟩ := t_sortRev hh
        exact pa_len1' ⟨r, m, st, env, d, st', g, e, f, q⟩
      · cases hk
    · cases hk
  · cases hk
theorem isi_ok (S : Stat C k c X) {y : Str} {t : Ty} (h : tyOf y = some t) {a : Expr} {fa : DE} {p py pos : Pos} (hg : glB c.sc "isinstance" = true) (hm : ("isinstance" : Str) ∈ c.blt) (gy : glB c.sc y = true) (my : y ∈ c.blt) (ha : PE X a (tE X.K fa)) (hp : plainE a = true) :
    PE X (.Call (.Name "isinstance" p) [a, .Name y py] [] pos) (tE X.K (eIsi t fa)) := by
  unfold tyOf at h
  have hb : decide (Str.ofString t.name = y) = true := List.find?_some (p := fun t : Ty => decide (Str.ofString t.name = y)) h
  have hb := of_decide_eq_true hb
  subst hb
  have hT : PE X (.Name (Str.ofString t.name) py) (tC (.ty t.name)) := by
    have hG := S.gl gy
    have hM := S.free _ my
    cases t with
    | int => exact pe_bltn hG hM (u := .type "int") (by decide +kernel) rfl (by decide) (by decide)
    | bool => exact pe_bltn hG hM (u := .type "bool") (by decide +kernel) rfl (by decide) (by decide)
    | str => exact pe_bltn hG hM (u := .type "str") (by decide +kernel) rfl (by decide) (by decide)
    | tuple => exact pe_bltn hG hM (u := .type "tuple") (by decide +kernel) rfl (by decide) (by decide)
    | list => exact pe_bltn hG hM (u := .type "list") (by decide +kernel) rfl (by decide) (by decide)
  exact pe_imp (pe_callB call_isi (S.gl hg) (S.free _ hm) (by decide +kernel) (pa_cons ha (pa_cons hT pa_nil) (plain_star hp _ _)) (by decide) (by decide) (plain_star hp _ _) rfl) fun _ _ _ => t_isi
end
end Tg
/-! Soundness of the compiled expressions. -/
namespace Tg
open PySem PySem.Spec PyProof.Rows L2

structure Snd (C : Orc) (n : Nat) : Prop where
  E : ∀ e c f k X, Stat C k c X → cE C n e c = some f → PE X e (tE X.K f) ∧ plainE e = true
  BE : ∀ op es c f k X pos, Stat C k c X → cBE C n op es c = some f → PE X (.BoolOp op es pos) (tE X.K f)
  BT : ∀ op es c f k X pos, Stat C k c X → cBT C n op es c = some f → PW X (.BoolOp op es pos) (tBo X.K f)
  T : ∀ e c f k X, Stat C k c X → cT C n e c = some f → PT X e (tBo X.K f)
  A : ∀ es c f k X, Stat C k c X → cA C n es c = some f → PA X es (tAr X.K f) ∧ es.all plainE = true ∧ ∀ env st ds st', f env st = some (ds, st') → ds.length = es.length
  O : ∀ e c f k X, Stat C k c X → cO C n e c = some f → PO X e (tOo X.K f)
  I : ∀ tg e c f k X, Stat C k c X → cI C n tg e c = some f → PI X tg e (tI X.K f)
  G : ∀ e c g k X, Stat C k c X → cG C n e c = some g → PG X e (tG X.K g.1 g.2) ∧ plainE e = true
  Gs : ∀ es c g k X, Stat C k c X → cGs C n es c = some g → PGs X es (tGs X.K g.1 g.2) ∧ es.all plainE = true
  If : ∀ es c f k X, Stat C k c X → cIf C n es c = some f → PTs X es (tBo X.K f)
  Lc : ∀ elt tg iter ifs scope pos c q k X, Stat C k c X → cLc C n elt tg iter ifs scope pos c = some q → PE X (.ListComp elt [⟨tg, iter, ifs, 0⟩] scope pos) (tE X.K q.2) ∧
    ∀ i y py spos, X.N[i]? = some y → X.env.scope.names.lookup y = some .local → swapsWith (.ListComp elt [⟨tg, iter, ifs, 0⟩] scope pos) (some (.Name y py)) spos.line X.env = pure true →
      PS X (.Assign [.Name y py] (.ListComp elt [⟨tg, iter, ifs, 0⟩] scope pos) spos) (tAsg (tE X.K q.2) (gName i))

section
variable {X : Cx} {K : Fg}
theorem pts_imp {es : List Expr} {t t' : TT} (h : PTs X es t) (q : ∀ σ H Q, t' σ H Q → t σ H Q) : PTs X es t' := ⟨fun pins s σ H Q I w => h.run pins s σ H Q I (q _ _ _ w)⟩
theorem po_imp {e : Option Expr} {t t' : TO} (h : PO X e t) (q : ∀ σ H Q, t' σ H Q → t σ H Q) : PO X e t' := ⟨fun pins s σ H Q I w => h.run pins s σ H Q I (q _ _ _ w)⟩
theorem t_yes {σ : L2.St} {H : Hp} {Q : Bool → Hp → Prop} (h : tBo K bYes σ H Q) : tYes σ H Q := by
  obtain ⟨r, m, st, env, b, st', g, e, f, q⟩ := h
  cases f
  exact q m H (Le.refl m H) g
theorem ta_imp {D : Ends} {σ : L2.St} {H : Hp} {t t' : TE} {g : TG} (q : ∀ σ H Q, t' σ H Q → t σ H Q) (h : tAsg t' g D σ H) : tAsg t g D σ H := q _ _ _ h
end
theorem pa_len1 {K : Fg} {σ : L2.St} {H : Hp} {fa : DE} {Q : List V → Hp → Prop} (h : tAr K (aCons fa aNil) σ H Q) : tCons (tE K fa) tNil σ H Q := by
  have := t_cons h
  obtain ⟨r, m, st, env, d, st', g, e, f, q⟩ := this
  exact ⟨r, m, st, env, d, st', g, e, f, fun m1 H1 v l g1 d1 => t_nil (q m1 H1 v l g1 d1)⟩
theorem pa_len2 {K : Fg} {σ : L2.St} {H : Hp} {fa fb : DE} {Q : List V → Hp → Prop} (h : tAr K (aCons fa (aCons fb aNil)) σ H Q) : tCons (tE K fa) (tAr K (aCons fb aNil)) σ H Q := t_cons h

theorem each_plain {es : List Expr} (h : es.all plainE = true) (env : Env) : (assignEach es env).length = es.length ∧ (assignEach es env).findIdx? (·.1) = none := by
  induction es with
  | nil => exact ⟨rfl, rfl⟩
  | cons e es ih =>
    rw [List.all_cons, Bool.and_eq_true] at h
    obtain ⟨a, b⟩ := ih h.2
    rw [plain_each h.1]
    refine ⟨by rw [List.length_cons, List.length_cons, a], ?_⟩
    rw [List.findIdx?_cons, b]
    rfl
theorem sub_assign {i : Expr} (h : plainE i = true) (o : Expr) (pos : Pos) (env : Env) (v : Value) : assign (.Subscript o i pos) env v = (do
    let ov ← holding [v] (eval o env)
    let iv ← holding [v, ov] (eval i env)
    standAt pos
    holding [v, ov, iv] (setItem ov iv v)
    release [v, ov, iv] []) := by
  cases i <;> first | rfl | cases h
theorem mth_ok {X : Cx} {o : Str} {po apos cpos : Pos} {m : Str} {a : Expr} {mt : Mth} {fo fa : DE} (hm : mthOf m = some mt) (hl : apos.endLine = cpos.line) (q1 : PE X (.Name o po) (tE X.K fo)) (q2 : PE X a (tE X.K fa) ∧ plainE a = true) :
    PE X (.Call (.Attribute (.Name o po) m apos) [a] [] cpos) (tE X.K (mt.e fo fa)) := by
  obtain ⟨q2, p2⟩ := q2
  have hs := plain_star p2 [] X.env
  have key : ∀ {T id : String} {nm : Str} {r : V → List V → Hp → VK → Prop} {f : DE}, PySem.PlainAttrs T → PySem.Slot T nm id → typeOf (.builtin id) = pure (.type "method_descriptor") → MtR X id r →
      (∀ σ H Q, tE X.K f σ H Q → tBM X.K T r (tE X.K fo) (tAr X.K (aCons fa aNil)) σ H Q) → PE X (.Call (.Attribute (.Name o po) nm apos) [a] [] cpos) (tE X.K f) := by
    intro T id nm r f pA sl ty mr imp
    refine pe_imp (pe_bm pA sl ty mr q1 (pa_cons q2 pa_nil hs) rfl (by rw [hs]; rfl) (by rw [hl]; exact beq_self_eq_true _) hs rfl) fun σ H Q hh => ?_
    obtain ⟨r, mm, st, env, d, st', g, e, f, q⟩ := imp σ H Q hh
    exact ⟨r, mm, st, env, d, st', g, e, f, fun m1 H1 v l g1 d1 => ⟨(q m1 H1 v l g1 d1).1, pa_len1 (q m1 H1 v l g1 d1).2⟩⟩
  unfold mthOf at hm
  split at hm
  · next h =>
    cases hm
    rw [of_decide_eq_true h]
    exact key PySem.F.plainAttrs_list PySem.F.slot_list_append PySem.F.type_list_append mt_append fun _ _ _ => t_append
  · split at hm
    · next h =>
      cases hm
      rw [of_decide_eq_true h]
      exact key PySem.F.plainAttrs_list PySem.F.slot_list_extend PySem.F.type_list_extend mt_extend fun _ _ _ => t_extend
    · split at hm
      · next h =>
        cases hm
        rw [of_decide_eq_true h]
        exact key PySem.F.plainAttrs_list PySem.F.slot_list_pop PySem.F.type_list_pop mt_popAt fun _ _ _ => t_popAt
      · split at hm
        · next h =>
          cases hm
          rw [of_decide_eq_true h]
          exact key PySem.F.plainAttrs_list PySem.F.slot_list_index PySem.F.type_list_index mt_index fun _ _ _ => t_index
        · cases hm
theorem rng_ok {C : Orc} {k : Nat} {c : Ct} {X : Cx} (S : Stat C k c X) {x : Str} {es : List Expr} {l : Bool} {a : Expr} {p pos : Pos} {fa : DE} (hr : rngP x es = some (l, a)) (hg : glB c.sc x = true) (hm : x ∈ c.blt) (hg2 : glB c.sc "range" = true) (hm2 : ("range" : Str) ∈ c.blt) (qa : PE X a (tE X.K fa) ∧ plainE a = true) :
    PE X (.Call (.Name x p) es [] pos) (tE X.K (if l then (if muB c pos then eRgM fa else eRgL fa) else eRgT fa)) := by
  obtain ⟨q1, p1⟩ := qa
  unfold rngP at hr
  split at hr
  · next hx =>
    split at hr
    · next y py a' pr =>
      split at hr
      · next hy =>
        cases hr
        have hy := of_decide_eq_true hy
        subst hy
        have pr1 : PRg X (.Call (.Name "range" py) [a] [] pr) (tRg1 (tE X.K fa)) := prg_1 (S.gl hg2) (S.free _ hm2) q1 (plain_star p1 _ _)
        have hs : starEach [.Call (.Name "range" py) [a] [] pr] X.env = (false, eval (.Call (.Name "range" py) [a] [] pr) X.env) :: starEach [] X.env := rfl
        by_cases hxl : x = "list"
        · subst hxl
          rw [decide_eq_true rfl, if_pos rfl]
          split
          · exact pe_imp (pe_listRg S.calm (S.gl hg) (S.free _ hm) pr1 hs) fun _ _ _ => t_rgM
          · exact pe_imp (pe_listRg S.calm (S.gl hg) (S.free _ hm) pr1 hs) fun _ _ _ => t_rgL
        · rw [decide_eq_false hxl, if_neg Bool.false_ne_true]
          rw [decide_eq_false hxl, Bool.false_or] at hx
          have hx := of_decide_eq_true hx
          subst hx
          exact pe_imp (pe_tupRg S.calm (S.gl hg) (S.free _ hm) pr1 hs) fun _ _ _ => t_rgT
      · cases hr
    · cases hr
  · cases hr
theorem sound (C : Orc) : ∀ n, Snd C n := by
  intro n
  induction n with
  | zero =>
    constructor
    · intro e c f k X S h; unfold cE at h; cases h
    · intro op es c f k X pos S h; unfold cBE at h; cases h
    · intro op es c f k X pos S h; unfold cBT at h; cases h
    · intro e c f k X S h; unfold cT at h; cases h
    · intro es c f k X S h; unfold cA at h; cases h
    · intro e c f k X S h; unfold cO at h; cases h
    · intro tg e c f k X S h; unfold cI at h; cases h
    · intro e c g k X S h; unfold cG at h; cases h
    · intro es c g k X S h; unfold cGs at h; cases h
    · intro es c f k X S h; unfold cIf at h; cases h
    · intro elt tg iter ifs scope pos c q k X S h; unfold cLc at h; cases h
  | succ n ih =>
    constructor
    · -- expressions
      intro e c f k X S h
      unfold cE at h
      split at h
      · next hp =>
        refine ⟨?_, hp⟩
        split at h
        · next x pos =>
          split at h
          · next hx =>
            obtain ⟨h1, h2, h3⟩ := okNm_ok hx
            split at h
            · next i hi =>
              split at h
              · next hv =>
                cases h
                exact pe_imp (pe_var (S.at_ hi) (by rw [S.sc]; exact visB_ok hv) h1 h2) fun _ _ _ => t_var
              · cases h
            · split at h
              · next hg =>
                split at h
                · next d hd =>
                  cases h
                  obtain ⟨u, v, m1, r1, d1⟩ := S.csts x d hd
                  exact pe_imp (pe_glob (S.gl hg) m1 r1 h1) fun _ _ _ => t_c d1
                · cases h
              · cases h
          · cases h
        · cases h; exact pe_imp pe_int fun _ _ _ => t_c fun _ _ _ => rfl
        · cases h; exact pe_imp pe_bl fun _ _ _ => t_c fun _ _ _ => rfl
        · cases h; exact pe_imp pe_non fun _ _ _ => t_c fun _ _ _ => rfl
        · cases h; exact pe_imp pe_str fun _ _ _ => t_c fun _ _ _ => rfl
        · obtain ⟨o, ho, h⟩ := Option.bind_eq_some_iff.mp h
          obtain ⟨fa, h1, h⟩ := Option.bind_eq_some_iff.mp h
          obtain ⟨fb, h2, h⟩ := Option.map_eq_some_iff.mp h
          cases h
          split
          · next hm =>
            have ha := (Bool.and_eq_true_iff.mp hm).2
            unfold addB at ha
            split at ha
            · exact pe_imp (pe_op op_adds (ih.E _ _ _ _ _ S h1).1 (ih.E _ _ _ _ _ S h2).1) fun _ _ _ => t_cat
            · cases ha
          · split
            · next hm =>
              have ha := (Bool.and_eq_true_iff.mp hm).2
              unfold mulB at ha
              split at ha
              · exact pe_imp (pe_op op_muls (ih.E _ _ _ _ _ S h1).1 (ih.E _ _ _ _ _ S h2).1) fun _ _ _ => t_repM
              · cases ha
            exact bin_ok S ho (ih.E _ _ _ _ _ S h1).1 (ih.E _ _ _ _ _ S h2).1
        · obtain ⟨fa, h1, h⟩ := Option.map_eq_some_iff.mp h
          cases h
          exact pe_imp (pe_un un_neg (ih.E _ _ _ _ _ S h1).1) fun _ _ _ => t_un ud_neg
        · obtain ⟨fa, h1, h⟩ := Option.map_eq_some_iff.mp h
          cases h
          exact pe_imp (pe_not (ih.E _ _ _ _ _ S h1).1) fun _ _ _ => t_not
        · exact ih.BE _ _ _ _ _ _ _ S h
        · obtain ⟨o, ho, h⟩ := Option.bind_eq_some_iff.mp h
          obtain ⟨fa, h1, h⟩ := Option.bind_eq_some_iff.mp h
          obtain ⟨fb, h2, h⟩ := Option.map_eq_some_iff.mp h
          cases h
          obtain ⟨rr, a1, a2⟩ := cmp_ok S ho
          obtain ⟨q2, p2⟩ := ih.E _ _ _ _ _ S h2
          exact pe_imp (pe_cmpR a1 (ih.E _ _ _ _ _ S h1).1 q2 (plain_mark p2 _)) fun _ _ _ => t_op a2
        · obtain ⟨o, ho, h⟩ := Option.bind_eq_some_iff.mp h
          obtain ⟨o', ho', h⟩ := Option.bind_eq_some_iff.mp h
          obtain ⟨fa, h1, h⟩ := Option.bind_eq_some_iff.mp h
          obtain ⟨fb, h2, h⟩ := Option.bind_eq_some_iff.mp h
          obtain ⟨fc, h3, h⟩ := Option.map_eq_some_iff.mp h
          cases h
          obtain ⟨rr, a1, a2⟩ := cmp_ok S ho
          obtain ⟨rr', b1, b2⟩ := cmp_ok S ho'
          obtain ⟨q2, p2⟩ := ih.E _ _ _ _ _ S h2
          obtain ⟨q3, p3⟩ := ih.E _ _ _ _ _ S h3
          refine pe_imp (pe_chain a1 b1 (ih.E _ _ _ _ _ S h1).1 q2 q3 ?_) fun _ _ _ => t_chain a2 b2
          exact plain_mark p3 _
        · obtain ⟨ft, h1, h⟩ := Option.bind_eq_some_iff.mp h
          obtain ⟨fa, h2, h⟩ := Option.bind_eq_some_iff.mp h
          obtain ⟨fb, h3, h⟩ := Option.map_eq_some_iff.mp h
          cases h
          exact pe_imp (pe_ifExp (ih.T _ _ _ _ _ S h1) (ih.E _ _ _ _ _ S h2).1 (ih.E _ _ _ _ _ S h3).1) fun _ _ _ => t_if
        · split at h
          · next hz =>
            obtain ⟨fa, h1, h⟩ := Option.map_eq_some_iff.mp h
            cases h
            obtain ⟨q1, p1, l1⟩ := ih.A _ _ _ _ _ S h1
            refine pe_imp (pe_tup q1) fun _ _ _ => t_tup fun env st ds st' e => ?_
            rw [l1 _ _ _ _ e]
            exact Nat.le_trans (of_decide_eq_true hz) (by decide)
          · cases h
        · split at h
          · next hz =>
            obtain ⟨fa, h1, h⟩ := Option.map_eq_some_iff.mp h
            cases h
            obtain ⟨q1, p1, l1⟩ := ih.A _ _ _ _ _ S h1
            have hl : ∀ env st ds st', fa env st = some (ds, st') → ds.length ≤ sizeLine := fun env st ds st' e => by
              rw [l1 _ _ _ _ e]
              exact Nat.le_trans (of_decide_eq_true hz) (by decide)
            split
            · exact pe_imp (pe_lst q1) fun _ _ _ => t_mlst hl
            · exact pe_imp (pe_lst q1) fun _ _ _ => t_lst hl
          · cases h
        · next a b pos =>
          split at h
          · next lo hi hs =>
            obtain ⟨fa, h1, h⟩ := Option.bind_eq_some_iff.mp h
            obtain ⟨fl, h2, h⟩ := Option.bind_eq_some_iff.mp h
            obtain ⟨fh, h3, h⟩ := Option.map_eq_some_iff.mp h
            cases h
            unfold sliceP at hs
            split at hs
            · cases hs
              exact pe_imp (pe_slice sl_all (ih.E _ _ _ _ _ S h1).1 (ih.O _ _ _ _ _ S h2) (ih.O _ _ _ _ _ S h3)) fun _ _ _ => t_sl
            · cases hs
          · split at h
            · next hr =>
              obtain ⟨fa, h1, h⟩ := Option.map_eq_some_iff.mp h
              cases h
              unfold revP at hr
              split at hr
              · exact pe_imp (pe_revL (ih.E _ _ _ _ _ S h1).1) fun _ _ _ => t_rev
              · cases hr
            obtain ⟨fa, h1, h⟩ := Option.bind_eq_some_iff.mp h
            obtain ⟨fb, h2, h⟩ := Option.map_eq_some_iff.mp h
            cases h
            obtain ⟨q2, p2⟩ := ih.E _ _ _ _ _ S h2
            exact pe_imp (pe_ix ix_seq (ih.E _ _ _ _ _ S h1).1 q2 (plain_ix p2)) fun _ _ _ => t_op od_ix
        · next x p es pos =>
          split at h
          · next hx =>
            rw [Bool.and_eq_true] at hx
            obtain ⟨h1, h2, h3⟩ := okNm_ok hx.1
            split at h
            · next a y hi =>
              unfold isiP at hi
              split at hi
              · next hn =>
                have hn := of_decide_eq_true hn
                subst hn
                split at hi
                · cases hi
                  split at h
                  · next hc =>
                    simp only [Bool.and_eq_true, decide_eq_true_eq] at hc
                    obtain ⟨t, h4, h⟩ := Option.bind_eq_some_iff.mp h
                    obtain ⟨fa, h5, h⟩ := Option.map_eq_some_iff.mp h
                    cases h
                    obtain ⟨q1, p1⟩ := ih.E _ _ _ _ _ S h5
                    exact isi_ok S h4 hx.2 hc.1.2 hc.1.1.2 hc.2 q1 p1
                  · cases h
                · cases hi
              · cases hi
            · split at h
              · next l a hr =>
                split at h
                · next hc =>
                  simp only [Bool.and_eq_true, decide_eq_true_eq] at hc
                  obtain ⟨fa, h5, h⟩ := Option.map_eq_some_iff.mp h
                  cases h
                  exact rng_ok S hr hx.2 hc.1.2 hc.1.1 hc.2 (ih.E _ _ _ _ _ S h5)
                · cases h
              obtain ⟨fa, h4, h⟩ := Option.bind_eq_some_iff.mp h
              obtain ⟨q1, p1, l1⟩ := ih.A _ _ _ _ _ S h4
              unfold cC at h
              split at h
              · next id j hj =>
                split at h
                · next he =>
                  cases h
                  have he := of_decide_eq_true he
                  subst he
                  obtain ⟨fA, fd, ps, m1, m2, m3, F⟩ := S.funs x id _ hj
                  cases es with
                  | nil =>
                    refine pe_imp (pe_callG0 F S.gd S.rm (S.gl hx.2) m1 m2 m3 h1) fun σ H Q hh => ?_
                    have e0 : fa = aNil := by
                      cases n with
                      | zero => unfold cA at h4; cases h4
                      | succ n => unfold cA at h4; cases h4; rfl
                    subst e0
                    exact t_nil (t_call (n := 0) l1 hh)
                  | cons e es =>
                    rw [List.all_cons, Bool.and_eq_true] at p1
                    exact pe_imp (pe_callG F S.gd S.rm (S.gl hx.2) m1 m2 m3 q1 h1 (plain_star p1.1 _ _) (stars_none p1.2 _ _)) fun _ _ _ => t_call l1
                · cases h
              · split at h
                · next hm =>
                  obtain ⟨b, h5, h⟩ := Option.bind_eq_some_iff.mp h
                  cases h
                  cases es with
                  | nil =>
                    exfalso
                    unfold btOf at h5
                    have := List.find?_some h5
                    simp only [Bool.and_eq_true, decide_eq_true_eq] at this
                    cases b <;> cases this.2
                  | cons e es =>
                    obtain ⟨a1, a2⟩ := bt_ok S h5 (p := p) (pos := pos) hx.2 (of_decide_eq_true hm) q1 p1
                    split
                    · next hc => exact a2 (of_decide_eq_true (Bool.and_eq_true_iff.mp hc).2)
                    · exact a1
                · cases h
          · cases h
        · next x p es kw kws pos =>
          split at h
          · next hx =>
            simp only [Bool.and_eq_true, decide_eq_true_eq] at hx
            split at h
            · next a hk =>
              split at h
              · next hc =>
                simp only [Bool.and_eq_true, decide_eq_true_eq] at hc
                obtain ⟨fa, h1, h⟩ := Option.map_eq_some_iff.mp h
                cases h
                obtain ⟨q1, p1⟩ := ih.E _ _ _ _ _ S h1
                exact kw_ok S hk hx.1.2 hx.2 (fun _ => hc) q1 p1
              · cases h
            · next a hk =>
              obtain ⟨fa, h1, h⟩ := Option.map_eq_some_iff.mp h
              cases h
              obtain ⟨q1, p1⟩ := ih.E _ _ _ _ _ S h1
              exact kw_ok S hk hx.1.2 hx.2 (fun z => by cases z) q1 p1
            · cases h
          · cases h
        · next o po m apos a cpos =>
          split at h
          · next hc =>
            obtain ⟨mt, hm, h⟩ := Option.bind_eq_some_iff.mp h
            obtain ⟨fo, h1, h⟩ := Option.bind_eq_some_iff.mp h
            obtain ⟨fa, h2, h⟩ := Option.map_eq_some_iff.mp h
            cases h
            exact mth_ok hm (of_decide_eq_true hc) (ih.E _ _ _ _ _ S h1).1 (ih.E _ _ _ _ _ S h2)
          · cases h
        · obtain ⟨q, h1, h⟩ := Option.map_eq_some_iff.mp h
          cases h
          exact (ih.Lc _ _ _ _ _ _ _ _ _ _ S h1).1
        · cases h
      · cases h
    · -- and, or as values
      intro op es c f k X pos S h
      unfold cBE at h
      split at h
      · exact pe_one (ih.E _ _ _ _ _ S h).1
      · split at h
        · obtain ⟨fa, h1, h⟩ := Option.bind_eq_some_iff.mp h
          obtain ⟨fb, h2, h⟩ := Option.map_eq_some_iff.mp h
          cases h
          exact pe_imp (pe_and (ih.E _ _ _ _ _ S h1).1 (ih.BE _ _ _ _ _ _ _ S h2)) fun _ _ _ => t_and
        · obtain ⟨fa, h1, h⟩ := Option.bind_eq_some_iff.mp h
          obtain ⟨fb, h2, h⟩ := Option.map_eq_some_iff.mp h
          cases h
          exact pe_imp (pe_or (ih.E _ _ _ _ _ S h1).1 (ih.BE _ _ _ _ _ _ _ S h2)) fun _ _ _ => t_or
      · cases h
    · -- and, or as tests
      intro op es c f k X pos S h
      unfold cBT at h
      split at h
      · have h1 := ih.T _ _ _ _ _ S h
        cases op with
        | And => exact pw_and1 h1
        | Or => exact pw_or1 h1
      · split at h
        · obtain ⟨fa, h1, h⟩ := Option.bind_eq_some_iff.mp h
          obtain ⟨fb, h2, h⟩ := Option.map_eq_some_iff.mp h
          cases h
          exact pw_imp (pw_and (ih.T _ _ _ _ _ S h1) (ih.BT _ _ _ _ _ _ _ S h2)) fun _ _ _ => t_band
        · obtain ⟨fa, h1, h⟩ := Option.bind_eq_some_iff.mp h
          obtain ⟨fb, h2, h⟩ := Option.map_eq_some_iff.mp h
          cases h
          exact pw_imp (pw_or (ih.T _ _ _ _ _ S h1) (ih.BT _ _ _ _ _ _ _ S h2)) fun _ _ _ => t_bor
      · cases h
    · -- tests
      intro e c f k X S h
      unfold cT at h
      split at h
      · obtain ⟨fa, h1, h⟩ := Option.map_eq_some_iff.mp h
        cases h
        exact pt_imp (pt_not (ih.T _ _ _ _ _ S h1)) fun _ _ _ => t_bnot
      · exact (ih.BT _ _ _ _ _ _ _ S h).pt
      · obtain ⟨o, ho, h⟩ := Option.bind_eq_some_iff.mp h
        obtain ⟨fa, h1, h⟩ := Option.bind_eq_some_iff.mp h
        obtain ⟨fb, h2, h⟩ := Option.map_eq_some_iff.mp h
        cases h
        obtain ⟨rr, a1, a2⟩ := cmp_ok S ho
        obtain ⟨q2, p2⟩ := ih.E _ _ _ _ _ S h2
        refine pt_imp (pt_cmpR a1 (ih.E _ _ _ _ _ S h1).1 q2 (plain_mark p2 _)) fun σ H Q hh => ?_
        obtain ⟨r, m, st, env, d, st', g, e, f, q⟩ := t_bval hh
        exact t_op a2 ⟨r, m, st, env, d, st', g, e, f, q⟩
      · obtain ⟨o, ho, h⟩ := Option.bind_eq_some_iff.mp h
        obtain ⟨o', ho', h⟩ := Option.bind_eq_some_iff.mp h
        obtain ⟨fa, h1, h⟩ := Option.bind_eq_some_iff.mp h
        obtain ⟨fb, h2, h⟩ := Option.bind_eq_some_iff.mp h
        obtain ⟨fc, h3, h⟩ := Option.map_eq_some_iff.mp h
        cases h
        obtain ⟨rr, a1, a2⟩ := cmp_ok S ho
        obtain ⟨rr', b1, b2⟩ := cmp_ok S ho'
        obtain ⟨q2, p2⟩ := ih.E _ _ _ _ _ S h2
        obtain ⟨q3, p3⟩ := ih.E _ _ _ _ _ S h3
        refine pt_imp (pt_chain a1 b1 (ih.E _ _ _ _ _ S h1).1 q2 q3 ?_) fun σ H Q hh => ?_
        · exact plain_mark p3 _
        · obtain ⟨r, m, st, env, d, st', g, e, f, q⟩ := t_bval hh
          exact t_chain a2 b2 ⟨r, m, st, env, d, st', g, e, f, q⟩
      · split at h
        · next ho =>
          obtain ⟨fa, h1, h⟩ := Option.map_eq_some_iff.mp h
          cases h
          exact pt_imp (pt_val (ih.E _ _ _ _ _ S h1).1 (fun w => own_test ho _ w)) fun _ _ _ => t_bval
        · cases h
    · -- arguments
      intro es c f k X S h
      unfold cA at h
      split at h
      · cases h
        refine ⟨pa_imp pa_nil fun _ _ _ => t_nil, rfl, fun env st ds st' e => ?_⟩
        cases e
        rfl
      · obtain ⟨fa, h1, h⟩ := Option.bind_eq_some_iff.mp h
        obtain ⟨fr, h2, h⟩ := Option.map_eq_some_iff.mp h
        cases h
        obtain ⟨q1, p1⟩ := ih.E _ _ _ _ _ S h1
        obtain ⟨q2, p2, l2⟩ := ih.A _ _ _ _ _ S h2
        refine ⟨pa_imp (pa_cons q1 q2 (plain_star p1 _ _)) fun _ _ _ => t_cons, ?_, fun env st ds st' e => ?_⟩
        · rw [List.all_cons, p1, p2]
          rfl
        · unfold aCons at e
          obtain ⟨⟨x, s1⟩, e1, e⟩ := Option.bind_eq_some_iff.mp e
          obtain ⟨⟨y, s2⟩, e2, e⟩ := Option.bind_eq_some_iff.mp e
          cases e
          rw [List.length_cons, List.length_cons, l2 _ _ _ _ e2]
    · -- parts of a slice
      intro e c f k X S h
      unfold cO at h
      split at h
      · cases h
        exact po_imp po_none fun _ _ _ => t_ono
      · obtain ⟨fa, h1, h⟩ := Option.map_eq_some_iff.mp h
        cases h
        exact po_imp (po_some (ih.E _ _ _ _ _ S h1).1) fun _ _ _ => t_oso
    · -- what is walked
      intro tg e c f k X S h
      have seq : ∀ {e : Expr} {f : DE}, cE C n e c = some f → PI X tg e (tI X.K (iSeq f)) := fun {e f} h1 =>
        pi_imp (pi_or (pi_list (ih.E _ _ _ _ _ S h1).1) (pi_tup (ih.E _ _ _ _ _ S h1).1)) fun _ _ _ => i_seq
      unfold cI at h
      split at h
      · next x p es pos =>
        split at h
        · next hx =>
          simp only [Bool.and_eq_true, decide_eq_true_eq] at hx
          obtain ⟨⟨⟨hx1, hx2⟩, hx3⟩, hx4⟩ := hx
          split at h
          · next hr =>
            simp only [Bool.and_eq_true, Bool.or_eq_true, decide_eq_true_eq] at hr
            obtain ⟨rfl, hr⟩ := hr
            obtain ⟨fa, h1, h⟩ := Option.map_eq_some_iff.mp h
            cases h
            obtain ⟨q1, p1, l1⟩ := ih.A _ _ _ _ _ S h1
            rcases hr with hr | hr
            · match es, hr, q1, p1, l1 with
              | [a], _, q1, p1, l1 =>
                rw [List.all_cons, Bool.and_eq_true] at p1
                exact pi_imp (pi_range1 (S.gl hx2) (S.free _ hx3) q1 (plain_star p1.1 _ _)) fun _ _ _ => i_rng1 l1
            · match es, hr, q1, p1, l1 with
              | [a, b], _, q1, p1, l1 =>
                rw [List.all_cons, Bool.and_eq_true, List.all_cons, Bool.and_eq_true] at p1
                refine pi_imp (pi_range2 (S.gl hx2) (S.free _ hx3) q1 ?_ (plain_star p1.2.1 _ _)) fun _ _ _ => i_rng2 l1
                rw [plain_star p1.1, plain_star p1.2.1]
                rfl
          · split at h
            · next hz =>
              simp only [Bool.and_eq_true, decide_eq_true_eq] at hz
              obtain ⟨rfl, ht⟩ := hz
              split at h
              · obtain ⟨fa, h1, h⟩ := Option.bind_eq_some_iff.mp h
                obtain ⟨fb, h2, h⟩ := Option.map_eq_some_iff.mp h
                cases h
                obtain ⟨q1, p1⟩ := ih.E _ _ _ _ _ S h1
                obtain ⟨q2, p2⟩ := ih.E _ _ _ _ _ S h2
                cases tg with
                | Tuple elts kk tpos =>
                  have pa2 : PA X [_, _] (tAr X.K (aCons fa (aCons fb aNil))) := pa_imp (pa_cons q1 (pa_imp (pa_cons q2 (pa_imp pa_nil fun _ _ _ => t_nil) (plain_star p2 _ _)) fun _ _ _ => t_cons) (plain_star p1 _ _)) fun _ _ _ => t_cons
                  refine pi_imp (pi_zpK (S.gl hx2) (S.free _ hx3) pa2 (plain_star p1 _ _) ?_) fun _ _ _ => i_zip
                  rw [plain_star p2]
                  rfl
                | _ => cases ht
              · obtain ⟨fa, h1, h⟩ := Option.bind_eq_some_iff.mp h
                obtain ⟨fb, h2, h⟩ := Option.bind_eq_some_iff.mp h
                obtain ⟨fc, h3, h⟩ := Option.map_eq_some_iff.mp h
                cases h
                obtain ⟨q1, p1⟩ := ih.E _ _ _ _ _ S h1
                obtain ⟨q2, p2⟩ := ih.E _ _ _ _ _ S h2
                obtain ⟨q3, p3⟩ := ih.E _ _ _ _ _ S h3
                cases tg with
                | Tuple elts kk tpos =>
                  have pa3 : PA X [_, _, _] (tAr X.K (aCons fa (aCons fb (aCons fc aNil)))) := pa_imp (pa_cons q1 (pa_imp (pa_cons q2 (pa_imp (pa_cons q3 (pa_imp pa_nil fun _ _ _ => t_nil) (plain_star p3 _ _)) fun _ _ _ => t_cons) (plain_star p2 _ _)) fun _ _ _ => t_cons) (plain_star p1 _ _)) fun _ _ _ => t_cons
                  refine pi_imp (pi_zp3 (S.gl hx2) (S.free _ hx3) pa3 (plain_star p1 _ _) ?_) fun _ _ _ => i_zip3
                  rw [plain_star p2, plain_star p3]
                  rfl
                | _ => cases ht
              · cases h
            · split at h
              · next hz =>
                simp only [Bool.and_eq_true, decide_eq_true_eq] at hz
                obtain ⟨rfl, ht⟩ := hz
                split at h
                · obtain ⟨fa, h1, h⟩ := Option.bind_eq_some_iff.mp h
                  obtain ⟨fb, h2, h⟩ := Option.map_eq_some_iff.mp h
                  cases h
                  obtain ⟨q1, p1⟩ := ih.E _ _ _ _ _ S h1
                  obtain ⟨q2, p2⟩ := ih.E _ _ _ _ _ S h2
                  cases tg with
                  | Name y tpos =>
                    have pa2 : PA X [_, _] (tAr X.K (aCons fa (aCons fb aNil))) := pa_imp (pa_cons q1 (pa_imp (pa_cons q2 (pa_imp pa_nil fun _ _ _ => t_nil) (plain_star p2 _ _)) fun _ _ _ => t_cons) (plain_star p1 _ _)) fun _ _ _ => t_cons
                    refine pi_imp (pi_zpN (S.gl hx2) (S.free _ hx3) pa2 (plain_star p1 _ _) ?_) fun _ _ _ => i_zip
                    rw [plain_star p2]
                    rfl
                  | _ => cases ht
                · cases h
              split at h
              · next hz =>
                simp only [Bool.and_eq_true, decide_eq_true_eq] at hz
                obtain ⟨rfl, ht⟩ := hz
                split at h
                · obtain ⟨fa, h1, h⟩ := Option.map_eq_some_iff.mp h
                  cases h
                  obtain ⟨q1, p1⟩ := ih.E _ _ _ _ _ S h1
                  cases tg with
                  | Tuple elts kk tpos =>
                    have pa1 : PA X [_] (tAr X.K (aCons fa aNil)) := pa_imp (pa_cons q1 (pa_imp pa_nil fun _ _ _ => t_nil) (plain_star p1 _ _)) fun _ _ _ => t_cons
                    exact pi_imp (pi_enK (S.gl hx2) (S.free _ hx3) pa1 (plain_star p1 _ _)) fun _ _ _ => i_en
                  | _ => cases ht
                · cases h
              · split at h
                · cases h
                · obtain ⟨fa, h1, h⟩ := Option.map_eq_some_iff.mp h
                  cases h
                  exact seq h1
        · obtain ⟨fa, h1, h⟩ := Option.map_eq_some_iff.mp h
          cases h
          exact seq h1
      · obtain ⟨fa, h1, h⟩ := Option.map_eq_some_iff.mp h
        cases h
        exact seq h1
    · -- a target
      intro e c g k X S h
      unfold cG at h
      split at h
      · next x p =>
        split at h
        · next hl =>
          obtain ⟨i, hi, h⟩ := Option.map_eq_some_iff.mp h
          cases h
          refine ⟨?_, rfl⟩
          unfold locB at hl
          rw [← S.sc, ← S.fn] at hl
          have hx : Loc X.env.scope x ∧ (X.fn x = true ∨ X.env.scope.names.lookup x = some .local) := by
            split at hl
            · next q => exact ⟨.inl q, .inr q⟩
            · next q => exact ⟨.inr q, .inl hl⟩
            · cases hl
          exact pg_imp (pg_name S.ndX (S.at_ hi) hx.1 hx.2) fun _ _ _ _ => g_name
        · cases h
      · obtain ⟨g', h1, h⟩ := Option.map_eq_some_iff.mp h
        cases h
        obtain ⟨q1, p1⟩ := ih.Gs _ _ _ _ _ S h1
        refine ⟨?_, rfl⟩
        obtain ⟨e1, e2⟩ := each_plain p1 X.env
        exact pg_imp (pg_or (pg_tup S.calm q1 e1 e2) (pg_unl S.calm q1 e1 e2)) fun _ _ _ _ => g_tup
      · split at h
        · next hp =>
          obtain ⟨fo, h1, h⟩ := Option.bind_eq_some_iff.mp h
          obtain ⟨fi, h2, h⟩ := Option.map_eq_some_iff.mp h
          cases h
          refine ⟨?_, rfl⟩
          exact pg_imp (pg_sub (ih.E _ _ _ _ _ S h1).1 (ih.E _ _ _ _ _ S h2).1 set_list (sub_assign hp _ _ _)) fun _ _ _ _ => g_sub
        · cases h
      · cases h
    · -- targets
      intro es c g k X S h
      unfold cGs at h
      split at h
      · cases h
        exact ⟨pgs_imp pgs_nil fun _ _ _ _ => g_nil, rfl⟩
      · obtain ⟨g1, h1, h⟩ := Option.bind_eq_some_iff.mp h
        obtain ⟨g2, h2, h⟩ := Option.map_eq_some_iff.mp h
        cases h
        obtain ⟨q1, p1⟩ := ih.G _ _ _ _ _ S h1
        obtain ⟨q2, p2⟩ := ih.Gs _ _ _ _ _ S h2
        refine ⟨pgs_imp (pgs_cons q1 q2 (by rw [plain_each p1]; rfl)) fun _ _ _ _ => g_cons, ?_⟩
        rw [List.all_cons, p1, p2]
        rfl
    · -- a clause's tests
      intro es c f k X S h
      unfold cIf at h
      split at h
      · cases h
        exact pts_imp pts_nil fun _ _ _ => t_yes
      · exact pts_one (ih.T _ _ _ _ _ S h)
      · cases h
    · -- a comprehension
      intro elt tg iter ifs scope pos c q k X S h
      unfold cLc at h
      split at h
      · next hc =>
        rw [Bool.and_eq_true] at hc
        obtain ⟨fi, h1, h⟩ := Option.bind_eq_some_iff.mp h
        obtain ⟨g, h2, h⟩ := Option.bind_eq_some_iff.mp h
        split at h
        · next hw =>
          obtain ⟨fb, h3, h⟩ := Option.bind_eq_some_iff.mp h
          obtain ⟨fe, h4, h⟩ := Option.map_eq_some_iff.mp h
          cases h
          have hw : ∀ i ∈ g.1, i ∈ (ownOf c.N scope).map (·.2) := fun i hi => of_decide_eq_true (List.all_eq_true.mp hw i hi)
          have ok : BlkOk X.N X.env.scope scope (ownOf c.N scope) := by
            rw [S.N, S.sc]
            exact blkOk_by hc.1
          have SB := fun (s : Shared) (H : Hp) (A : Addr) (cl : List (Str × Addr)) (fp : List Addr) => S.blk ok.kind s H A cl fp
          have imp : ∀ σ H Q, tE X.K (if muB c pos then eMLc ((ownOf c.N scope).map (·.2)) fi g.2 fb fe else eLc ((ownOf c.N scope).map (·.2)) fi g.2 fb fe) σ H Q →
              tLc (tI X.K fi) (tG X.K g.1 g.2) (tBo X.K fb) (tE X.K fe) ((ownOf c.N scope).map (·.2)) σ H Q := by
            intro σ H Q hh
            split at hh
            · exact t_mlc hw hh
            · exact t_lc hw hh
          have hI := ih.I _ _ _ _ _ _ S h1
          refine ⟨pe_imp (pe_lc S.calm S.ndX hI ok (fun s H A cl fp => (ih.G _ _ _ _ _ (SB s H A cl fp) h2).1) (fun s H A cl fp => ih.If _ _ _ _ _ (SB s H A cl fp) h3) (fun s H A cl fp => (ih.E _ _ _ _ _ (SB s H A cl fp) h4).1) (plain_set hc.2 _)) imp, ?_⟩
          intro i y py spos hy hl hs
          exact ps_imp (ps_setLc S.calm S.ndX hy hl hs hI ok (fun s H A cl fp => (ih.G _ _ _ _ _ (SB s H A cl fp) h2).1) (fun s H A cl fp => ih.If _ _ _ _ _ (SB s H A cl fp) h3) (fun s H A cl fp => (ih.E _ _ _ _ _ (SB s H A cl fp) h4).1) (plain_set hc.2 _)) fun D σ H hh => ta_imp imp hh
        · cases h
      · cases h
end Tg
/-! Statements, bodies, defs: from the text to functions on data. -/
namespace Tg
open PySem PySem.Spec PyProof.Rows L2

def oAddI (_ : Sto) : D → D → Option D
  | .int i, .int j => some (.int (i + j))
  | _, _ => none
def oMulI (_ : Sto) : D → D → Option D
  | .int i, .int j => if mulOk i j then some (.int (i * j)) else none
  | _, _ => none
def augD : Operator → Option (Sto → D → D → Option D)
  | .Add => some oAddI
  | .Sub => some oSub
  | .Mult => some oMulI
  | _ => none
def isDoc : Expr → Bool
  | .Constant (.str _) _ _ => true
  | _ => false
/-- how many turns a while may take -/
def fuelW : Nat := 1000000000000000000000000
/-- name = comprehension: stored within the comprehension's frame -/
def swB (sc scope : Scope) (x : Str) (px lpos : Pos) : Bool := (sc.names.lookup x == some .local) && (px.line == lpos.line) && !(scope.names.any fun (n, k) => n == x && (k == .local || k == .cell))
def sPar2 (i j : Nat) (fa : DA) : DS := sAsg (eTup fa) (gT 2 (gsCons (gN i) (gsCons (gN j) gsNil)))
def sPar3 (i j l : Nat) (fa : DA) : DS := sAsg (eTup fa) (gT 3 (gsCons (gN i) (gsCons (gN j) (gsCons (gN l) gsNil))))
/-- what the reading lacks: it must not be reached -/
def sStuck : DS := fun _ _ => none
/-- o[i] op= e -/
def sAugS (o : Sto → D → D → Option D) (fo fi fe : DE) : DS := fun env st => (fo env st).bind fun p => (fi env p.2).bind fun q => (oIx q.2 p.1 q.1).bind fun x => (fe env q.2).bind fun y => (o y.2 x y.1).bind fun d => (setC y.2 p.1 q.1 d).map fun s => (.nx env, s)
variable (C : Orc)
noncomputable def cPar (n : Nat) (ts vs : List Expr) (names : List Str) (c : Ct) : Option DS := match ts, names with
  | [.Name x _, .Name y _], [x', y'] => if decide (x = x') && decide (y = y') && decide (vs.length = 2) && decide (c.sc.names.lookup x = some .local) && decide (c.sc.names.lookup y = some .local) then
      (ixS c.N x).bind fun i => (ixS c.N y).bind fun j => if decide (i ≠ j) then (cA C n vs c).map fun fa => sPar2 i j fa else none else none
  | [.Name x _, .Name y _, .Name z _], [x', y', z'] => if decide (x = x') && decide (y = y') && decide (z = z') && decide (vs.length = 3) && decide (c.sc.names.lookup x = some .local) && decide (c.sc.names.lookup y = some .local) && decide (c.sc.names.lookup z = some .local) then
      (ixS c.N x).bind fun i => (ixS c.N y).bind fun j => (ixS c.N z).bind fun l => if decide (i ≠ j) && decide (i ≠ l) && decide (j ≠ l) then (cA C n vs c).map fun fa => sPar3 i j l fa else none else none
  | _, _ => none
noncomputable def cAsg (n : Nat) (tg e : Expr) (c : Ct) : Option DS := match tg with
  | .Name x px => if locB c x then (ixS c.N x).bind fun i => (match e with
      | .ListComp elt [⟨tg', iter, ifs, 0⟩] scope lpos => (cLc C n elt tg' iter ifs scope lpos c).map fun q => sAsg q.2 (gN i)
      | e => if isComp e then none else (cE C n e c).map fun f => sAsg f (gN i)) else none
  | .Tuple ts _ _ => (match e with
      | .Tuple vs _ _ => (swapP c.sc ts vs).bind fun sw => (match sw with
        | some names => cPar C n ts vs names c
        | none => (cE C n e c).bind fun f => (cG C n tg c).map fun g => sAsg f g.2)
      | e => (cE C n e c).bind fun f => (cG C n tg c).map fun g => sAsg f g.2)
  | .Subscript _ _ _ => (cE C n e c).bind fun f => (cG C n tg c).map fun g => sAsg f g.2
  | _ => none
mutual
noncomputable def cS : Nat → Stmt → Ct → Option DS
  | 0, _, _ => none
  | n + 1, s, c => match s with
    | .Expr e _ => if isDoc e then some sNil else if isComp e then none else (cE C n e c).map fun f => sExpr f
    | .Return (some e) _ => (cE C n e c).map fun f => sRet f
    | .Return none _ => some sRetN
    | .Pass _ => some sNil
    | .Break _ => some sBrk
    | .Continue _ => some sCt
    | .If t a b _ => (cT C n t c).bind fun ft => (cSs n a c).bind fun fa => (cSs n b c).map fun fb => sIf ft fa fb
    | .Assign [tg] e _ => cAsg C n tg e c
    | .AugAssign (.Name x _) op e _ => if locB c x then (ixS c.N x).bind fun i => (augD op).bind fun o => (cE C n e c).map fun f => sAug i o f else none
    | .AugAssign (.Subscript o i _) op e _ => if plainE i then (augD op).bind fun oo => (cE C n o c).bind fun fo => (cE C n i c).bind fun fi => (cE C n e c).map fun f => sAugS oo fo fi f else none
    | .For tg iter body [] _ => if plainE iter then (cI C n tg iter c).bind fun fi => (cG C n tg c).bind fun g => (cSs n body c).map fun fb => sFor fi g.2 fb else none
    | .While t body [] _ => (cT C n t c).bind fun ft => (cSs n body c).map fun fb => whileL ft fb fuelW
    | _ => none
noncomputable def cSs : Nat → List Stmt → Ct → Option DS
  | 0, _, _ => none
  | n + 1, ss, c => match ss with
    | [] => some sNil
    | s :: ss => (cSs n ss c).map fun b => sSeq ((cS n s c).getD sStuck) b
end

/-! ### soundness -/
section
variable {X : Cx}
theorem get_list : PGet X (rIxL X.K) := by
  rintro pins s σ H _ _ ov iv Q I ro ri ⟨p, xs, i, z, rfl, rfl, sq, at', q⟩
  cases ro
  obtain ⟨tk, rfl⟩ := ri
  obtain ⟨us, vals, plain, _⟩ := I.list sq
  obtain ⟨j, jx, jv, _, jn, jp⟩ := atI_get at'
  obtain ⟨u, uj, ru⟩ := vals.get jv
  have lens := vals.length
  have big := line63
  have done : EP X pins σ Q u s := ⟨z, H, I, ru, q⟩
  rcases Int.lt_or_le i 0 with neg | pos
  · have e := seqIndex_neg neg jn
    rw [e] at jx
    have ej : (i + (us.toArray.size : Int)).toNat = j := by
      rw [List.size_toArray, ← lens]
      exact Option.some.inj jx
    exact wpAny_getItem_list_neg plain.isList neg (by rw [List.size_toArray]; omega) (by omega) (by rw [ej]; simpa using uj) done
  · have e := seqIndex_of pos jp
    rw [e] at jx
    have ej : i.toNat = j := Option.some.inj jx
    exact wpAny_getItem_list plain.isList pos (by omega) (by rw [ej]; simpa using uj) done
theorem pip_of {op : Operator} {r : R2} (h : OpR X (inplaceOp op) r) : PIp X op r := h
end
section
variable {C} {K : Fg}
theorem od_mulI : OpD K oMulI (rI CMul fun i j => .int (i * j)) := by
  intro r m st H dx dy d x y Q g hx hy e q
  unfold oMulI at e
  split at e
  · split at e
    · next i j hc =>
      cases e; cases hx; cases hy
      refine ⟨_, _, rfl, rfl, ?_, q m H _ (Le.refl m H) g rfl⟩
      unfold mulOk at hc
      rcases Bool.or_eq_true_iff.mp hc with h | h
      · exact .inl (natAbs64 (of_decide_eq_true h))
      · exact .inr (natAbs64 (of_decide_eq_true h))
    · cases e
  · cases e
theorem od_addI : OpD K oAddI (rI0 fun i j => .int (i + j)) := by
  intro r m st H dx dy d x y Q g hx hy e q
  unfold oAddI at e
  split at e
  · cases e; cases hx; cases hy
    exact ⟨_, _, rfl, rfl, q m H _ (Le.refl m H) g rfl⟩
  · cases e
theorem swap_ok {env : Env} {sc : Scope} (he : env.scope = sc) (hk : sc.kind = .function) {ts vs : List Expr} {r : Option (List Str)} (h : swapP sc ts vs = some r) {k1 k2 : Nat} {p1 p2 : Pos} :
    swappedStores [.Tuple ts k1 p1] (.Tuple vs k2 p2) env = pure r := by
  have hb : (env.blockKind != .function) = false := by
    unfold Env.blockKind
    rw [he, hk]
    rfl
  have hn : ∀ id, env.kindOf id = sc.names.lookup id := fun id => by
    unfold Env.kindOf
    rw [he]
  unfold swapP at h
  unfold swappedStores
  simp only [hb, Bool.or_false, hn]
  split at h
  · next h1 => cases h; exact if_pos h1
  · next h1 =>
    refine (if_neg h1).trans ?_
    split at h
    · next h2 => cases h; exact if_pos h2
    · next h2 =>
      refine (if_neg h2).trans ?_
      dsimp only at h
      split at h
      · next h3 => cases h; exact if_pos h3
      · next h3 =>
        refine (if_neg h3).trans ?_
        split at h
        · next h4 => cases h; exact if_pos h4
        · next h4 =>
          refine (if_neg h4).trans ?_
          split at h
          · cases h
          · next h5 => cases h; exact if_neg h5
theorem s_par2 {i j : Nat} {fa : DA} {D : Ends} {σ : L2.St} {H : Hp} (h : tS K (sPar2 i j fa) D σ H) : tPar i j (tAr K fa) D σ H := by
  obtain ⟨r, m, st, env, fl, st', g, e, f, q⟩ := h
  unfold sPar2 sAsg eTup at f
  obtain ⟨⟨x, s1⟩, f1, f⟩ := Option.bind_eq_some_iff.mp f
  obtain ⟨⟨ds, s2⟩, f2, f1⟩ := Option.bind_eq_some_iff.mp f1
  cases f1
  obtain ⟨⟨e2, s3⟩, f3, f⟩ := Option.bind_eq_some_iff.mp f
  cases f
  refine ⟨r, m, st, env, ds, _, g, e, f2, fun m1 H1 vs l1 g1 d1 => ?_⟩
  match ds, d1, f3 with
  | [a, b], d1, f3 =>
    obtain ⟨v, t1, rfl, da, w, t2, rfl, db, dn⟩ := d1
    cases dn
    cases f3
    exact ⟨v, w, rfl, q m1 H1 _ l1 g1 (((e.mono l1).set da).set db)⟩
  | [], d1, f3 => simp [gT] at f3
  | [a], d1, f3 => simp [gT] at f3
  | a :: b :: c :: t, d1, f3 => simp [gT] at f3
theorem s_par3 {i j l : Nat} {fa : DA} {D : Ends} {σ : L2.St} {H : Hp} (h : tS K (sPar3 i j l fa) D σ H) : tPar3 i j l (tAr K fa) D σ H := by
  obtain ⟨r, m, st, env, fl, st', g, e, f, q⟩ := h
  unfold sPar3 sAsg eTup at f
  obtain ⟨⟨x, s1⟩, f1, f⟩ := Option.bind_eq_some_iff.mp f
  obtain ⟨⟨ds, s2⟩, f2, f1⟩ := Option.bind_eq_some_iff.mp f1
  cases f1
  obtain ⟨⟨e2, s3⟩, f3, f⟩ := Option.bind_eq_some_iff.mp f
  cases f
  refine ⟨r, m, st, env, ds, _, g, e, f2, fun m1 H1 vs l1 g1 d1 => ?_⟩
  match ds, d1, f3 with
  | [a, b, c], d1, f3 =>
    obtain ⟨v, t1, rfl, da, w, t2, rfl, db, z, t3, rfl, dc, dn⟩ := d1
    cases dn
    cases f3
    exact ⟨v, w, z, rfl, q m1 H1 _ l1 g1 ((((e.mono l1).set da).set db).set dc)⟩
  | [], d1, f3 => simp [gT] at f3
  | [a], d1, f3 => simp [gT] at f3
  | [a, b], d1, f3 => simp [gT] at f3
  | a :: b :: c :: d :: t, d1, f3 => simp [gT] at f3
theorem loc_ok {k : Nat} {c : Ct} {X : Cx} (S : Stat C k c X) {x : Str} (hl : locB c x = true) : Loc X.env.scope x ∧ (X.fn x = true ∨ X.env.scope.names.lookup x = some .local) := by
  unfold locB at hl
  rw [← S.sc, ← S.fn] at hl
  split at hl
  · next q => exact ⟨.inl q, .inr q⟩
  · next q => exact ⟨.inr q, .inl hl⟩
  · cases hl
theorem par_ok {n k : Nat} {c : Ct} {X : Cx} (S : Stat C k c X) {ts vs : List Expr} {names : List Str} {f : DS} {k1 k2 : Nat} {p1 p2 pos : Pos} (hw : swapP c.sc ts vs = some (some names)) (h : cPar C n ts vs names c = some f) :
    PS X (.Assign [.Tuple ts k1 p1] (.Tuple vs k2 p2) pos) (tS X.K f) := by
  have hsw := swap_ok (k1 := k1) (k2 := k2) (p1 := p1) (p2 := p2) S.sc S.kind hw
  unfold cPar at h
  split at h
  · split at h
    · next hc =>
      simp only [Bool.and_eq_true, decide_eq_true_eq] at hc
      obtain ⟨⟨⟨⟨rfl, rfl⟩, hl⟩, hx⟩, hy⟩ := hc
      obtain ⟨i, hi, h⟩ := Option.bind_eq_some_iff.mp h
      obtain ⟨j, hj, h⟩ := Option.bind_eq_some_iff.mp h
      split at h
      · next hij =>
        obtain ⟨fa, h1, h⟩ := Option.map_eq_some_iff.mp h
        cases h
        obtain ⟨q1, p1, l1⟩ := (sound C n).A _ _ _ _ _ S h1
        match vs, hl, q1, hsw with
        | [a, b], _, q1, hsw =>
          exact ps_imp (ps_par S.calm S.ndX (S.at_ hi) (S.at_ hj) (of_decide_eq_true hij) (by rw [S.sc]; exact hx) (by rw [S.sc]; exact hy) q1 hsw rfl) fun _ _ _ => s_par2
      · cases h
    · cases h
  · split at h
    · next hc =>
      simp only [Bool.and_eq_true, decide_eq_true_eq] at hc
      obtain ⟨⟨⟨⟨⟨⟨rfl, rfl⟩, rfl⟩, hl⟩, hx⟩, hy⟩, hz⟩ := hc
      obtain ⟨i, hi, h⟩ := Option.bind_eq_some_iff.mp h
      obtain ⟨j, hj, h⟩ := Option.bind_eq_some_iff.mp h
      obtain ⟨l, hl2, h⟩ := Option.bind_eq_some_iff.mp h
      split at h
      · next hij =>
        simp only [Bool.and_eq_true, decide_eq_true_eq] at hij
        obtain ⟨fa, h1, h⟩ := Option.map_eq_some_iff.mp h
        cases h
        obtain ⟨q1, p1, l1⟩ := (sound C n).A _ _ _ _ _ S h1
        match vs, hl, q1, hsw with
        | [a, b, c], _, q1, hsw =>
          exact ps_imp (ps_par3 S.calm S.ndX (S.at_ hi) (S.at_ hj) (S.at_ hl2) hij.1.1 hij.1.2 hij.2 (by rw [S.sc]; exact hx) (by rw [S.sc]; exact hy) (by rw [S.sc]; exact hz) q1 hsw rfl) fun _ _ _ => s_par3
      · cases h
    · cases h
  · cases h
theorem each_one {e : Expr} (h : plainE e = true) (env : Env) : (assignEach [e] env).map (·.2) = [assign e env] := by
  rw [plain_each h]
  rfl
theorem noSwap_ne {e tg : Expr} (h : ∀ x p, tg ≠ .Name x p) (l : Nat) (env : Env) : swapsWithSole [tg] e l env = pure false := by
  show swapsWith e (some tg) l env = pure false
  cases hc : isComp e with
  | false => exact comp_noswap hc _ _ _
  | true =>
    cases e with
    | ListComp _ _ _ _ =>
      cases tg with
      | Name x p => exact absurd rfl (h x p)
      | _ => rfl
    | SetComp _ _ _ _ =>
      cases tg with
      | Name x p => exact absurd rfl (h x p)
      | _ => rfl
    | DictComp _ _ _ _ _ =>
      cases tg with
      | Name x p => exact absurd rfl (h x p)
      | _ => rfl
    | _ => cases hc
def env_fn (X : Cx) : Prop := X.env.blockKind = .function
theorem asg_ok {n k : Nat} {c : Ct} {X : Cx} (S : Stat C k c X) {tg e : Expr} {f : DS} {pos : Pos} (h : cAsg C n tg e c = some f) : PS X (.Assign [tg] e pos) (tS X.K f) := by
  unfold cAsg at h
  split at h
  · next x px =>
    split at h
    · next hl =>
      obtain ⟨l1, l2⟩ := loc_ok S hl
      obtain ⟨i, hi, h⟩ := Option.bind_eq_some_iff.mp h
      split at h
      · next elt tg' iter ifs scope lpos _ =>
        obtain ⟨q, h1, h⟩ := Option.map_eq_some_iff.mp h
        cases h
        obtain ⟨a1, a2⟩ := (sound C n).Lc _ _ _ _ _ _ _ _ _ _ S h1
        have hb : env_fn X := by
          unfold env_fn Env.blockKind
          rw [S.sc, S.kind]
          rfl
        have sw : swapsWith (.ListComp elt [⟨tg', iter, ifs, 0⟩] scope lpos) (some (.Name x px)) pos.line X.env = pure (swB X.env.scope scope x px lpos) := by
          unfold swapsWith swB
          simp only [show X.env.blockKind = .function from hb]
          rfl
        by_cases hs : swB X.env.scope scope x px lpos = true
        · rw [hs] at sw
          unfold swB at hs
          simp only [Bool.and_eq_true] at hs
          exact ps_imp (a2 i x px pos (S.at_ hi) (eq_of_beq hs.1.1) sw) fun D σ H hh => (by
            obtain ⟨r, m, st, env, d, st', g, e, f, q⟩ := s_asg (ws := [i]) hh
            exact ⟨r, m, st, env, d, st', g, e, f, fun m1 H1 v l g1 d1 => g_name (q m1 H1 v l g1 d1)⟩)
        · rw [Bool.not_eq_true] at hs
          rw [hs] at sw
          exact ps_imp (ps_set S.ndX (S.at_ hi) l1 a1 sw l2) fun D σ H hh => (by
            obtain ⟨r, m, st, env, d, st', g, e, f, q⟩ := s_asg (ws := [i]) hh
            exact ⟨r, m, st, env, d, st', g, e, f, fun m1 H1 v l g1 d1 => g_name (q m1 H1 v l g1 d1)⟩)
      · split at h
        · cases h
        · next hc =>
          obtain ⟨fe, h1, h⟩ := Option.map_eq_some_iff.mp h
          cases h
          exact ps_imp (ps_set S.ndX (S.at_ hi) l1 ((sound C n).E _ _ _ _ _ S h1).1 (comp_noswap (by simpa using hc) _ _ _) l2) fun D σ H hh => (by
            obtain ⟨r, m, st, env, d, st', g, e, f, q⟩ := s_asg (ws := [i]) hh
            exact ⟨r, m, st, env, d, st', g, e, f, fun m1 H1 v l g1 d1 => g_name (q m1 H1 v l g1 d1)⟩)
    · cases h
  · next ts k1 p1 =>
    split at h
    · next vs k2 p2 =>
      obtain ⟨sw, hsw, h⟩ := Option.bind_eq_some_iff.mp h
      split at h
      · exact par_ok S hsw h
      · obtain ⟨fe, h1, h⟩ := Option.bind_eq_some_iff.mp h
        obtain ⟨g, h2, h⟩ := Option.map_eq_some_iff.mp h
        cases h
        obtain ⟨q2, p2⟩ := (sound C n).G _ _ _ _ _ S h2
        exact ps_imp (ps_asg ((sound C n).E _ _ _ _ _ S h1).1 q2 (noSwap_ne (fun _ _ z => by cases z) _ _) (swap_ok S.sc S.kind hsw) (each_one p2 _)) fun _ _ _ => s_asg
    · next hnt =>
      obtain ⟨fe, h1, h⟩ := Option.bind_eq_some_iff.mp h
      obtain ⟨g, h2, h⟩ := Option.map_eq_some_iff.mp h
      cases h
      obtain ⟨q2, p2⟩ := (sound C n).G _ _ _ _ _ S h2
      refine ps_imp (ps_asg ((sound C n).E _ _ _ _ _ S h1).1 q2 (noSwap_ne (fun _ _ z => by cases z) _ _) ?_ (each_one p2 _)) fun _ _ _ => s_asg
      unfold swappedStores
      cases e with
      | Tuple vs k2 p2 => exact absurd rfl (hnt vs k2 p2)
      | _ => rfl
  · obtain ⟨fe, h1, h⟩ := Option.bind_eq_some_iff.mp h
    obtain ⟨g, h2, h⟩ := Option.map_eq_some_iff.mp h
    cases h
    obtain ⟨q2, p2⟩ := (sound C n).G _ _ _ _ _ S h2
    exact ps_imp (ps_asg ((sound C n).E _ _ _ _ _ S h1).1 q2 (noSwap_ne (fun _ _ z => by cases z) _ _) rfl (each_one p2 _)) fun _ _ _ => s_asg
  · cases h
theorem s_augS {o : Sto → D → D → Option D} {rr : R2} (ho : OpD K o rr) {fo fi fe : DE} {D : Ends} {σ : L2.St} {H : Hp} (h : tS K (sAugS o fo fi fe) D σ H) : tAugS (tE K fo) (tE K fi) (tE K fe) (rIxL K) rr rSetL D σ H := by
  obtain ⟨r, m, st, env, fl, st', g, e, f, q⟩ := h
  unfold sAugS at f
  obtain ⟨⟨x, s1⟩, f1, f⟩ := Option.bind_eq_some_iff.mp f
  obtain ⟨⟨y, s2⟩, f2, f⟩ := Option.bind_eq_some_iff.mp f
  obtain ⟨z, f3, f⟩ := Option.bind_eq_some_iff.mp f
  obtain ⟨⟨u, s3⟩, f4, f⟩ := Option.bind_eq_some_iff.mp f
  obtain ⟨d, f5, f⟩ := Option.bind_eq_some_iff.mp f
  obtain ⟨s4, f6, f⟩ := Option.map_eq_some_iff.mp f
  cases f
  have f3 : oIx s2 x y = some z := f3
  have f5 : o s3 z u = some d := f5
  have f6 : setC s3 x y d = some _ := f6
  have hx : ∃ n k, x = .loc n ∧ y = .int k := by
    unfold setC at f6
    split at f6
    · exact ⟨_, _, rfl, rfl⟩
    · cases f6
  obtain ⟨n, k, rfl, rfl⟩ := hx
  refine ⟨r, m, st, env, _, s1, g, e, f1, fun m1 H1 v1 l1 g1 d1 => ?_⟩
  refine ⟨r, m1, s1, env, _, s2, g1, e.mono l1, f2, fun m2 H2 v2 l2 g2 d2 => ?_⟩
  obtain ⟨xs, e1, e2⟩ := Option.bind_eq_some_iff.mp (show (s2[n]?).bind (fun xs => atI xs k) = some z from f3)
  have d1' := d1.mono l2
  obtain ⟨a, rfl, ha⟩ := d1
  cases d2
  obtain ⟨vs, h1, zz, ds⟩ := g2.cell n a xs (l2.at ha) e1
  obtain ⟨w, ew, dw⟩ := at_den ds e2
  refine ⟨a, vs, k, w, rfl, rfl, SqL.of h1, ew, ?_⟩
  refine ⟨r, m2, s2, env, u, s3, g2, e.mono (l1.trans l2), f4, fun m3 H3 v3 l3 g3 d3 => ?_⟩
  refine ho r m3 s3 H3 z u d w v3 _ g3 (dw.mono l3) d3 f5 fun m4 H4 v4 l4 g4 d4 => ?_
  exact set_cell (i := .int k) g4 ((d1'.mono l3).mono l4) rfl d4 f6 fun H5 l5 g5 => q m4 H5 σ ((((l1.trans l2).trans l3).trans l4).trans l5) g5 (e.mono ((((l1.trans l2).trans l3).trans l4).trans l5))
theorem plain_aug {i : Expr} (h : plainE i = true) (ov iv new : Value) : augStore i ov iv new = (do holding [new, ov, iv] (setItem ov iv new); release [new, ov, iv] []; pure .next) := by
  cases i <;> first | rfl | cases h
theorem augs_ok {k : Nat} {c : Ct} {X : Cx} (S : Stat C k c X) {o i e : Expr} {op : Operator} {oo : Sto → D → D → Option D} {fo fi fe : DE} {tpos pos : Pos} (hp : plainE i = true) (ho : augD op = some oo) (h1 : PE X o (tE X.K fo)) (h2 : PE X i (tE X.K fi)) (h3 : PE X e (tE X.K fe)) :
    PS X (.AugAssign (.Subscript o i tpos) op e pos) (tS X.K (sAugS oo fo fi fe)) := by
  cases op with
  | Add => cases ho; exact ps_imp (ps_augS h1 h2 get_list h3 (pip_of iop_add) set_list (plain_aug hp)) fun _ _ _ => s_augS od_addI
  | Sub => cases ho; exact ps_imp (ps_augS h1 h2 get_list h3 (pip_of iop_sub) set_list (plain_aug hp)) fun _ _ _ => s_augS od_sub
  | Mult => cases ho; exact ps_imp (ps_augS h1 h2 get_list h3 (pip_of iop_mul) set_list (plain_aug hp)) fun _ _ _ => s_augS od_mulI
  | _ => cases ho
end
end Tg
/-! Statements are sound; defs by levels; the law. -/
namespace Tg
open PySem PySem.Spec PyProof.Rows L2

theorem soundS (C : Orc) : ∀ n, (∀ s c f k X, Stat C k c X → cS C n s c = some f → PS X s (tS X.K f)) ∧ (∀ ss c f k X, Stat C k c X → cSs C n ss c = some f → PSs X ss (tS X.K f)) := by
  intro n
  induction n with
  | zero =>
    constructor
    · intro s c f k X S h; unfold cS at h; cases h
    · intro ss c f k X S h; unfold cSs at h; cases h
  | succ n ih =>
    obtain ⟨ihS, ihB⟩ := ih
    constructor
    · intro s c f k X S h
      unfold cS at h
      split at h
      · next e p =>
        split at h
        · next hd =>
          cases h
          unfold isDoc at hd
          split at hd
          · exact ps_imp ps_doc fun _ _ _ => s_nil
          · cases hd
        · split at h
          · cases h
          · next hc =>
            obtain ⟨fe, h1, h⟩ := Option.map_eq_some_iff.mp h
            cases h
            exact ps_imp (ps_expr ((sound C n).E _ _ _ _ _ S h1).1 (comp_noswap (by simpa using hc) _ _ _)) fun _ _ _ => s_expr
      · obtain ⟨fe, h1, h⟩ := Option.map_eq_some_iff.mp h
        cases h
        exact ps_imp (ps_ret ((sound C n).E _ _ _ _ _ S h1).1) fun _ _ _ => s_ret
      · cases h; exact ps_imp ps_retN fun _ _ _ => s_retN
      · cases h; exact ps_imp ps_pass fun _ _ _ => s_nil
      · cases h; exact ps_imp ps_break fun _ _ _ => s_brk
      · cases h; exact ps_imp ps_continue fun _ _ _ => s_ct
      · obtain ⟨ft, h1, h⟩ := Option.bind_eq_some_iff.mp h
        obtain ⟨fa, h2, h⟩ := Option.bind_eq_some_iff.mp h
        obtain ⟨fb, h3, h⟩ := Option.map_eq_some_iff.mp h
        cases h
        exact ps_imp (ps_if ((sound C n).T _ _ _ _ _ S h1) (ihB _ _ _ _ _ S h2) (ihB _ _ _ _ _ S h3)) fun _ _ _ => s_if
      · exact asg_ok S h
      · next x px op e p =>
        split at h
        · next hl =>
          obtain ⟨i, hi, h⟩ := Option.bind_eq_some_iff.mp h
          obtain ⟨o, ho, h⟩ := Option.bind_eq_some_iff.mp h
          obtain ⟨fe, h1, h⟩ := Option.map_eq_some_iff.mp h
          cases h
          obtain ⟨l1, l2⟩ := loc_ok S hl
          have hE := ((sound C n).E _ _ _ _ _ S h1).1
          cases op with
          | Add => cases ho; exact ps_imp (ps_aug S.ndX (S.at_ hi) l1 hE iop_add l2) fun _ _ _ => s_aug od_addI
          | Sub => cases ho; exact ps_imp (ps_aug S.ndX (S.at_ hi) l1 hE iop_sub l2) fun _ _ _ => s_aug od_sub
          | Mult => cases ho; exact ps_imp (ps_aug S.ndX (S.at_ hi) l1 hE iop_mul l2) fun _ _ _ => s_aug od_mulI
          | _ => cases ho
        · cases h
      · next o i tpos op e p =>
        split at h
        · next hp =>
          obtain ⟨oo, ho, h⟩ := Option.bind_eq_some_iff.mp h
          obtain ⟨fo, h1, h⟩ := Option.bind_eq_some_iff.mp h
          obtain ⟨fi, h2, h⟩ := Option.bind_eq_some_iff.mp h
          obtain ⟨fe, h3, h⟩ := Option.map_eq_some_iff.mp h
          cases h
          exact augs_ok S hp ho ((sound C n).E _ _ _ _ _ S h1).1 ((sound C n).E _ _ _ _ _ S h2).1 ((sound C n).E _ _ _ _ _ S h3).1
        · cases h
      · split at h
        · next hp =>
          obtain ⟨fi, h1, h⟩ := Option.bind_eq_some_iff.mp h
          obtain ⟨g, h2, h⟩ := Option.bind_eq_some_iff.mp h
          obtain ⟨fb, h3, h⟩ := Option.map_eq_some_iff.mp h
          cases h
          exact ps_imp (ps_for S.passes S.calm ((sound C n).I _ _ _ _ _ _ S h1) ((sound C n).G _ _ _ _ _ S h2).1 (ihB _ _ _ _ _ S h3) (plain_set hp _)) fun _ _ _ => s_for
        · cases h
      · obtain ⟨ft, h1, h⟩ := Option.bind_eq_some_iff.mp h
        obtain ⟨fb, h2, h⟩ := Option.map_eq_some_iff.mp h
        cases h
        exact ps_imp (ps_while S.passes ((sound C n).T _ _ _ _ _ S h1) (ihB _ _ _ _ _ S h2)) fun _ _ _ => s_while
      · cases h
    · intro ss c f k X S h
      unfold cSs at h
      split at h
      · cases h; exact pss_imp pss_nil fun _ _ _ => s_nil
      · next s ss =>
        obtain ⟨fb, h2, h⟩ := Option.map_eq_some_iff.mp h
        cases h
        cases h1 : cS C n s c with
        | some fa => exact pss_imp (pss_cons (ihS _ _ _ _ _ S h1) (ihB _ _ _ _ _ S h2)) fun _ _ _ => s_seq
        | none => exact ⟨fun pins s σ H D I w => by
            obtain ⟨r, m, st, env, fl, st', g, e, f, q⟩ := w
            cases f⟩

/-! ### defs -/
structure Fn where
  k : Nat
  n : Nat
  body : Orc → DS
def startE (n : Nat) (ds : List D) : En := ds.map some ++ List.replicate (n - ds.length) none
def runFn (f : Fn) (C : Orc) (ds : List D) (st : Sto) : Option (D × Sto) := if ds.length = f.k then (f.body C (startE f.n ds) st).bind fun p => match p.1 with
  | .rt d => some (d, p.2)
  | .nx _ => some (.non, p.2)
  | _ => none else none
def callN (F : String → Option Fn) : Nat → Orc
  | 0 => fun _ _ _ => none
  | n + 1 => fun x ds st => (F x).bind fun f => runFn f (callN F n) ds st
/-- a def of the text: its name, the name of its function, its statement, its names by slot, its parameters, where it makes cells -/
structure Df where
  x : Str
  id : String
  st : Stmt
  N : List Str
  ps : List Str
  mu : List (Nat × Nat)
/-- how deep the text may be nested -/
def fuelC : Nat := 300
structure DfOk (F : String → Option Fn) (glb : List (Str × Gv)) (blt : List Str) (d : Df) : Prop where
  sc : FnScope d.N d.ps (defScope d.st)
  comp : ∃ body, F d.id = some ⟨d.ps.length, d.N.length, body⟩ ∧ ∀ C, cSs C fuelC (defBody d.st) ⟨d.N, defScope d.st, fun _ => true, d.mu, glb, blt⟩ = some (body C)
structure TxtOk (K : Fg) (mg : Str → Option Value) (glb : List (Str × Gv)) (blt : List Str) (ds : List Df) : Prop where
  free : ∀ x ∈ blt, mg x = none
  csts : ∀ x d, glb.lookup x = some (.cst d) → ∃ u v, mg x = some u ∧ RelV v u ∧ ∀ r m H, Den K r m H d v
  defs : ∀ d ∈ ds, ∃ f fd, FunD K d.x d.x (defArgs d.st) (defBody d.st) (defScope d.st) [] [] f fd ∧ mg d.x = some (.ref f) ∧ Binds K fd d.ps []
  all : ∀ x id n, glb.lookup x = some (.fn id n) → ∃ d ∈ ds, d.x = x ∧ d.id = id ∧ d.ps.length = n
section
variable {P : Program} {w : World} {K : Fg} {mg : Str → Option Value} {base : Heap} {F : String → Option Fn} {glb : List (Str × Gv)} {blt : List Str} {ds : List Df}
theorem start_env {r m : List Addr} {H : Hp} {N : List Str} {as : List D} {vs : List V} (h : Dens K r m H as vs) : EnvR K r m H (startE N.length as) (L2.start N vs) := by
  unfold startE L2.start
  rw [h.len]
  constructor
  · simp [h.len]
  · intro i d e
    by_cases hi : i < as.length
    · rw [List.getElem?_append_left (by simpa using hi), List.getElem?_map] at e
      obtain ⟨x, e1, e2⟩ := Option.map_eq_some_iff.mp e
      cases e2
      obtain ⟨v, e3, q⟩ := h.get e1
      refine ⟨v, ?_, q⟩
      rw [List.getElem?_append_left (by rw [List.length_map, ← h.len]; exact hi), List.getElem?_map, e3]
      rfl
    · rw [List.getElem?_append_right (by simpa using hi), List.getElem?_replicate] at e
      split at e <;> cases e
theorem level (ok : ∀ d ∈ ds, DfOk F glb blt d) (T : TxtOk K mg glb blt ds) : ∀ n, ∀ d ∈ ds, ∀ f fd, FunD K d.x d.x (defArgs d.st) (defBody d.st) (defScope d.st) [] [] f fd →
    FnG P w K mg base n f fd d.ps (spC K (callN F n) d.id d.ps.length) := by
  intro n
  induction n with
  | zero =>
    intro d hd f fd hf
    refine ⟨fun vs H Q h => ?_, fun A outer s H args us vs Q _ _ _ _ _ h => ?_⟩
    · obtain ⟨r, m, st, as, e, st', hl, g, dd, hc, q⟩ := h
      cases hc
    · obtain ⟨r, m, st, as, e, st', hl, g, dd, hc, q⟩ := h
      cases hc
  | succ n ih =>
    intro d hd f fd hf
    obtain ⟨S, body, hF, hC⟩ := ok d hd
    refine fn_g hf S (fun vs H Q h => ?_) fun cdv A outer s H vs Q gd rm h => ?_
    · obtain ⟨r, m, st, as, e, st', hl, g, dd, hc, q⟩ := h
      rw [← dd.len]
      exact hl
    · obtain ⟨r, m, st, as, e, st', hl, g, dd, hc, q⟩ := h
      have stat : Stat (callN F n) n ⟨d.N, defScope d.st, fun _ => true, d.mu, glb, blt⟩ (cxOf CX0 P w K mg base d.N d.x (defScope d.st) f cdv A outer s H E0).nox := by
        refine ⟨rfl, S.nd, rfl, rfl, S.kind, rfl, gd, rm, rfl, T.free, fun x id j hx => ?_, T.csts⟩
        obtain ⟨d2, h1, rfl, rfl, rfl⟩ := T.all x id j hx
        obtain ⟨f2, fd2, a1, a2, a3⟩ := T.defs d2 h1
        exact ⟨f2, fd2, d2.ps, a2, a1.kp, a3, ih d2 h1 f2 fd2 a1⟩
      refine ⟨_, (soundS _ _).2 _ _ _ _ _ stat (hC _), ?_⟩
      unfold callN at hc
      rw [hF] at hc
      have hc : runFn ⟨d.ps.length, d.N.length, body⟩ (callN F n) as st = some (e, st') := hc
      unfold runFn at hc
      rw [if_pos hl] at hc
      obtain ⟨⟨fl, s2⟩, f1, f2⟩ := Option.bind_eq_some_iff.mp hc
      refine ⟨r, m, st, _, fl, s2, g, start_env dd, f1, ?_⟩
      cases fl with
      | rt d2 =>
        cases f2
        exact fun m1 H1 v l g1 d1 => q m1 H1 v l g1 d1
      | nx env =>
        cases f2
        exact fun m1 H1 σ l g1 _ => q m1 H1 _ l g1 rfl
      | bk env => cases f2
      | ct env => cases f2
end

/-! ### the law -/
theorem law_walk {l : PySem.W.OpenLaw} {n k : Nat} {q : Program} {loose : List Str} {XP : (Str → Option Value) → Heap → Prop} {YP : World → Heap → Prop} {d : DefRec} {F : String → Option Fn} {glb : List (Str × Gv)} {blt : List Str} {ds : List Df} {dl : Df} {x : Str}
    (hn : l.most = some n) (hn2 : n ≤ 1000) (hdf : d.params.defaults = []) (rm : Room k callerA) (hdl : dl ∈ ds) (hps : dl.ps = [x]) (hid : dl.id = "law") (hnm : d.name = dl.x)
    (ok : ∀ e ∈ ds, DfOk F glb blt e)
    (T : ∀ (w : World) (mg : Str → Option Value) (h : Heap), YP w h → h.Ns mainGlobals mg → ∃ K : Fg, K.In h ∧ TxtOk K mg glb blt ds)
    (main : ∀ ns : List Int, ns.length ≤ n → (∀ z ∈ ns, Builtin.Int.intBits z ≤ 1048576) → ∃ st', callN F k "law" [.scr (ns.map D.int)] [] = some (.bl true, st')) :
    PySem.W.WalkO q loose XP YP l.row.toRowW d [] (fun f vs => PySem.call f vs) := by
  refine Att.attach_callB hn hdf fun w s₀ s₁ mg mb fa o pm cd doc a vs ns G Y ho hd hcd hmg hobj hints hlen hbits hg => ?_
  obtain ⟨K, KX, t⟩ := T w mg _ Y G.T.g
  obtain ⟨f, fd, h1, h2, h3⟩ := t.defs dl hdl
  rw [hnm, h2] at hmg
  cases hmg
  obtain ⟨st', hm⟩ := main ns hlen hbits
  rw [hps] at h3
  have hb : BindsTo s₁ fd ⟨[.ref a], []⟩ [(x, .ref a)] := h3 s₁ [.ref a] KX rfl
  refine law_g (sp := spC K (callN F k) dl.id dl.ps.length) KX G.T.g G.T.b G.T.builtins G.T.nolimit hg hobj hints (Nat.le_trans hlen (Nat.le_trans hn2 (by decide))) rm (fun base kb nb => ?_) hb fun H hS => ?_
  · have := level (P := l.prog) (w := w) (base := base) ok t k dl hdl _ fd h1
    rw [hps] at this
    rw [hps]
    exact this
  · rw [hid, hps]
    refine ⟨[], [], [], [.scr (ns.map D.int)], .bl true, st', rfl, ⟨rfl, List.nodup_nil, fun _ z => (nomatch z), fun i a c e => by simp at e⟩, ?_, hm, fun m' H' v _ _ dv => dv⟩
    refine ⟨_, _, rfl, ⟨a, ns.map V.int, rfl, ?_, by rw [List.length_map]; exact Nat.le_trans hlen hn2, Dens.of_ints ns⟩, rfl⟩
    rcases hS with hS | hS
    · exact .inl ⟨hS, List.not_mem_nil, List.not_mem_nil⟩
    · exact .inr hS
end Tg
/-! What the head tells of the text, for any list of defs. -/
namespace Tg
open PySem PySem.Spec PyProof.Rows L2

def mkGlb (ds : List (Str × String × Nat)) (is : List (Str × Int)) (ss : List (Str × Str)) : List (Str × Gv) :=
  ds.map (fun d => (d.1, Gv.fn d.2.1 d.2.2)) ++ (is.map (fun p => (p.1, Gv.cst (.int p.2))) ++ ss.map fun p => (p.1, Gv.cst (.str p.2)))
def mkFa (ds : List (Str × String × Nat)) (is : List (Str × Int)) (ss : List (Str × Str)) (blt : List Str) : List He.Fa :=
  ds.map (fun d => He.Fa.glo d.1) ++ (is.map (fun p => He.Fa.int p.1 p.2) ++ (ss.map (fun p => He.Fa.str p.1 p.2) ++ blt.map He.Fa.free))
def mkFn (ds : List Df) : List He.DefD := ds.map fun d => ⟨(d.x, none), d.x, d.x, defArgs d.st, defBody d.st, defScope d.st, [], []⟩
def Bnd (d : Df) : Prop := ∀ (K : Fg) (f : Addr) (fd : FuncData), FunD K d.x d.x (defArgs d.st) (defBody d.st) (defScope d.st) [] [] f fd → Binds K fd d.ps []
theorem says_mem {fa : List He.Fa} {fn : List He.DefD} {K : Fg} (c : He.SaysD fa fn K) {f : He.Fa} (h : f ∈ fa) : f.ok K = true := by
  obtain ⟨i, e⟩ := List.getElem?_of_mem h
  exact c.fact i e
theorem txt_ok {K : Fg} {h : Heap} {mg : Str → Option Value} {ds : List Df} {is : List (Str × Int)} {ss : List (Str × Str)} {blt : List Str} {tb : List (Str × String × Nat)} (hb : ∀ d ∈ ds, Bnd d) (ht : tb = ds.map fun d => (d.x, d.id, d.ps.length))
    (X : K.In h) (G : h.Ns mainGlobals mg) (c : He.SaysD (mkFa tb is ss blt) (mkFn ds) K) : TxtOk K mg (mkGlb tb is ss) blt ds := by
  subst ht
  refine ⟨fun x hx => ?_, fun x d hx => ?_, fun d hd => ?_, fun x id n hx => ?_⟩
  · exact He.free_ok X G (says_mem c (List.mem_append_right _ (List.mem_append_right _ (List.mem_append_right _ (List.mem_map.mpr ⟨x, hx, rfl⟩)))))
  · have hm := PySem.mem_of_lookup hx
    rcases List.mem_append.mp hm with hm | hm
    · obtain ⟨d2, _, e⟩ := List.mem_map.mp hm
      cases e
    · rcases List.mem_append.mp hm with hm | hm
      · obtain ⟨p, hp, e⟩ := List.mem_map.mp hm
        cases e
        obtain ⟨t, e⟩ := He.int_ok X G (says_mem c (f := .int p.1 p.2) (List.mem_append_right _ (List.mem_append_left _ (List.mem_map.mpr ⟨p, hp, rfl⟩))))
        exact ⟨_, .int p.2, e, ⟨t, rfl⟩, fun _ _ _ => rfl⟩
      · obtain ⟨p, hp, e⟩ := List.mem_map.mp hm
        cases e
        obtain ⟨t, e⟩ := He.str_ok X G (says_mem c (f := .str p.1 p.2) (List.mem_append_right _ (List.mem_append_right _ (List.mem_append_left _ (List.mem_map.mpr ⟨p, hp, rfl⟩)))))
        exact ⟨_, .str p.2, e, ⟨t, rfl⟩, fun _ _ _ => rfl⟩
  · obtain ⟨i, e⟩ := List.getElem?_of_mem hd
    obtain ⟨fd, F⟩ := c.def_ i (d := ⟨(d.x, none), d.x, d.x, defArgs d.st, defBody d.st, defScope d.st, [], []⟩) (by
      unfold mkFn
      rw [List.getElem?_map, e]
      rfl)
    refine ⟨_, fd, F, ?_, hb d hd K _ fd F⟩
    exact He.glo_ok X G (says_mem c (f := .glo d.x) (List.mem_append_left _ (List.mem_map.mpr ⟨_, List.mem_map.mpr ⟨d, hd, rfl⟩, rfl⟩)))
  · have hm := PySem.mem_of_lookup hx
    rcases List.mem_append.mp hm with hm | hm
    · obtain ⟨t, ht, e⟩ := List.mem_map.mp hm
      obtain ⟨d2, hd, rfl⟩ := List.mem_map.mp ht
      cases e
      exact ⟨d2, hd, rfl, rfl, rfl⟩
    · rcases List.mem_append.mp hm with hm | hm
      · obtain ⟨p, hp, e⟩ := List.mem_map.mp hm
        cases e
      · obtain ⟨p, hp, e⟩ := List.mem_map.mp hm
        cases e
end Tg
/-! Running the functions on data step by step: equations in the order of evaluation. -/
namespace Tg
open PySem PySem.Spec PyProof.Rows L2

section
def kVar (st : Sto) : Option (Option D) → Option (D × Sto)
  | some (some d) => some (d, st)
  | _ => none
def mk2 (s : Sto) (d : D) : D × Sto := (d, s)
def kOp (o : Sto → D → D → Option D) (fb : DE) (env : En) (p : D × Sto) : Option (D × Sto) := (fb env p.2).bind fun q => (o q.2 p.1 q.1).map fun d => (d, q.2)
def kOp2 (o : Sto → D → D → Option D) (x : D) (q : D × Sto) : Option (D × Sto) := (o q.2 x q.1).map fun d => (d, q.2)
def kUn (o : D → Option D) (p : D × Sto) : Option (D × Sto) := (o p.1).map fun d => (d, p.2)
def kA (fr : DA) (env : En) (p : D × Sto) : Option (List D × Sto) := (fr env p.2).bind fun q => some (p.1 :: q.1, q.2)
def kA2 (x : D) (q : List D × Sto) : Option (List D × Sto) := some (x :: q.1, q.2)
def kBlt (g : Sto → List D → Option D) (p : List D × Sto) : Option (D × Sto) := (g p.2 p.1).map fun d => (d, p.2)
def kNew (g : Sto → List D → Option (List D)) (p : List D × Sto) : Option (D × Sto) := (g p.2 p.1).map fun c => (.loc p.2.length, p.2 ++ [c])
def kNew2 (s : Sto) (c : List D) : D × Sto := (.loc s.length, s ++ [c])
def kCall (C : Orc) (x : String) (p : List D × Sto) : Option (D × Sto) := C x p.1 p.2
def kTup (p : List D × Sto) : Option (D × Sto) := some (.tup p.1, p.2)
def kLst (p : List D × Sto) : Option (D × Sto) := some (.lst p.1, p.2)
def kMLst (p : List D × Sto) : Option (D × Sto) := some (.loc p.2.length, p.2 ++ [p.1])
def kIf (fa fb : DE) (env : En) (p : Bool × Sto) : Option (D × Sto) := if p.1 then fa env p.2 else fb env p.2
def kAnd (fb : DE) (env : En) (p : D × Sto) : Option (D × Sto) := match p.1 with
  | .bl true => fb env p.2
  | .bl false => some (.bl false, p.2)
  | _ => none
def kOr (fb : DE) (env : En) (p : D × Sto) : Option (D × Sto) := match p.1 with
  | .bl true => some (.bl true, p.2)
  | .bl false => fb env p.2
  | _ => none
def kNot (p : D × Sto) : Option (D × Sto) := match p.1 with
  | .bl b => some (.bl (!b), p.2)
  | _ => none
def kBv (p : D × Sto) : Option (Bool × Sto) := match p.1 with
  | .bl b => some (b, p.2)
  | _ => none
def kBand (fb : DB) (env : En) (p : Bool × Sto) : Option (Bool × Sto) := if p.1 then fb env p.2 else some (false, p.2)
def kBor (fb : DB) (env : En) (p : Bool × Sto) : Option (Bool × Sto) := if p.1 then some (true, p.2) else fb env p.2
def kBnot (p : Bool × Sto) : Option (Bool × Sto) := some (!p.1, p.2)
def kSl (fl fh : DO) (env : En) (p : D × Sto) : Option (D × Sto) := (fl env p.2).bind fun l => (fh env l.2).bind fun u => (sliceD u.2 l.1 u.1 p.1).map fun d => (d, u.2)
def kSl2 (fh : DO) (env : En) (x : D) (l : Option Int × Sto) : Option (D × Sto) := (fh env l.2).bind fun u => (sliceD u.2 l.1 u.1 x).map fun d => (d, u.2)
def kSl3 (x : D) (l : Option Int) (u : Option Int × Sto) : Option (D × Sto) := (sliceD u.2 l u.1 x).map fun d => (d, u.2)
def kSo (p : D × Sto) : Option (Option Int × Sto) := match p.1 with
  | .int i => some (some i, p.2)
  | _ => none
def kApp (fa : DE) (env : En) (p : D × Sto) : Option (D × Sto) := (fa env p.2).bind fun q => match p.1 with
  | .loc n => (q.2[n]?).bind fun xs => if fits xs.length then some (.non, q.2.set n (xs ++ [q.1])) else none
  | _ => none
def kApp2 (o : D) (q : D × Sto) : Option (D × Sto) := match o with
  | .loc n => (q.2[n]?).bind fun xs => if fits xs.length then some (.non, q.2.set n (xs ++ [q.1])) else none
  | _ => none
def kCh (o o' : Sto → D → D → Option D) (fb fc : DE) (env : En) (p : D × Sto) : Option (D × Sto) := (fb env p.2).bind fun q => (o q.2 p.1 q.1).bind fun z => match z with
    | .bl true => (fc env q.2).bind fun r => (o' r.2 q.1 r.1).map fun d => (d, r.2)
    | .bl false => some (.bl false, q.2)
    | _ => none
def kCh2 (o o' : Sto → D → D → Option D) (fc : DE) (env : En) (x : D) (q : D × Sto) : Option (D × Sto) := (o q.2 x q.1).bind fun z => match z with
    | .bl true => (fc env q.2).bind fun r => (o' r.2 q.1 r.1).map fun d => (d, r.2)
    | .bl false => some (.bl false, q.2)
    | _ => none
def kCh3 (o' : Sto → D → D → Option D) (fc : DE) (env : En) (y : D) (s : Sto) (z : D) : Option (D × Sto) := match z with
    | .bl true => (fc env s).bind fun r => (o' r.2 y r.1).map fun d => (d, r.2)
    | .bl false => some (.bl false, s)
    | _ => none
def kSeq (b : DS) (p : Fl × Sto) : Option (Fl × Sto) := match p.1 with
  | .nx env' => b env' p.2
  | f => some (f, p.2)
def kDrop (env : En) (p : D × Sto) : Option (Fl × Sto) := some (.nx env, p.2)
def kRet (p : D × Sto) : Option (Fl × Sto) := some (.rt p.1, p.2)
def kSif (a b : DS) (env : En) (p : Bool × Sto) : Option (Fl × Sto) := if p.1 then a env p.2 else b env p.2
def kAsg (g : DG) (env : En) (p : D × Sto) : Option (Fl × Sto) := (g p.1 env p.2).bind fun q => some (.nx q.1, q.2)
def kNx (q : En × Sto) : Option (Fl × Sto) := some (.nx q.1, q.2)
def kGs (g : DGs) (r : List D) (p : En × Sto) : Option (En × Sto) := g r p.1 p.2
def kSb (fi : DE) (d : D) (env : En) (p : D × Sto) : Option (En × Sto) := (fi env p.2).bind fun q => (setC q.2 p.1 q.1 d).map fun s => (env, s)
def kSb2 (o d : D) (env : En) (q : D × Sto) : Option (En × Sto) := (setC q.2 o q.1 d).map fun s => (env, s)
def kEs (env : En) (s : Sto) : En × Sto := (env, s)
def kFor (tg : DG) (body : DS) (env : En) (p : ((Sto → Bool) × List D) × Sto) : Option (Fl × Sto) := forL p.1.1 tg body p.1.2 env p.2
def kLc (tg : DG) (ifs : DB) (elt : DE) (env : En) (p : ((Sto → Bool) × List D) × Sto) : Option (D × Sto) := (lcL p.1.1 tg ifs elt env p.1.2 p.2).map fun q => (.lst q.1, q.2)
def kMLc (tg : DG) (ifs : DB) (elt : DE) (env : En) (p : ((Sto → Bool) × List D) × Sto) : Option (D × Sto) := (lcL p.1.1 tg ifs elt env p.1.2 p.2).map fun q => (.loc q.2.length, q.2 ++ [q.1])
def kL (q : List D × Sto) : D × Sto := (.lst q.1, q.2)
def kML (q : List D × Sto) : D × Sto := (.loc q.2.length, q.2 ++ [q.1])
noncomputable def kSrc (p : D × Sto) : Option (((Sto → Bool) × List D) × Sto) := (srcOf p.2 p.1).map fun q => (q, p.2)
def kSr2 (s : Sto) (q : (Sto → Bool) × List D) : ((Sto → Bool) × List D) × Sto := (q, s)
def kRng (p : List D × Sto) : Option (((Sto → Bool) × List D) × Sto) := match p.1 with
  | [.int j] => if decide (j ≤ 1000000) && decide (-1000000 ≤ j) then some ((always, rangeD 0 j.toNat), p.2) else none
  | [.int i, .int j] => if decide (j - i ≤ 1000000) && decide (i.natAbs ≤ 4000000000000000000) && decide (j.natAbs ≤ 4000000000000000000) then some ((always, rangeD i (j - i).toNat), p.2) else none
  | _ => none
noncomputable def kZip (fb : DE) (env : En) (p : D × Sto) : Option (((Sto → Bool) × List D) × Sto) := (fb env p.2).bind fun q => (zipSrc q.2 p.1 q.1).map fun z => (z, q.2)
noncomputable def kZip2 (x : D) (q : D × Sto) : Option (((Sto → Bool) × List D) × Sto) := (zipSrc q.2 x q.1).map fun z => (z, q.2)
noncomputable def kEn (p : D × Sto) : Option (((Sto → Bool) × List D) × Sto) := (enSrc p.2 p.1).map fun z => (z, p.2)
noncomputable def kZ3 (fb fc : DE) (env : En) (p : D × Sto) : Option (((Sto → Bool) × List D) × Sto) := (fb env p.2).bind fun q => (fc env q.2).bind fun u => (zip3Src u.2 p.1 q.1 u.1).map fun z => (z, u.2)
noncomputable def kZ3b (fc : DE) (env : En) (x : D) (q : D × Sto) : Option (((Sto → Bool) × List D) × Sto) := (fc env q.2).bind fun u => (zip3Src u.2 x q.1 u.1).map fun z => (z, u.2)
noncomputable def kZ3c (x y : D) (u : D × Sto) : Option (((Sto → Bool) × List D) × Sto) := (zip3Src u.2 x y u.1).map fun z => (z, u.2)
def kFn (p : Fl × Sto) : Option (D × Sto) := match p.1 with
  | .rt d => some (d, p.2)
  | .nx _ => some (.non, p.2)
  | _ => none
end
section
variable {env : En} {st s : Sto} {d x y : D} {ds : List D} {C : Orc}
theorem e_var (i : Nat) : eVar i env st = kVar st env[i]? := by
  unfold eVar kVar
  rfl
theorem e_kvar : kVar st (some (some d)) = some (d, st) := rfl
theorem e_c : eC d env st = some (d, st) := rfl
theorem e_op {o fa fb} : eOp o fa fb env st = (fa env st).bind (kOp o fb env) := rfl
theorem e_kop {o fb} : kOp o fb env (x, s) = (fb env s).bind (kOp2 o x) := rfl
theorem e_kop2 {o} : kOp2 o x (y, s) = (o s x y).map (mk2 s) := rfl
theorem e_mk2 : mk2 s d = (d, s) := rfl
theorem e_un {o fa} : eUn o fa env st = (fa env st).bind (kUn o) := rfl
theorem e_kun {o} : kUn o (x, s) = (o x).map (mk2 s) := rfl
theorem e_anil : aNil env st = some ([], st) := rfl
theorem e_acons {fa fr} : aCons fa fr env st = (fa env st).bind (kA fr env) := rfl
theorem e_ka {fr} : kA fr env (x, s) = (fr env s).bind (kA2 x) := rfl
theorem e_ka2 : kA2 x (ds, s) = some (x :: ds, s) := rfl
theorem e_blt {g fa} : eBlt g fa env st = (fa env st).bind (kBlt g) := rfl
theorem e_kblt {g} : kBlt g (ds, s) = (g s ds).map (mk2 s) := rfl
theorem e_new {g fa} : eNew g fa env st = (fa env st).bind (kNew g) := rfl
theorem e_knew {g} : kNew g (ds, s) = (g s ds).map (kNew2 s) := rfl
theorem e_knew2 : kNew2 s ds = (.loc s.length, s ++ [ds]) := rfl
theorem e_call {f fa} : eCall C f fa env st = (fa env st).bind (kCall C f) := rfl
theorem e_kcall {f} : kCall C f (ds, s) = C f ds s := rfl
theorem e_tup {fa} : eTup fa env st = (fa env st).bind kTup := rfl
theorem e_ktup : kTup (ds, s) = some (.tup ds, s) := rfl
theorem e_lst {fa} : eLst fa env st = (fa env st).bind kLst := rfl
theorem e_klst : kLst (ds, s) = some (.lst ds, s) := rfl
theorem e_mlst {fa} : eMLst fa env st = (fa env st).bind kMLst := rfl
theorem e_kmlst : kMLst (ds, s) = some (.loc s.length, s ++ [ds]) := rfl
theorem e_if {c fa fb} : eIf c fa fb env st = (c env st).bind (kIf fa fb env) := rfl
theorem e_kifT {fa fb} : kIf fa fb env (true, s) = fa env s := rfl
theorem e_kifF {fa fb} : kIf fa fb env (false, s) = fb env s := rfl
theorem e_and {fa fb} : eAnd fa fb env st = (fa env st).bind (kAnd fb env) := rfl
theorem e_kandT {fb} : kAnd fb env (.bl true, s) = fb env s := rfl
theorem e_kandF {fb} : kAnd fb env (.bl false, s) = some (.bl false, s) := rfl
theorem e_or {fa fb} : eOr fa fb env st = (fa env st).bind (kOr fb env) := rfl
theorem e_korT {fb} : kOr fb env (.bl true, s) = some (.bl true, s) := rfl
theorem e_korF {fb} : kOr fb env (.bl false, s) = fb env s := rfl
theorem e_not {fa} : eNot fa env st = (fa env st).bind kNot := rfl
theorem e_knot {b} : kNot (.bl b, s) = some (.bl (!b), s) := rfl
theorem e_bval {fa} : bVal fa env st = (fa env st).bind kBv := rfl
theorem e_kbv {b} : kBv (.bl b, s) = some (b, s) := rfl
theorem e_band {fa fb} : bAnd fa fb env st = (fa env st).bind (kBand fb env) := rfl
theorem e_kbandT {fb} : kBand fb env (true, s) = fb env s := rfl
theorem e_kbandF {fb} : kBand fb env (false, s) = some (false, s) := rfl
theorem e_bor {fa fb} : bOr fa fb env st = (fa env st).bind (kBor fb env) := rfl
theorem e_kborT {fb} : kBor fb env (true, s) = some (true, s) := rfl
theorem e_kborF {fb} : kBor fb env (false, s) = fb env s := rfl
theorem e_bnot {fa} : bNot fa env st = (fa env st).bind kBnot := rfl
theorem e_kbnot {b} : kBnot (b, s) = some (!b, s) := rfl
theorem e_yes : bYes env st = some (true, st) := rfl
theorem e_isi {t fa} : eIsi t fa env st = (fa env st).bind (kUn fun d => some (.bl (isTy t d))) := rfl
theorem e_sl {fa fl fh} : eSl fa fl fh env st = (fa env st).bind (kSl fl fh env) := rfl
theorem e_ksl {fl fh} : kSl fl fh env (x, s) = (fl env s).bind (kSl2 fh env x) := rfl
theorem e_ksl2 {fh l} : kSl2 fh env x (l, s) = (fh env s).bind (kSl3 x l) := rfl
theorem e_ksl3 {l u} : kSl3 x l (u, s) = (sliceD s l u x).map (mk2 s) := rfl
theorem e_ono : oNo env st = some (none, st) := rfl
theorem e_oso {f} : oSo f env st = (f env st).bind kSo := rfl
theorem e_kso {i} : kSo (.int i, s) = some (some i, s) := rfl
theorem e_app {fo fa} : eAppend fo fa env st = (fo env st).bind (kApp fa env) := rfl
theorem e_kapp {fa} : kApp fa env (x, s) = (fa env s).bind (kApp2 x) := rfl
theorem e_chain {o o' fa fb fc} : eChain o o' fa fb fc env st = (fa env st).bind (kCh o o' fb fc env) := rfl
theorem e_kch {o o' fb fc} : kCh o o' fb fc env (x, s) = (fb env s).bind (kCh2 o o' fc env x) := rfl
theorem e_kch2 {o o' fc} : kCh2 o o' fc env x (y, s) = (o s x y).bind (kCh3 o' fc env y s) := rfl
theorem e_kch3T {o' fc} : kCh3 o' fc env y s (.bl true) = (fc env s).bind (kOp2 o' y) := rfl
theorem e_kch3F {o' fc} : kCh3 o' fc env y s (.bl false) = some (.bl false, s) := rfl
theorem e_snil : sNil env st = some (.nx env, st) := rfl
theorem e_seq {a b} : sSeq a b env st = (a env st).bind (kSeq b) := rfl
theorem e_kseqN {b} : kSeq b (.nx env, s) = b env s := rfl
theorem e_kseqR {b} : kSeq b (.rt d, s) = some (.rt d, s) := rfl
theorem e_kseqB {b} : kSeq b (.bk env, s) = some (.bk env, s) := rfl
theorem e_kseqC {b} : kSeq b (.ct env, s) = some (.ct env, s) := rfl
theorem e_expr {f} : sExpr f env st = (f env st).bind (kDrop env) := rfl
theorem e_kdrop : kDrop env (d, s) = some (.nx env, s) := rfl
theorem e_ret {f} : sRet f env st = (f env st).bind kRet := rfl
theorem e_kret : kRet (d, s) = some (.rt d, s) := rfl
theorem e_retn : sRetN env st = some (.rt .non, st) := rfl
theorem e_sif {c a b} : sIf c a b env st = (c env st).bind (kSif a b env) := rfl
theorem e_ksifT {a b} : kSif a b env (true, s) = a env s := rfl
theorem e_ksifF {a b} : kSif a b env (false, s) = b env s := rfl
theorem e_asg {f g} : sAsg f g env st = (f env st).bind (kAsg g env) := rfl
theorem e_kasg {g} : kAsg g env (d, s) = (g d env s).bind kNx := rfl
theorem e_knx : kNx (env, s) = some (.nx env, s) := rfl
theorem e_gn {i} : gN i d env st = some (env.set i (some d), st) := rfl
theorem e_gtT {n f xs} : gT n f (.tup xs) env st = if xs.length = n then f xs env st else none := rfl
theorem e_gtL {n f xs} : gT n f (.lst xs) env st = if xs.length = n then f xs env st else none := rfl
theorem e_gsnil : gsNil [] env st = some (env, st) := rfl
theorem e_gscons {f g} : gsCons f g (d :: ds) env st = (f d env st).bind (kGs g ds) := rfl
theorem e_kgs {g} : kGs g ds (env, s) = g ds env s := rfl
theorem e_gsb {fo fi} : gSb fo fi d env st = (fo env st).bind (kSb fi d env) := rfl
theorem e_ksb {fi} : kSb fi d env (x, s) = (fi env s).bind (kSb2 x d env) := rfl
theorem e_ksb2 : kSb2 x d env (y, s) = (setC s x y d).map (kEs env) := rfl
theorem e_kes : kEs env s = (env, s) := rfl
theorem e_for {src tg body} : sFor src tg body env st = (src env st).bind (kFor tg body env) := rfl
theorem e_kfor {tg body chk} : kFor tg body env ((chk, ds), s) = forL chk tg body ds env s := rfl
theorem e_lc {vs src tg ifs elt} : eLc vs src tg ifs elt env st = (src env st).bind (kLc tg ifs elt (wipeE env vs)) := rfl
theorem e_klc {tg ifs elt chk} : kLc tg ifs elt env ((chk, ds), s) = (lcL chk tg ifs elt env ds s).map kL := rfl
theorem e_kl : kL (ds, s) = (.lst ds, s) := rfl
theorem e_mlc {vs src tg ifs elt} : eMLc vs src tg ifs elt env st = (src env st).bind (kMLc tg ifs elt (wipeE env vs)) := rfl
theorem e_kmlc {tg ifs elt chk} : kMLc tg ifs elt env ((chk, ds), s) = (lcL chk tg ifs elt env ds s).map kML := rfl
theorem e_kml : kML (ds, s) = (.loc s.length, s ++ [ds]) := rfl
theorem e_seqs {f} : iSeq f env st = (f env st).bind kSrc := rfl
theorem e_ksrc : kSrc (x, s) = (srcOf s x).map (kSr2 s) := rfl
theorem e_ksr2 {q} : kSr2 s q = (q, s) := rfl
theorem e_srcT : srcOf s (.tup ds) = some (always, ds) := rfl
theorem e_srcL : srcOf s (.lst ds) = some (always, ds) := rfl
theorem e_rng {fa} : iRng fa env st = (fa env st).bind kRng := rfl
theorem e_krng1 {j : Int} (h : 0 ≤ j) (h2 : j ≤ 1000000) : kRng ([.int j], s) = some ((always, rangeD 0 j.toNat), s) := by
  show (if decide (j ≤ 1000000) && decide (-1000000 ≤ j) then _ else _) = _
  rw [decide_eq_true h2, decide_eq_true (by omega)]
  rfl
theorem e_zip {fa fb} : iZip fa fb env st = (fa env st).bind (kZip fb env) := rfl
theorem e_kzip {fb} : kZip fb env (x, s) = (fb env s).bind (kZip2 x) := rfl
theorem e_kzip2 : kZip2 x (y, s) = (zipSrc s x y).map (kSr2 s) := rfl
theorem e_zipT {es : List D} : zipSrc s (.tup ds) (.tup es) = some (always, pairsD ds es) := rfl
theorem e_zipL {es : List D} : zipSrc s (.lst ds) (.lst es) = some (always, pairsD ds es) := rfl
theorem e_zipTL {es : List D} : zipSrc s (.tup ds) (.lst es) = some (always, pairsD ds es) := rfl
theorem e_zipLT {es : List D} : zipSrc s (.lst ds) (.tup es) = some (always, pairsD ds es) := rfl
theorem e_en {fa} : iEn fa env st = (fa env st).bind kEn := rfl
theorem e_ken : kEn (x, s) = (enSrc s x).map (kSr2 s) := rfl
theorem e_enT : enSrc s (.tup ds) = some (always, enD 0 ds) := rfl
theorem e_enL : enSrc s (.lst ds) = some (always, enD 0 ds) := rfl
theorem e_zip3 {fa fb fc} : iZip3 fa fb fc env st = (fa env st).bind (kZ3 fb fc env) := rfl
theorem e_kz3 {fb fc} : kZ3 fb fc env (x, s) = (fb env s).bind (kZ3b fc env x) := rfl
theorem e_kz3b {fc} : kZ3b fc env x (y, s) = (fc env s).bind (kZ3c x y) := rfl
theorem e_kz3c {z : D} : kZ3c x y (z, s) = (zip3Src s x y z).map (kSr2 s) := rfl
theorem e_zip3T {es fs : List D} : zip3Src s (.tup ds) (.tup es) (.tup fs) = some (always, triD ds es fs) := rfl
theorem e_par2 {i j : Nat} {fa} : sPar2 i j fa env st = (fa env st).bind fun p => match p.1 with
  | [a, b] => some (.nx ((env.set i (some a)).set j (some b)), p.2)
  | _ => none := by
  unfold sPar2 sAsg eTup
  cases fa env st with
  | none => rfl
  | some p =>
    obtain ⟨ds, s⟩ := p
    match ds with
    | [a, b] => rfl
    | [] => rfl
    | [a] => rfl
    | a :: b :: c :: t => simp [gT]
end
/-- an assignment of two cells -/
def kPar2 (i j : Nat) (env : En) (p : List D × Sto) : Option (Fl × Sto) := match p.1 with
  | [a, b] => some (.nx ((env.set i (some a)).set j (some b)), p.2)
  | _ => none
theorem e_par2' {i j : Nat} {fa env st} : sPar2 i j fa env st = (fa env st).bind (kPar2 i j env) := by
  rw [e_par2]
  rfl
theorem e_kpar2 {i j : Nat} {env : En} {a b : D} {s : Sto} : kPar2 i j env ([a, b], s) = some (.nx ((env.set i (some a)).set j (some b)), s) := rfl
/-! operators -/
section
variable {s : Sto} {i j : Int}
theorem o_add : oAdd s (.int i) (.int j) = some (.int (i + j)) := rfl
theorem o_sub : oSub s (.int i) (.int j) = some (.int (i - j)) := rfl
theorem o_mul (h : mulOk i j = true) : oMul s (.int i) (.int j) = some (.int (i * j)) := by
  show (if mulOk i j then _ else _) = _
  rw [h]
  rfl
theorem o_div (h : 0 < j) (h2 : j < 18446744073709551616) : oDiv s (.int i) (.int j) = some (.int (i / j)) := by
  show (if divOk j then _ else _) = _
  unfold divOk
  have e : (2 : Nat) ^ 64 = 18446744073709551616 := by decide
  rw [decide_eq_true h, decide_eq_true (by rw [e]; omega)]
  rfl
theorem o_mod (h : 0 < j) : oMod s (.int i) (.int j) = some (.int (i % j)) := by
  show (if decide (0 < j) then _ else _) = _
  rw [decide_eq_true h]
  rfl
theorem o_eq : oEq s (.int i) (.int j) = some (.bl (decide (i = j))) := rfl
theorem o_ne : oNe s (.int i) (.int j) = some (.bl (!decide (i = j))) := rfl
theorem o_eqS {x y : Str} : oEq s (.str x) (.str y) = some (.bl (decide (x = y))) := rfl
theorem o_neS {x y : Str} : oNe s (.str x) (.str y) = some (.bl (!decide (x = y))) := rfl
theorem o_lt : oLt s (.int i) (.int j) = some (.bl (decide (i < j))) := rfl
theorem o_le : oLe s (.int i) (.int j) = some (.bl (decide (i ≤ j))) := rfl
theorem o_gt : oGt s (.int i) (.int j) = some (.bl (decide (j < i))) := rfl
theorem o_ge : oGe s (.int i) (.int j) = some (.bl (decide (j ≤ i))) := rfl
theorem o_neg : oNeg (.int i) = some (.int (-i)) := rfl
theorem o_min2 : gMin2 s [.int i, .int j] = some (.int (min i j)) := by
  show some (D.int (if j < i then j else i)) = _
  congr 2
  rw [Int.min_def]
  split <;> split <;> omega
theorem o_max2 : gMax2 s [.int i, .int j] = some (.int (max i j)) := by
  show some (D.int (if j > i then j else i)) = _
  congr 2
  rw [Int.max_def]
  split <;> split <;> omega
theorem o_ixT {xs : List D} : oIx s (.tup xs) (.int i) = atI xs i := rfl
theorem o_ixL {xs : List D} : oIx s (.lst xs) (.int i) = atI xs i := rfl
theorem o_ixC {n : Nat} : oIx s (.loc n) (.int i) = (s[n]?).bind fun xs => atI xs i := rfl
theorem o_tupL {xs : List D} : gTuple s [.lst xs] = some (.tup xs) := rfl
theorem o_tupT {xs : List D} : gTuple s [.tup xs] = some (.tup xs) := rfl
theorem o_lenT {xs : List D} : gLen s [.tup xs] = some (.int xs.length) := rfl
theorem o_lenL {xs : List D} : gLen s [.lst xs] = some (.int xs.length) := rfl
theorem o_lenS {xs : List D} : gLen s [.scr xs] = some (.int xs.length) := rfl
theorem o_sum {ns : List Int} : gSum s [.lst (ns.map D.int)] = some (.int ns.sum) := by
  show ((intsOf (ns.map D.int)).map fun ns => D.int ns.sum) = _
  rw [intsOf_map]
  rfl
theorem o_all {ns : List Bool} : gAll s [.lst (ns.map D.bl)] = some (.bl (ns.all id)) := by
  show ((blsOf (ns.map D.bl)).map fun ns => D.bl (ns.all id)) = _
  rw [blsOf_map]
  rfl
theorem o_any {ns : List Bool} : gAny s [.lst (ns.map D.bl)] = some (.bl (ns.any id)) := by
  show ((blsOf (ns.map D.bl)).map fun ns => D.bl (ns.any id)) = _
  rw [blsOf_map]
  rfl
theorem o_intB {b : Bool} : gInt s [.bl b] = some (.int (if b then 1 else 0)) := rfl
theorem o_intI : gInt s [.int i] = some (.int i) := rfl
theorem atI_0 {x : D} {xs : List D} : atI (x :: xs) 0 = some x := by
  rw [show (0 : Int) = ((0 : Nat) : Int) from rfl]
  exact atI_nat rfl
theorem atI_1 {x y : D} {xs : List D} : atI (x :: y :: xs) 1 = some y := by
  rw [show (1 : Int) = ((1 : Nat) : Int) from rfl]
  exact atI_nat rfl
theorem atI_2 {x y z : D} {xs : List D} : atI (x :: y :: z :: xs) 2 = some z := by
  rw [show (2 : Int) = ((2 : Nat) : Int) from rfl]
  exact atI_nat rfl
theorem atI_3 {x y z w : D} {xs : List D} : atI (x :: y :: z :: w :: xs) 3 = some w := by
  rw [show (3 : Int) = ((3 : Nat) : Int) from rfl]
  exact atI_nat rfl
theorem atI_in {α : Type} (xs : List α) (h0 : 0 ≤ i) (h : i < xs.length) : ∃ x, x ∈ xs ∧ atI xs i = some x ∧ xs[i.toNat]? = some x := by
  have hn : i.toNat < xs.length := by omega
  refine ⟨xs[i.toNat], List.getElem_mem hn, ?_, List.getElem?_eq_getElem hn⟩
  have e : atI xs ((i.toNat : Nat) : Int) = some xs[i.toNat] := atI_nat (List.getElem?_eq_getElem hn)
  rwa [Int.toNat_of_nonneg h0] at e
end
/-- comprehensions that only compute -/
theorem lc_pure {tg : DG} {ifs : DB} {elt : DE} {env : En} {s : Sto} (g : D → D) : ∀ (ds : List D), (∀ d ∈ ds, ∃ e, tg d env s = some (e, s) ∧ ifs e s = some (true, s) ∧ elt e s = some (g d, s)) → lcL always tg ifs elt env ds s = some (ds.map g, s)
  | [], _ => rfl
  | d :: ds, h => by
    obtain ⟨e, h1, h2, h3⟩ := h d List.mem_cons_self
    have ih := lc_pure g ds fun d hd => h d (List.mem_cons_of_mem _ hd)
    unfold lcL
    simp only [show always s = true from rfl, if_true, h1, Option.bind_some, h2, h3, ih, Option.map_some, List.map_cons]
/-- a for loop: an invariant over what is left -/
theorem for_ind {chk : Sto → Bool} {tg : DG} {body : DS} (P : List D → En → Sto → Prop) (hc : ∀ ds env st, P ds env st → chk st = true)
    (step : ∀ d ds env st, P (d :: ds) env st → ∃ e s, tg d env st = some (e, s) ∧ ∃ e2 s2, body e s = some (.nx e2, s2) ∧ P ds e2 s2) :
    ∀ (ds : List D) (env : En) (st : Sto), P ds env st → ∃ env' st', forL chk tg body ds env st = some (.nx env', st') ∧ P [] env' st'
  | [], env, st, h => ⟨env, st, by unfold forL; rw [hc _ _ _ h]; rfl, h⟩
  | d :: ds, env, st, h => by
    obtain ⟨e, s, h1, e2, s2, h2, h3⟩ := step d ds env st h
    obtain ⟨e3, s3, h4, h5⟩ := for_ind P hc step ds e2 s2 h3
    refine ⟨e3, s3, ?_, h5⟩
    unfold forL
    rw [hc _ _ _ h, if_pos rfl, h1]
    show (body e s).bind _ = _
    rw [h2]
    exact h4
theorem rangeD_zero (lo : Int) : rangeD lo 0 = [] := rfl
theorem rangeD_succ (lo : Int) (n : Nat) : rangeD lo (n + 1) = .int lo :: rangeD (lo + 1) n := by
  unfold rangeD
  rw [List.range_succ_eq_map, List.map_cons, List.map_map]
  congr 1
  · simp
  · apply List.map_congr_left
    intro k _
    show D.int (lo + ((k + 1 : Nat) : Int)) = D.int (lo + 1 + k)
    congr 1
    omega
def kRev (p : D × Sto) : Option (D × Sto) := (lsqOf p.2 p.1).map fun xs => (.lst xs.reverse, p.2)
theorem e_rev {fa : DE} {env : En} {st : Sto} : eRev fa env st = (fa env st).bind kRev := rfl
theorem e_krev {xs : List D} {s : Sto} : kRev (.lst xs, s) = some (.lst xs.reverse, s) := rfl
theorem o_sortI {s : Sto} {ns : List Int} : gSorted s [.lst (ns.map D.int)] = some (.lst ((isort ltI ns).map D.int)) := by
  show sortX (ns.map D.int) = _
  unfold sortX
  rw [intsOf_map]
theorem o_sortRev {s : Sto} {ns : List Int} : gSortRev s [.lst (ns.map D.int)] = some (.lst ((isort gtI ns).map D.int)) := by
  show (intsOf (ns.map D.int)).map _ = _
  rw [intsOf_map]
  rfl
theorem tupsOf_map (gs : List (List Int)) : tupsOf (gs.map fun g => D.tup (g.map D.int)) = some gs := by
  induction gs with
  | nil => rfl
  | cons g gs ih =>
    rw [List.map_cons]
    unfold tupsOf
    rw [intsOf_map, ih]
    rfl
theorem lensOf_map (gs : List (List D)) : lensOf (gs.map D.tup) = some (gs.map fun g => (g.length : Int)) := by
  induction gs with
  | nil => rfl
  | cons g gs ih =>
    rw [List.map_cons]
    unfold lensOf
    rw [ih]
    rfl
theorem zip_map2 {α β γ : Type} (f : α → β) (g : α → γ) : ∀ xs : List α, (xs.map f).zip (xs.map g) = xs.map fun x => (f x, g x)
  | [] => rfl
  | x :: xs => by rw [List.map_cons, List.map_cons, List.zip_cons_cons, zip_map2 f g xs, List.map_cons]
/-- sorted tuples of ints, the first of them empty -/
theorem o_sortT {s : Sto} {gs : List (List Int)} : gSorted s [.lst ((([] : List Int) :: gs).map fun g => D.tup (g.map D.int))] = some (.lst ((isort HT.lexLt ([] :: gs)).map fun g => D.tup (g.map D.int))) := by
  show sortX ((([] : List Int) :: gs).map fun g => D.tup (g.map D.int)) = _
  have h0 : intsOf ((([] : List Int) :: gs).map fun g => D.tup (g.map D.int)) = none := rfl
  unfold sortX
  rw [h0]
  unfold sortT
  rw [tupsOf_map]
  show some (D.lst _) = _
  congr 2
  have e : ((([] : List Int) :: gs).map fun g => D.tup (g.map D.int)).zip (([] : List Int) :: gs) = (([] : List Int) :: gs).map fun g => (D.tup (g.map D.int), g) := by
    have := zip_map2 (fun g : List Int => D.tup (g.map D.int)) id (([] : List Int) :: gs)
    rw [List.map_id] at this
    exact this
  rw [e, show isort HT.lexLt (([] : List Int) :: gs) = isort (fun a b => lexP ((fun g : List Int => (D.tup (g.map D.int), g)) a) ((fun g : List Int => (D.tup (g.map D.int), g)) b)) (([] : List Int) :: gs) from rfl, ← isort_map, List.map_map]
  rfl
/-- tuples of ints by their length -/
theorem o_sortLen {s : Sto} {gs : List (List Int)} : gSortLen s [.lst (gs.map fun g => D.tup (g.map D.int))] = some (.lst ((isort (fun a b : List Int => decide (a.length < b.length)) gs).map fun g => D.tup (g.map D.int))) := by
  show (lensOf _).map _ = _
  have e : (gs.map fun g => D.tup (g.map D.int)) = (gs.map fun g => g.map D.int).map D.tup := by rw [List.map_map]; rfl
  rw [e, lensOf_map]
  show some (D.lst _) = _
  congr 2
  rw [← e]
  have e2 : (gs.map fun g => D.tup (g.map D.int)).zip ((gs.map fun g => g.map D.int).map fun g : List D => (g.length : Int)) = gs.map fun g => (D.tup (g.map D.int), (g.length : Int)) := by
    rw [List.map_map, zip_map2]
    exact List.map_congr_left fun g _ => by simp
  rw [e2, show isort (fun a b : List Int => decide (a.length < b.length)) gs = isort (fun a b => lenP ((fun g : List Int => (D.tup (g.map D.int), (g.length : Int))) a) ((fun g : List Int => (D.tup (g.map D.int), (g.length : Int))) b)) gs from isort_congr _ fun x _ y _ => by
    show decide _ = decide _
    rw [decide_eq_decide]
    show x.length < y.length ↔ (x.length : Int) < y.length
    omega, ← isort_map, List.map_map]
  rfl
def kRep2 (x : D) (q : D × Sto) : Option (D × Sto) := (repC q.2 x q.1).map fun c => (.loc q.2.length, q.2 ++ [c])
def kRep (fb : DE) (env : En) (p : D × Sto) : Option (D × Sto) := (fb env p.2).bind (kRep2 p.1)
theorem e_repM {fa fb : DE} {env : En} {st : Sto} : eRepM fa fb env st = (fa env st).bind (kRep fb env) := rfl
theorem e_krep {fb : DE} {env : En} {x : D} {s : Sto} : kRep fb env (x, s) = (fb env s).bind (kRep2 x) := rfl
theorem e_krep2 {x d : D} {k : Nat} {s : Sto} (h : k ≤ 1000) (hx : lstOf s x = some [d]) : kRep2 x (.int (k : Nat), s) = some (.loc s.length, s ++ [List.replicate k d]) := by
  show ((lstOf s x).bind _).map _ = _
  rw [hx]
  show (if fits (1 * (k : Int).toNat) && decide (-1000000 ≤ (k : Int)) && decide ((k : Int) ≤ 1000000) then some (List.replicate (k : Int).toNat [d]).flatten else none).map _ = _
  have e : (List.replicate (k : Int).toNat [d]).flatten = List.replicate k d := by
    rw [Int.toNat_natCast]
    induction k with
    | zero => rfl
    | succ k ih =>
      rw [List.replicate_succ, List.flatten_cons, ih (by omega), List.replicate_succ]
      rfl
  rw [e, show fits (1 * (k : Int).toNat) = true from decide_eq_true (by omega), decide_eq_true (by omega), decide_eq_true (by omega)]
  rfl
end Tg
local macro_rules | `(tactic| walk_at "ev") => `(tactic| simp -implicitDefEqProofs only [Tg.e_var, Tg.e_kvar, Tg.e_c, Tg.e_op, Tg.e_kop, Tg.e_kop2, Tg.e_mk2, Tg.e_un, Tg.e_kun, Tg.e_anil, Tg.e_acons, Tg.e_ka, Tg.e_ka2, Tg.e_blt, Tg.e_kblt, Tg.e_new, Tg.e_knew, Tg.e_knew2, Tg.e_call, Tg.e_kcall, Tg.e_tup, Tg.e_ktup, Tg.e_lst, Tg.e_klst, Tg.e_mlst, Tg.e_kmlst, Tg.e_if, Tg.e_kifT, Tg.e_kifF, Tg.e_and, Tg.e_kandT, Tg.e_kandF, Tg.e_or, Tg.e_korT, Tg.e_korF, Tg.e_not, Tg.e_knot, Tg.e_bval, Tg.e_kbv, Tg.e_band, Tg.e_kbandT, Tg.e_kbandF, Tg.e_bor, Tg.e_kborT, Tg.e_kborF, Tg.e_bnot, Tg.e_kbnot, Tg.e_yes, Tg.e_isi, Tg.e_rev, Tg.e_krev, Tg.e_repM, Tg.e_krep, Tg.e_sl, Tg.e_ksl, Tg.e_ksl2, Tg.e_ksl3, Tg.e_ono, Tg.e_oso, Tg.e_kso, Tg.e_app, Tg.e_kapp, Tg.e_chain, Tg.e_kch, Tg.e_kch2, Tg.e_kch3T, Tg.e_kch3F, Tg.e_snil, Tg.e_seq, Tg.e_kseqN, Tg.e_kseqR, Tg.e_kseqB, Tg.e_kseqC, Tg.e_expr, Tg.e_kdrop, Tg.e_ret, Tg.e_kret, Tg.e_retn, Tg.e_sif, Tg.e_ksifT, Tg.e_ksifF, Tg.e_asg, Tg.e_kasg, Tg.e_knx, Tg.e_gn, Tg.e_gsnil, Tg.e_gscons, Tg.e_kgs, Tg.e_gsb, Tg.e_ksb, Tg.e_ksb2, Tg.e_kes, Tg.e_for, Tg.e_kfor, Tg.e_lc, Tg.e_klc, Tg.e_kl, Tg.e_mlc, Tg.e_kmlc, Tg.e_kml, Tg.e_seqs, Tg.e_ksrc, Tg.e_ksr2, Tg.e_srcT, Tg.e_srcL, Tg.e_rng, Tg.e_zip, Tg.e_kzip, Tg.e_kzip2, Tg.e_zipT, Tg.e_zipL, Tg.e_zipTL, Tg.e_zipLT, Tg.e_en, Tg.e_ken, Tg.e_enT, Tg.e_enL, Tg.e_zip3, Tg.e_kz3, Tg.e_kz3b, Tg.e_kz3c, Tg.e_zip3T, Tg.e_par2', Tg.e_kpar2,
  Tg.o_add, Tg.o_sub, Tg.o_eq, Tg.o_ne, Tg.o_eqS, Tg.o_neS, Tg.o_lt, Tg.o_le, Tg.o_gt, Tg.o_ge, Tg.o_neg, Tg.o_min2, Tg.o_max2, Tg.o_ixT, Tg.o_ixL, Tg.o_tupL, Tg.o_tupT, Tg.o_lenT, Tg.o_lenL, Tg.o_lenS, Tg.o_sum, Tg.o_all, Tg.o_any, Tg.o_intB, Tg.o_intI, Tg.atI_0, Tg.atI_1, Tg.atI_2, Tg.atI_3,
  Option.bind_some, Option.map_some, List.getElem?_cons_zero, List.getElem?_cons_succ, List.set_cons_zero, List.set_cons_succ, List.length_cons, List.length_nil, List.length_map, Tg.wipeE])
local macro_rules | `(tactic| walk_at "go") => `(tactic| repeat (first | walk_at "ev" | simp -implicitDefEqProofs only [*, Tg.e_gtT, Tg.e_gtL, if_true, reduceIte, Nat.reduceAdd, Tg.e_kfnR, Bool.not_true, Bool.not_false, decide_true, decide_false]))
/-! The law's own draws. -/

namespace Tg
open PySem PySem.Spec PyProof.Rows L2
noncomputable def b_l_draws (C : Orc) : DS := (sSeq (sAsg (eOp oAdd (eBlt gList (aCons (eSl (eVar 0) oNo (oSo (eC (.int 63)))) aNil)) (eOp oMul (eLst (aCons (eC (.int 0)) aNil)) (eBlt gInt (aCons (eOp oEq (eBlt gLen (aCons (eVar 0) aNil)) (eC (.int 0))) aNil)))) (gN 1))
    (sSeq (sRet (eMLst (aCons (eVar 1) (aCons (eC (.int 0)) (aCons (eMLc [2] (iSeq (eVar 1)) (gN 2) bYes (eOp oMul (eVar 2) (eBlt gInt (aCons (eOp oGe (eVar 2) (eOp oPow (eC (.int 10)) (eC (.int 18)))) aNil)))) aNil)))))
    sNil))
noncomputable def b_l_next (C : Orc) : DS := (sSeq (sAsg (eVar 0) (gT 3 (gsCons (gN 2) (gsCons (gN 3) (gsCons (gN 4) gsNil)))))
    (sSeq (sAsg (eOp oMod (eVar 3) (eBlt gLen (aCons (eVar 2) aNil))) (gN 5))
    (sSeq (sAsg (eOp oAdd (eVar 3) (eC (.int 1))) (gSb (eVar 0) (eC (.int 1))))
    (sSeq (sIf (bVal (eOp oGt (eOp oIx (eVar 4) (eVar 5)) (eC (.int 0)))) (sSeq (sAsg (eOp oMod (eOp oIx (eVar 4) (eVar 5)) (eVar 1)) (gN 6))
    (sSeq (sAsg (eOp oDiv (eOp oIx (eVar 4) (eVar 5)) (eVar 1)) (gSb (eVar 4) (eVar 5)))
    (sSeq (sRet (eVar 6))
    sNil))) sNil)
    (sSeq (sAsg (eOp oMod (eOp oPow (eOp oAdd (eOp oAdd (eOp oMod (eOp oIx (eVar 2) (eVar 5)) (eC (.int 2147483629))) (eOp oMul (eC (.int 39119)) (eVar 3))) (eC (.int 9901))) (eC (.int 3))) (eC (.int 2147483587))) (gN 7))
    (sSeq (sAsg (eOp oMod (eOp oPow (eOp oAdd (eOp oAdd (eVar 7) (eOp oMul (eOp oMul (eC (.int 7001)) (eVar 3)) (eVar 3))) (eC (.int 41))) (eC (.int 3))) (eC (.int 2147483563))) (gN 8))
    (sSeq (sRet (eOp oMod (eOp oMod (eOp oAdd (eOp oMul (eVar 8) (eC (.int 2147483423))) (eVar 7)) (eC (.int 4611686018427387847))) (eVar 1)))
    sNil)))))))
noncomputable def b_l_amount (C : Orc) : DS := (sSeq (sAsg (eCall C "_law_next" (aCons (eVar 0) (aCons (eOp oAdd (eBlt gMin2 (aCons (eVar 1) (aCons (eC (.int 3)) aNil))) (eC (.int 1))) aNil))) (gN 2))
    (sSeq (sRet (eOp oIx (eLst (aCons (eVar 2) (aCons (eOp oSub (eVar 1) (eVar 2)) (aCons (eCall C "_law_next" (aCons (eVar 0) (aCons (eOp oAdd (eVar 1) (eC (.int 1))) aNil))) aNil)))) (eCall C "_law_next" (aCons (eVar 0) (aCons (eC (.int 3)) aNil)))))
    sNil))
noncomputable def b_l_pair (C : Orc) : DS := (sSeq (sAsg (eCall C "_law_next" (aCons (eVar 0) (aCons (eVar 1) aNil))) (gN 2))
    (sSeq (sRet (eTup (aCons (eVar 2) (aCons (eOp oMod (eOp oAdd (eOp oAdd (eVar 2) (eC (.int 1))) (eCall C "_law_next" (aCons (eVar 0) (aCons (eOp oSub (eVar 1) (eC (.int 1))) aNil)))) (eVar 1)) aNil))))
    sNil))

theorem call_eq {F : String → Option Fn} {x : String} {f : Fn} (h : F x = some f) {ds : List D} (hl : ds.length = f.k) (n : Nat) (st : Sto) :
    callN F (n + 1) x ds st = (f.body (callN F n) (startE f.n ds) st).bind kFn := by
  show (F x).bind (fun f => runFn f (callN F n) ds st) = _
  rw [h]
  show runFn f (callN F n) ds st = _
  unfold runFn
  rw [if_pos hl]
  rfl
theorem e_kfnR {d : D} {s : Sto} : kFn (.rt d, s) = some (d, s) := rfl
structure Dr where
  cells : List Int
  turn : Int
  rests : List Int
def mkSt (s : Dr) (o : Sto) : Sto := s.rests.map D.int :: [.lst (s.cells.map D.int), .int s.turn, .loc 0] :: o
/-- b more draws may be made -/
structure DOk (s : Dr) (b : Int) : Prop where
  pos : 0 < s.cells.length
  len : s.rests.length = s.cells.length
  t0 : 0 ≤ s.turn
  t1 : s.turn + b ≤ 10000000
section
variable {s : Dr} {o : Sto} {env : En}
theorem gt_drawn {f : DGs} : gT 3 f (.loc 1) env (mkSt s o) = f [.lst (s.cells.map D.int), .int s.turn, .loc 0] env (mkSt s o) := rfl
theorem set_turn {t : Int} : setC (mkSt s o) (.loc 1) (.int 1) (.int t) = some (mkSt ⟨s.cells, t, s.rests⟩ o) := rfl
theorem ix_rests {k : Int} : oIx (mkSt s o) (.loc 0) (.int k) = atI (s.rests.map D.int) k := rfl
theorem set_rests {k v : Int} (h0 : 0 ≤ k) (h : k < s.rests.length) : setC (mkSt s o) (.loc 0) (.int k) (.int v) = some (mkSt ⟨s.cells, s.turn, s.rests.set k.toNat v⟩ o) := by
  show (ixN (s.rests.map D.int).length k).map _ = _
  unfold ixN
  rw [if_pos h0, if_pos (by rw [List.length_map]; exact h)]
  simp only [Option.map_some, mkSt, List.set_cons_zero]
  rw [← List.map_set]
theorem at_int {xs : List Int} {k : Int} (h0 : 0 ≤ k) (h : k < xs.length) : ∃ v, v ∈ xs ∧ atI (xs.map D.int) k = some (.int v) := by
  obtain ⟨x, hx, e, e2⟩ := atI_in xs h0 h
  refine ⟨x, hx, ?_⟩
  have e3 : atI (xs.map D.int) ((k.toNat : Nat) : Int) = some (.int x) := atI_nat (by rw [List.getElem?_map, e2]; rfl)
  rwa [Int.toNat_of_nonneg h0] at e3
end
theorem mul_nat {a b : Int} (h : a.natAbs < 2 ^ 64) : mulOk a b = true := by
  unfold mulOk
  rw [decide_eq_true h]
  rfl
theorem mulOk_l {a b : Int} (h0 : -18446744073709551616 < a) (h1 : a < 18446744073709551616) : mulOk a b = true := by
  apply mul_nat
  have e : (2 : Nat) ^ 64 = 18446744073709551616 := by decide
  rw [e]
  omega
theorem o_pow3 {s : Sto} {i : Int} (h0 : 0 ≤ i) (h : i < 18446744073709551616) : oPow s (.int i) (.int 3) = some (.int (i ^ 3)) := by
  have e : (2 : Nat) ^ 64 = 18446744073709551616 := by decide
  show (if powOk i 3 then _ else _) = _
  unfold powOk
  rw [decide_eq_true (by decide : (0 : Int) ≤ 3), decide_eq_true (by decide : (3 : Int) ≤ 1000000), decide_eq_true (by rw [e]; omega)]
  rfl
set_option maxHeartbeats 8000000 in
theorem next_spec {F : String → Option Fn} (hF : F "_law_next" = some ⟨2, 9, b_l_next⟩) (n : Nat) {s : Dr} {b : Int} (hs : DOk s (b + 1)) (hb : 0 ≤ b) (o : Sto) {many : Int} (hm : 0 < many) (hm2 : many < 18446744073709551616) :
    ∃ r s', callN F (n + 1) "_law_next" [.loc 1, .int many] (mkSt s o) = some (.int r, mkSt s' o) ∧ 0 ≤ r ∧ r < many ∧ DOk s' b := by
  obtain ⟨h1, h2, h3, h4⟩ := hs
  rw [call_eq hF rfl]
  have hl : (0 : Int) < (s.cells.length : Int) := by omega
  have k0 : 0 ≤ s.turn % (s.cells.length : Int) := Int.emod_nonneg _ (by omega)
  have k1 : s.turn % (s.cells.length : Int) < s.cells.length := Int.emod_lt_of_pos _ hl
  obtain ⟨v, hv, ev⟩ := at_int (xs := s.rests) k0 (by rw [h2]; exact k1)
  obtain ⟨c, hc, ec⟩ := at_int (xs := s.cells) k0 k1
  have e0 : startE 9 [.loc 1, .int many] = [some (.loc 1), some (.int many), none, none, none, none, none, none, none] := rfl
  simp only [e0, b_l_next]
  have m1 : (c % 2147483629 + 39119 * s.turn + 9901) < 18446744073709551616 := by
    have := Int.emod_lt_of_pos c (by decide : (0 : Int) < 2147483629)
    omega
  have m0 : 0 ≤ (c % 2147483629 + 39119 * s.turn + 9901) := by
    have := Int.emod_nonneg c (by decide : (2147483629 : Int) ≠ 0)
    omega
  have i1 : oIx (mkSt ⟨s.cells, s.turn + 1, s.rests⟩ o) (.loc 0) (.int (s.turn % (s.cells.length : Int))) = some (.int v) := ev
  by_cases hv0 : 0 < v
  · have sr := set_rests (s := ⟨s.cells, s.turn + 1, s.rests⟩) (o := o) (v := v / many) k0 (show s.turn % (s.cells.length : Int) < ((s.rests.length : Nat) : Int) by rw [h2]; exact k1)
    repeat (first | walk_at "ev" | simp only [gt_drawn, o_mod hl, set_turn, i1, decide_eq_true hv0, o_mod hm, o_div hm hm2, sr, e_kfnR])
    refine ⟨_, _, rfl, Int.emod_nonneg _ (by omega), Int.emod_lt_of_pos _ hm, h1, ?_, ?_, ?_⟩
    · show (s.rests.set _ _).length = _
      rw [List.length_set]
      exact h2
    · show 0 ≤ s.turn + 1
      omega
    · show s.turn + 1 + b ≤ _
      omega
  · have p1 : mulOk 39119 s.turn = true := mulOk_l (by decide) (by decide)
    have p2 : mulOk 7001 s.turn = true := mulOk_l (by decide) (by decide)
    have p3 : mulOk (7001 * s.turn) s.turn = true := mulOk_l (by omega) (by omega)
    have M0 := Int.emod_nonneg ((c % 2147483629 + 39119 * s.turn + 9901) ^ 3) (by decide : (2147483587 : Int) ≠ 0)
    have M1 := Int.emod_lt_of_pos ((c % 2147483629 + 39119 * s.turn + 9901) ^ 3) (by decide : (0 : Int) < 2147483587)
    generalize hM : (c % 2147483629 + 39119 * s.turn + 9901) ^ 3 % 2147483587 = M at M0 M1
    have t2 : 0 ≤ 7001 * s.turn * s.turn ∧ 7001 * s.turn * s.turn ≤ 7001 * 10000000 * 10000000 := by
      have a1 : 7001 * s.turn ≤ 7001 * 10000000 := by omega
      have a0 : 0 ≤ 7001 * s.turn := by omega
      exact ⟨Int.mul_nonneg a0 h3, Int.mul_le_mul a1 (by omega) h3 (by omega)⟩
    have q0 : 0 ≤ M + 7001 * s.turn * s.turn + 41 := by omega
    have q1 : M + 7001 * s.turn * s.turn + 41 < 18446744073709551616 := by omega
    have G0 := Int.emod_nonneg ((M + 7001 * s.turn * s.turn + 41) ^ 3) (by decide : (2147483563 : Int) ≠ 0)
    have G1 := Int.emod_lt_of_pos ((M + 7001 * s.turn * s.turn + 41) ^ 3) (by decide : (0 : Int) < 2147483563)
    have p4 : mulOk ((M + 7001 * s.turn * s.turn + 41) ^ 3 % 2147483563) 2147483423 = true := mulOk_l (by omega) (by omega)
    repeat (first | walk_at "ev" | simp only [gt_drawn, o_mod hl, set_turn, i1, decide_eq_false hv0, ec, o_mod hm, o_mod (show (0 : Int) < 2147483629 by decide), o_mod (show (0 : Int) < 2147483587 by decide), o_mod (show (0 : Int) < 2147483563 by decide), o_mod (show (0 : Int) < 4611686018427387847 by decide), o_mul p1, o_mul p2, o_mul p3, o_mul p4, o_pow3 m0 m1, o_pow3 q0 q1, hM, e_kfnR])
    refine ⟨_, _, rfl, Int.emod_nonneg _ (by omega), Int.emod_lt_of_pos _ hm, h1, h2, ?_, ?_⟩
    · show 0 ≤ s.turn + 1
      omega
    · show s.turn + 1 + b ≤ _
      omega

/-- the next draw, as a caller of any level sees it -/
structure Draws (C : Orc) : Prop where
  nx : ∀ (s : Dr) (b : Int) (o : Sto) (many : Int), DOk s (b + 1) → 0 ≤ b → 0 < many → many < 18446744073709551616 → ∃ r s', C "_law_next" [.loc 1, .int many] (mkSt s o) = some (.int r, mkSt s' o) ∧ 0 ≤ r ∧ r < many ∧ DOk s' b
theorem draws_of {F : String → Option Fn} (hF : F "_law_next" = some ⟨2, 9, b_l_next⟩) (n : Nat) : Draws (callN F (n + 1)) := ⟨fun s b o many h1 h2 h3 h4 => next_spec hF n h1 h2 o h3 h4⟩
theorem DOk.mono {s : Dr} {a b : Int} (h : DOk s a) (hb : b ≤ a) : DOk s b := ⟨h.pos, h.len, h.t0, by have := h.t1; omega⟩
theorem at_list {xs : List D} {k : Int} {n : Int} (h0 : 0 ≤ k) (h : k < n) (hn : n = xs.length) : ∃ x, x ∈ xs ∧ atI xs k = some x := by
  obtain ⟨x, a, b, _⟩ := atI_in xs h0 (by omega)
  exact ⟨x, a, b⟩
set_option maxHeartbeats 8000000 in
theorem amount_spec {F : String → Option Fn} (hN : F "_law_next" = some ⟨2, 9, b_l_next⟩) (hF : F "_law_amount" = some ⟨2, 3, b_l_amount⟩) (n : Nat) {s : Dr} {b : Int} (hs : DOk s (b + 3)) (hb : 0 ≤ b) (o : Sto) {size : Int} (h0 : 0 ≤ size) (h1 : size < 10000000000000) :
    ∃ r s', callN F (n + 2) "_law_amount" [.loc 1, .int size] (mkSt s o) = some (.int r, mkSt s' o) ∧ 0 ≤ r ∧ r ≤ size ∧ DOk s' b := by
  have dr := draws_of hN n
  rw [call_eq hF rfl]
  have e0 : startE 3 [.loc 1, .int size] = [some (.loc 1), some (.int size), none] := rfl
  simp only [e0, b_l_amount]
  obtain ⟨f, s1, k1, f0, f1, d1⟩ := dr.nx s (b + 2) o (min size 3 + 1) (hs.mono (by omega)) (by omega) (by omega) (by omega)
  obtain ⟨t, s2, k2, t0, t1, d2⟩ := dr.nx s1 (b + 1) o (size + 1) (d1.mono (by omega)) (by omega) (by omega) (by omega)
  obtain ⟨i, s3, k3, i0, i1, d3⟩ := dr.nx s2 b o 3 d2 hb (by omega) (by omega)
  obtain ⟨x, hx, ex⟩ := at_list (xs := [D.int f, .int (size - f), .int t]) (n := 3) i0 i1 rfl
  repeat (first | walk_at "ev" | simp only [k1, k2, k3, ex, e_kfnR])
  simp only [List.mem_cons, List.not_mem_nil, or_false] at hx
  rcases hx with rfl | rfl | rfl
  · exact ⟨_, _, rfl, f0, by omega, d3⟩
  · exact ⟨_, _, rfl, by omega, by omega, d3⟩
  · exact ⟨_, _, rfl, t0, by omega, d3⟩
structure Amounts (C : Orc) : Prop where
  am : ∀ (s : Dr) (b : Int) (o : Sto) (size : Int), DOk s (b + 3) → 0 ≤ b → 0 ≤ size → size < 10000000000000 → ∃ r s', C "_law_amount" [.loc 1, .int size] (mkSt s o) = some (.int r, mkSt s' o) ∧ 0 ≤ r ∧ r ≤ size ∧ DOk s' b
theorem amounts_of {F : String → Option Fn} (hN : F "_law_next" = some ⟨2, 9, b_l_next⟩) (hF : F "_law_amount" = some ⟨2, 3, b_l_amount⟩) (n : Nat) : Amounts (callN F (n + 2)) := ⟨fun s b o size h1 h2 h3 h4 => amount_spec hN hF n h1 h2 o h3 h4⟩
set_option maxHeartbeats 8000000 in
theorem pair_spec {F : String → Option Fn} (hN : F "_law_next" = some ⟨2, 9, b_l_next⟩) (hF : F "_law_pair" = some ⟨2, 3, b_l_pair⟩) (n : Nat) {s : Dr} {b : Int} (hs : DOk s (b + 2)) (hb : 0 ≤ b) (o : Sto) {c : Int} (h0 : 1 < c) (h1 : c < 1000) :
    ∃ i j s', callN F (n + 2) "_law_pair" [.loc 1, .int c] (mkSt s o) = some (.tup [.int i, .int j], mkSt s' o) ∧ 0 ≤ i ∧ i < c ∧ 0 ≤ j ∧ j < c ∧ i ≠ j ∧ DOk s' b := by
  have dr := draws_of hN n
  rw [call_eq hF rfl]
  have e0 : startE 3 [.loc 1, .int c] = [some (.loc 1), some (.int c), none] := rfl
  simp only [e0, b_l_pair]
  obtain ⟨i, s1, k1, i0, i1, d1⟩ := dr.nx s (b + 1) o c (hs.mono (by omega)) (by omega) (by omega) (by omega)
  obtain ⟨t, s2, k2, t0, t1, d2⟩ := dr.nx s1 b o (c - 1) d1 hb (by omega) (by omega)
  repeat (first | walk_at "ev" | simp only [k1, k2, o_mod (show 0 < c by omega), e_kfnR])
  refine ⟨_, _, _, rfl, i0, i1, Int.emod_nonneg _ (by omega), Int.emod_lt_of_pos _ (by omega), ?_, d2⟩
  intro e
  by_cases hc : i + 1 + t < c
  · rw [Int.emod_eq_of_lt (by omega) hc] at e
    omega
  · have e2 : (i + 1 + t) % c = i + 1 + t - c := by
      rw [← Int.sub_emod_right, Int.emod_eq_of_lt (by omega) (by omega)]
    rw [e2] at e
    omega
structure Pairs (C : Orc) : Prop where
  pr : ∀ (s : Dr) (b : Int) (o : Sto) (c : Int), DOk s (b + 2) → 0 ≤ b → 1 < c → c < 1000 → ∃ i j s', C "_law_pair" [.loc 1, .int c] (mkSt s o) = some (.tup [.int i, .int j], mkSt s' o) ∧ 0 ≤ i ∧ i < c ∧ 0 ≤ j ∧ j < c ∧ i ≠ j ∧ DOk s' b
theorem pairs_of {F : String → Option Fn} (hN : F "_law_next" = some ⟨2, 9, b_l_next⟩) (hF : F "_law_pair" = some ⟨2, 3, b_l_pair⟩) (n : Nat) : Pairs (callN F (n + 2)) := ⟨fun s b o c h1 h2 h3 h4 => pair_spec hN hF n h1 h2 o h3 h4⟩
/-- what a cell of 10 ** 18 or more leaves -/
def restOf (c : Int) : Int := c * (if decide (1000000000000000000 ≤ c) then 1 else 0)
set_option maxHeartbeats 8000000 in
theorem draws_spec {F : String → Option Fn} (hF : F "_law_draws" = some ⟨1, 3, b_l_draws⟩) (n : Nat) (ns : List Int) (hl : ns.length ≤ 63) :
    ∃ s, callN F (n + 1) "_law_draws" [.scr (ns.map D.int)] [] = some (.loc 1, mkSt s []) ∧ DOk s 10000000 := by
  rw [call_eq hF rfl]
  have e0 : startE 3 [.scr (ns.map D.int)] = [some (.scr (ns.map D.int)), none, none] := rfl
  simp only [e0, b_l_draws]
  have e1 : sliceD [] none (some 63) (.scr (ns.map D.int)) = some (.lst (ns.map D.int)) := by
    show some (D.lst (cutD (ns.map D.int) none (some 63))) = _
    unfold cutD
    rw [HT.sIx_none, show (some (63 : Int)) = some ((63 : Nat) : Int) from rfl, HT.sIx_nat, List.drop_zero, List.length_map, List.take_of_length_le (by rw [List.length_map]; omega)]
  have e2 : gList [] [.lst (ns.map D.int)] = some (.lst (ns.map D.int)) := rfl
  have e3 : ∃ cs : List Int, 0 < cs.length ∧ (oMul [] (.lst [.int 0]) (.int (if decide ((ns.length : Int) = 0) then 1 else 0))).bind (fun d => oAdd [] (.lst (ns.map D.int)) d) = some (.lst (cs.map D.int)) := by
    cases ns with
    | nil => exact ⟨[0], by decide, rfl⟩
    | cons a t =>
      refine ⟨a :: t, by simp, ?_⟩
      have hne : ¬ (((a :: t).length : Int) = 0) := by
        rw [List.length_cons]
        omega
      rw [decide_eq_false hne]
      show oAdd [] (.lst ((a :: t).map D.int)) (.lst []) = _
      show (if fits (((a :: t).map D.int).length + 0) then some (D.lst ((a :: t).map D.int ++ [])) else none) = _
      rw [List.append_nil, List.length_map]
      unfold fits
      rw [decide_eq_true (by omega)]
      rfl
  obtain ⟨cs, hcs, e3⟩ := e3
  obtain ⟨dz, e4, e5⟩ := Option.bind_eq_some_iff.mp e3
  have e6 : ∀ {env : En}, lcL always (gN 2) bYes (eOp oMul (eVar 2) (eBlt gInt (aCons (eOp oGe (eVar 2) (eOp oPow (eC (.int 10)) (eC (.int 18)))) aNil))) [some (D.scr (ns.map D.int)), some (.lst (cs.map D.int)), none] (cs.map D.int) [] = some ((cs.map restOf).map D.int, []) := by
    intro env
    have := lc_pure (tg := gN 2) (ifs := bYes) (elt := eOp oMul (eVar 2) (eBlt gInt (aCons (eOp oGe (eVar 2) (eOp oPow (eC (.int 10)) (eC (.int 18)))) aNil))) (env := [some (D.scr (ns.map D.int)), some (.lst (cs.map D.int)), none]) (s := []) (fun d => match d with | .int c => .int (restOf c) | d => d) (cs.map D.int) (by
      intro d hd
      obtain ⟨c, _, rfl⟩ := List.mem_map.mp hd
      refine ⟨_, rfl, rfl, ?_⟩
      have hp : oPow [] (.int 10) (.int 18) = some (.int 1000000000000000000) := by rfl
      have hm : mulOk c (if decide (1000000000000000000 ≤ c) = true then 1 else 0) = true := by
        unfold mulOk
        rw [show decide ((if decide (1000000000000000000 ≤ c) = true then (1 : Int) else 0).natAbs < 2 ^ 64) = true by split <;> decide]
        exact Bool.or_true _
      repeat (first | walk_at "ev" | simp only [hp, o_mul hm])
      rfl)
    rw [this, List.map_map, List.map_map]
    rfl
  repeat (first | walk_at "ev" | simp only [e1, e2, e4, e5, e6 (env := []), e_kfnR])
  refine ⟨⟨cs, 0, cs.map restOf⟩, rfl, hcs, ?_, Int.le_refl _, by show (0 : Int) + _ ≤ _; omega⟩
  show (cs.map restOf).length = cs.length
  rw [List.length_map]
end Tg
/-! Rigs as the laws draw them. -/

namespace Tg
open PySem PySem.Spec PyProof.Rows L2
noncomputable def b_l_rig_f1 (C : Orc) : DS := (sSeq (sAsg (eOp oAdd (eVar 5) (eCall C "_law_amount" (aCons (eVar 0) (aCons (eVar 2) aNil)))) (gN 9))
    (sSeq (sExpr (eAppend (eVar 6) (eVar 9)))
    (sSeq (sAsg (eBlt gMax2 (aCons (eUn oNeg (eOp oPow (eC (.int 10)) (eC (.int 12)))) (aCons (eOp oSub (eVar 9) (eCall C "_law_amount" (aCons (eVar 0) (aCons (eVar 2) aNil)))) aNil))) (gN 10))
    (sSeq (sAsg (eBlt gMin2 (aCons (eOp oPow (eC (.int 10)) (eC (.int 12))) (aCons (eOp oAdd (eVar 9) (eCall C "_law_amount" (aCons (eVar 0) (aCons (eVar 2) aNil)))) aNil))) (gN 11))
    (sSeq (sExpr (eAppend (eVar 7) (eTup (aCons (eVar 10) (aCons (eVar 11) (aCons (eOp oSub (eCall C "_law_amount" (aCons (eVar 0) (aCons (eOp oMul (eC (.int 2)) (eVar 4)) aNil))) (eVar 4)) aNil))))))
    sNil)))))
noncomputable def b_l_rig_f2 (C : Orc) : DS := (sSeq (sAsg (eCall C "_law_pair" (aCons (eVar 0) (aCons (eVar 3) aNil))) (gT 2 (gsCons (gN 14) (gsCons (gN 15) gsNil))))
    (sSeq (sAsg (eOp oSub (eOp oAdd (eOp oSub (eOp oIx (eVar 6) (eVar 15)) (eOp oIx (eVar 6) (eVar 14))) (eCall C "_law_next" (aCons (eVar 0) (aCons (eC (.int 5)) aNil)))) (eC (.int 2))) (gN 16))
    (sSeq (sExpr (eAppend (eVar 12) (eTup (aCons (eVar 14) (aCons (eVar 15) (aCons (eVar 16) (aCons (eOp oAdd (eC (.int 1)) (eCall C "_law_amount" (aCons (eVar 0) (aCons (eOp oSub (eVar 4) (eC (.int 1))) aNil)))) aNil)))))))
    sNil)))
noncomputable def b_l_rig_f3 (C : Orc) : DS := (sSeq (sAsg (eCall C "_law_pair" (aCons (eVar 0) (aCons (eVar 3) aNil))) (gT 2 (gsCons (gN 14) (gsCons (gN 15) gsNil))))
    (sSeq (sExpr (eAppend (eVar 13) (eTup (aCons (eVar 14) (aCons (eVar 15) (aCons (eOp oAdd (eOp oSub (eOp oIx (eVar 6) (eVar 15)) (eOp oIx (eVar 6) (eVar 14))) (eCall C "_law_amount" (aCons (eVar 0) (aCons (eC (.int 2)) aNil)))) aNil))))))
    sNil))
noncomputable def b_l_rig (C : Orc) : DS := (sSeq (sAsg (eOp oAdd (eC (.int 1)) (eCall C "_law_next" (aCons (eVar 0) (aCons (eVar 1) aNil)))) (gN 3))
    (sSeq (sAsg (eOp oIx (eLst (aCons (eC (.int 3)) (aCons (eC (.int 9)) (aCons (eOp oPow (eC (.int 10)) (eC (.int 9))) aNil)))) (eCall C "_law_next" (aCons (eVar 0) (aCons (eC (.int 3)) aNil)))) (gN 4))
    (sSeq (sAsg (eOp oIx (eLst (aCons (eC (.int 0)) (aCons (eC (.int 0)) (aCons (eUn oNeg (eC (.int 3))) (aCons (eOp oSub (eOp oPow (eC (.int 10)) (eC (.int 12))) (eOp oMul (eC (.int 2)) (eVar 2))) aNil))))) (eCall C "_law_next" (aCons (eVar 0) (aCons (eC (.int 4)) aNil)))) (gN 5))
    (sSeq (sPar2 6 7 (aCons (eMLst aNil) (aCons (eMLst aNil) aNil)))
    (sSeq (sFor (iRng (aCons (eVar 3) aNil)) (gN 8) (b_l_rig_f1 C))
    (sSeq (sPar2 12 13 (aCons (eMLst aNil) (aCons (eMLst aNil) aNil)))
    (sSeq (sIf (bVal (eOp oGt (eVar 3) (eC (.int 1)))) (sSeq (sFor (iRng (aCons (eOp oIx (eLst (aCons (eC (.int 0)) (aCons (eC (.int 1)) (aCons (eC (.int 2)) (aCons (eC (.int 3)) (aCons (eC (.int 5)) (aCons (eC (.int 12)) aNil))))))) (eCall C "_law_next" (aCons (eVar 0) (aCons (eC (.int 6)) aNil)))) aNil)) (gN 8) (b_l_rig_f2 C))
    (sSeq (sFor (iRng (aCons (eOp oIx (eLst (aCons (eC (.int 0)) (aCons (eC (.int 0)) (aCons (eC (.int 1)) (aCons (eC (.int 2)) (aCons (eC (.int 8)) aNil)))))) (eCall C "_law_next" (aCons (eVar 0) (aCons (eC (.int 5)) aNil)))) aNil)) (gN 8) (b_l_rig_f3 C))
    sNil)) sNil)
    (sSeq (sRet (eLst (aCons (eTup (aCons (eBlt gTuple (aCons (eVar 7) aNil)) (aCons (eBlt gTuple (aCons (eVar 12) aNil)) (aCons (eBlt gTuple (aCons (eVar 13) aNil)) aNil)))) (aCons (eBlt gTuple (aCons (eVar 6) aNil)) aNil))))
    sNil))))))))
structure Ring where
  lo : Int
  hi : Int
  ld : Int
structure Cord where
  a : Int
  b : Int
  len : Int
  w : Int
structure Bar where
  a : Int
  b : Int
  len : Int
def ringD (r : Ring) : D := .tup [.int r.lo, .int r.hi, .int r.ld]
def cordD (c : Cord) : D := .tup [.int c.a, .int c.b, .int c.len, .int c.w]
def barD (c : Bar) : D := .tup [.int c.a, .int c.b, .int c.len]
/-- a ring with its place, the cords and bars -/
structure Rig where
  qs : List (Ring × Int)
  cords : List Cord
  bars : List Bar
def Rig.rings (R : Rig) : List Ring := R.qs.map (·.1)
def Rig.ps (R : Rig) : List Int := R.qs.map (·.2)
def Rig.d (R : Rig) : D := .tup [.tup (R.rings.map ringD), .tup (R.cords.map cordD), .tup (R.bars.map barD)]
def Rig.pd (R : Rig) : D := .tup (R.ps.map D.int)
def QOk (size : Int) (q : Ring × Int) : Prop := q.1.lo ≤ q.2 ∧ q.2 ≤ q.1.hi ∧ -1000000000000 ≤ q.1.lo ∧ q.1.hi ≤ 1000000000000 ∧ -1000000000 ≤ q.1.ld ∧ q.1.ld ≤ 1000000000
def CordOk (n : Nat) (c : Cord) : Prop := 0 ≤ c.a ∧ c.a < n ∧ 0 ≤ c.b ∧ c.b < n ∧ c.a ≠ c.b ∧ -2000000000000 ≤ c.len ∧ c.len ≤ 2000000000000 ∧ 1 ≤ c.w ∧ c.w ≤ 1000000000
def BarOk (ps : List Int) (c : Bar) : Prop := 0 ≤ c.a ∧ c.a < ps.length ∧ 0 ≤ c.b ∧ c.b < ps.length ∧ c.a ≠ c.b ∧ -2000000000000 ≤ c.len ∧ c.len ≤ 2000000000000 ∧ ∃ x y, ps[c.a.toNat]? = some x ∧ ps[c.b.toNat]? = some y ∧ y - x ≤ c.len
structure RigOk (most : Int) (R : Rig) : Prop where
  n1 : 1 ≤ R.qs.length
  n2 : (R.qs.length : Int) ≤ most
  q : ∀ q ∈ R.qs, QOk 0 q
  c1 : R.cords.length ≤ 12
  c2 : ∀ c ∈ R.cords, CordOk R.qs.length c
  b1 : R.bars.length ≤ 8
  b2 : ∀ c ∈ R.bars, BarOk R.ps c
section
variable {s : Dr} {o l : Sto} {d : D}
theorem mk_len : (mkSt s o).length = o.length + 2 := rfl
theorem mk_app {c : List D} : mkSt s o ++ [c] = mkSt s (o ++ [c]) := rfl
theorem mk_get {n k : Nat} (hn : n = o.length + 2 + k) : (mkSt s (o ++ l))[n]? = l[k]? := by
  have : n = (o.length + k) + 2 := by omega
  subst this
  show (o ++ l)[o.length + k]? = _
  rw [List.getElem?_append_right (by omega), Nat.add_sub_cancel_left]
theorem mk_set {n k : Nat} {c : List D} (hn : n = o.length + 2 + k) : (mkSt s (o ++ l)).set n c = mkSt s (o ++ l.set k c) := by
  have : n = (o.length + k) + 2 := by omega
  subst this
  show _ :: _ :: (o ++ l).set (o.length + k) c = _
  rw [List.set_append_right _ _ (by omega), Nat.add_sub_cancel_left]
  rfl
theorem app_at {n k : Nat} {a : List D} (hn : n = o.length + 2 + k) (ha : l[k]? = some a) (hf : fits a.length = true) :
    kApp2 (.loc n) (d, mkSt s (o ++ l)) = some (.non, mkSt s (o ++ l.set k (a ++ [d]))) := by
  show ((mkSt s (o ++ l))[n]?).bind _ = _
  rw [mk_get hn, ha]
  show (if fits a.length then _ else _) = _
  rw [hf, if_pos rfl, mk_set hn]
theorem tup_at {n k : Nat} {a : List D} (hn : n = o.length + 2 + k) (ha : l[k]? = some a) : gTuple (mkSt s (o ++ l)) [.loc n] = some (.tup a) := by
  show ((mkSt s (o ++ l))[n]?).map D.tup = _
  rw [mk_get hn, ha]
  rfl
theorem ix_at {n k : Nat} {a : List D} {i : Int} (hn : n = o.length + 2 + k) (ha : l[k]? = some a) : oIx (mkSt s (o ++ l)) (.loc n) (.int i) = atI a i := by
  show ((mkSt s (o ++ l))[n]?).bind _ = _
  rw [mk_get hn, ha]
  rfl
end

theorem len1 {α : Type} (l : List α) (x : α) : (l ++ [x]).length = l.length + 1 := by simp
theorem fits_small {n : Nat} (h : n ≤ 1000) : fits n = true := decide_eq_true (by omega)
def plD (qs : List (Ring × Int)) : List D := qs.map fun q => D.int q.2
def rgD (qs : List (Ring × Int)) : List D := qs.map fun q => ringD q.1
theorem plD_len (qs : List (Ring × Int)) : (plD qs).length = qs.length := List.length_map ..
theorem rgD_len (qs : List (Ring × Int)) : (rgD qs).length = qs.length := List.length_map ..
theorem plD_app (qs : List (Ring × Int)) (q : Ring × Int) : plD (qs ++ [q]) = plD qs ++ [.int q.2] := by simp [plD]
theorem rgD_app (qs : List (Ring × Int)) (q : Ring × Int) : rgD (qs ++ [q]) = rgD qs ++ [ringD q.1] := by simp [rgD]
/-- the rings -/
def rigP1 (o : Sto) (b most size count heavy shift : Int) (ds : List D) (env : En) (st : Sto) : Prop := ∃ (s : Dr) (qs : List (Ring × Int)) (v8 v9 v10 v11 : Option D),
  env = [some (.loc 1), some (.int most), some (.int size), some (.int count), some (.int heavy), some (.int shift), some (.loc (o.length + 2)), some (.loc (o.length + 3)), v8, v9, v10, v11, none, none, none, none, none] ∧
  st = mkSt s (o ++ [plD qs, rgD qs]) ∧ DOk s (b + 12 * ds.length) ∧ (qs.length : Int) + ds.length = count ∧ (∀ q ∈ qs, QOk 0 q ∧ shift ≤ q.2 ∧ q.2 ≤ shift + size ∧ q.1.hi - q.1.lo ≤ 2 * size)
set_option maxHeartbeats 8000000 in
theorem rig_f1 {C : Orc} (am : Amounts C) {o : Sto} {b most size count heavy shift : Int} (hb : 0 ≤ b) (h0 : 0 ≤ size) (h1 : size ≤ 1000000000000) (hc : count ≤ 8) (hh : 0 ≤ heavy) (hh2 : heavy ≤ 1000000000) (hs0 : -1000000000000 ≤ shift) (hs1 : shift ≤ 1000000000000 - size)
    (d : D) (ds : List D) (env : En) (st : Sto) (h : rigP1 o b most size count heavy shift (d :: ds) env st) :
    ∃ e s, gN 8 d env st = some (e, s) ∧ ∃ e2 s2, b_l_rig_f1 C e s = some (.nx e2, s2) ∧ rigP1 o b most size count heavy shift ds e2 s2 := by
  obtain ⟨s, qs, v8, v9, v10, v11, rfl, rfl, hd, hl, hq⟩ := h
  rw [List.length_cons] at hd hl
  refine ⟨_, _, rfl, ?_⟩
  obtain ⟨x, s1, k1, x0, x1, d1⟩ := am.am s (b + 12 * ds.length + 9) (o ++ [plD qs, rgD qs]) size (hd.mono (by omega)) (by omega) h0 (by omega)
  obtain ⟨y, s2, k2, y0, y1, d2⟩ := am.am s1 (b + 12 * ds.length + 6) (o ++ [plD qs ++ [.int (shift + x)], rgD qs]) size (d1.mono (by omega)) (by omega) h0 (by omega)
  obtain ⟨z, s3, k3, z0, z1, d3⟩ := am.am s2 (b + 12 * ds.length + 3) (o ++ [plD qs ++ [.int (shift + x)], rgD qs]) size (d2.mono (by omega)) (by omega) h0 (by omega)
  obtain ⟨w, s4, k4, w0, w1, d4⟩ := am.am s3 (b + 12 * ds.length) (o ++ [plD qs ++ [.int (shift + x)], rgD qs]) (2 * heavy) (d3.mono (by omega)) (by omega) (by omega) (by omega)
  have a1 := app_at (s := s1) (o := o) (l := [plD qs, rgD qs]) (d := .int (shift + x)) (n := o.length + 2) (k := 0) rfl rfl (fits_small (by rw [plD_len]; omega))
  have a2 := fun dd : D => app_at (s := s4) (o := o) (l := [plD qs ++ [.int (shift + x)], rgD qs]) (d := dd) (n := o.length + 3) (k := 1) rfl rfl (fits_small (by rw [rgD_len]; omega))
  have p12 : oPow (mkSt s1 (o ++ [plD qs ++ [.int (shift + x)], rgD qs])) (.int 10) (.int 12) = some (.int 1000000000000) := rfl
  have p12' : oPow (mkSt s2 (o ++ [plD qs ++ [.int (shift + x)], rgD qs])) (.int 10) (.int 12) = some (.int 1000000000000) := rfl
  have m2 : mulOk 2 heavy = true := mulOk_l (by decide) (by decide)
  simp only [List.set_cons_zero, List.set_cons_succ] at a1 a2
  simp only [b_l_rig_f1]
  repeat (first | walk_at "ev" | simp only [k1, k2, k3, k4, a1, a2, p12, p12', o_mul m2])
  refine ⟨_, _, rfl, s4, qs ++ [(⟨max (-1000000000000) (shift + x - y), min 1000000000000 (shift + x + z), w - heavy⟩, shift + x)], _, _, _, _, rfl, ?_, d4, ?_, ?_⟩
  · rw [plD_app, rgD_app]
    rfl
  · rw [len1]
    omega
  · intro q hq2
    rcases List.mem_append.mp hq2 with hq2 | hq2
    · exact hq q hq2
    · rw [List.mem_singleton.mp hq2]
      refine ⟨⟨?_, ?_, ?_, ?_, ?_, ?_⟩, ?_, ?_, ?_⟩ <;> simp only [] <;> omega

def csD (cs : List Cord) : List D := cs.map cordD
def bsD (cs : List Bar) : List D := cs.map barD
theorem csD_len (cs : List Cord) : (csD cs).length = cs.length := List.length_map ..
theorem bsD_len (cs : List Bar) : (bsD cs).length = cs.length := List.length_map ..
theorem csD_app (cs : List Cord) (c : Cord) : csD (cs ++ [c]) = csD cs ++ [cordD c] := by simp [csD]
theorem bsD_app (cs : List Bar) (c : Bar) : bsD (cs ++ [c]) = bsD cs ++ [barD c] := by simp [bsD]
theorem plD_at {qs : List (Ring × Int)} {i : Int} (h0 : 0 ≤ i) (h : i < qs.length) : ∃ q, q ∈ qs ∧ qs[i.toNat]? = some q ∧ atI (plD qs) i = some (.int q.2) := by
  obtain ⟨q, a, _, b⟩ := atI_in qs h0 h
  refine ⟨q, a, b, ?_⟩
  have e : atI (plD qs) ((i.toNat : Nat) : Int) = some (.int q.2) := atI_nat (by unfold plD; rw [List.getElem?_map, b]; rfl)
  rwa [Int.toNat_of_nonneg h0] at e
/-- the cords -/
def rigP2 (o : Sto) (qs : List (Ring × Int)) (b most size count heavy shift : Int) (ds : List D) (env : En) (st : Sto) : Prop := ∃ (s : Dr) (cs : List Cord) (v8 v9 v10 v11 v14 v15 v16 : Option D),
  env = [some (.loc 1), some (.int most), some (.int size), some (.int count), some (.int heavy), some (.int shift), some (.loc (o.length + 2)), some (.loc (o.length + 3)), v8, v9, v10, v11, some (.loc (o.length + 4)), some (.loc (o.length + 5)), v14, v15, v16] ∧
  st = mkSt s (o ++ [plD qs, rgD qs, csD cs, []]) ∧ DOk s (b + 6 * ds.length) ∧ cs.length + ds.length ≤ 12 ∧ (∀ c ∈ cs, CordOk qs.length c)
set_option maxHeartbeats 8000000 in
theorem rig_f2 {C : Orc} (dr : Draws C) (am : Amounts C) (pr : Pairs C) {o : Sto} {qs : List (Ring × Int)} {b most size count heavy shift : Int} (hb : 0 ≤ b) (h0 : 0 ≤ size) (h1 : size ≤ 1000000000000) (hc0 : 1 < count) (hc : count ≤ 8) (hcq : (qs.length : Int) = count) (hh : 1 ≤ heavy) (hh2 : heavy ≤ 1000000000)
    (hq : ∀ q ∈ qs, shift ≤ q.2 ∧ q.2 ≤ shift + size) (d : D) (ds : List D) (env : En) (st : Sto) (h : rigP2 o qs b most size count heavy shift (d :: ds) env st) :
    ∃ e s, gN 8 d env st = some (e, s) ∧ ∃ e2 s2, b_l_rig_f2 C e s = some (.nx e2, s2) ∧ rigP2 o qs b most size count heavy shift ds e2 s2 := by
  obtain ⟨s, cs, v8, v9, v10, v11, v14, v15, v16, rfl, rfl, hd, hl, hcs⟩ := h
  rw [List.length_cons] at hd hl
  refine ⟨_, _, rfl, ?_⟩
  obtain ⟨i, j, s1, k1, i0, i1, j0, j1, hij, d1⟩ := pr.pr s (b + 6 * ds.length + 4) (o ++ [plD qs, rgD qs, csD cs, []]) count (hd.mono (by omega)) (by omega) hc0 (by omega)
  obtain ⟨r, s2, k2, r0, r1, d2⟩ := dr.nx s1 (b + 6 * ds.length + 3) (o ++ [plD qs, rgD qs, csD cs, []]) 5 (d1.mono (by omega)) (by omega) (by omega) (by omega)
  obtain ⟨w, s3, k3, w0, w1, d3⟩ := am.am s2 (b + 6 * ds.length) (o ++ [plD qs, rgD qs, csD cs, []]) (heavy - 1) (d2.mono (by omega)) (by omega) (by omega) (by omega)
  obtain ⟨qi, mi, gi, ai⟩ := plD_at (qs := qs) i0 (by omega)
  obtain ⟨qj, mj, gj, aj⟩ := plD_at (qs := qs) j0 (by omega)
  have xi := (ix_at (s := s1) (o := o) (l := [plD qs, rgD qs, csD cs, []]) (i := i) (n := o.length + 2) (k := 0) rfl rfl).trans ai
  have xj := (ix_at (s := s1) (o := o) (l := [plD qs, rgD qs, csD cs, []]) (i := j) (n := o.length + 2) (k := 0) rfl rfl).trans aj
  have a1 := fun dd : D => app_at (s := s3) (o := o) (l := [plD qs, rgD qs, csD cs, []]) (d := dd) (n := o.length + 4) (k := 2) rfl rfl (fits_small (by rw [csD_len]; omega))
  have hqi := hq qi mi
  have hqj := hq qj mj
  simp only [List.set_cons_zero, List.set_cons_succ] at a1
  simp only [b_l_rig_f2]
  repeat (first | walk_at "ev" | simp only [k1, k2, k3, a1, xi, xj, e_gtT, if_true, reduceIte, Nat.reduceAdd])
  refine ⟨_, _, rfl, s3, cs ++ [⟨i, j, qj.2 - qi.2 + r - 2, 1 + w⟩], _, _, _, _, _, _, _, rfl, ?_, d3, ?_, ?_⟩
  · rw [csD_app]
    rfl
  · rw [len1]
    omega
  · intro c hc2
    rcases List.mem_append.mp hc2 with hc2 | hc2
    · exact hcs c hc2
    · rw [List.mem_singleton.mp hc2]
      refine ⟨i0, ?_, j0, ?_, hij, ?_, ?_, ?_, ?_⟩ <;> simp only [] <;> omega
/-- the bars -/
def rigP3 (o : Sto) (qs : List (Ring × Int)) (cs : List Cord) (b most size count heavy shift : Int) (ds : List D) (env : En) (st : Sto) : Prop := ∃ (s : Dr) (bs : List Bar) (v8 v9 v10 v11 v14 v15 v16 : Option D),
  env = [some (.loc 1), some (.int most), some (.int size), some (.int count), some (.int heavy), some (.int shift), some (.loc (o.length + 2)), some (.loc (o.length + 3)), v8, v9, v10, v11, some (.loc (o.length + 4)), some (.loc (o.length + 5)), v14, v15, v16] ∧
  st = mkSt s (o ++ [plD qs, rgD qs, csD cs, bsD bs]) ∧ DOk s (b + 5 * ds.length) ∧ bs.length + ds.length ≤ 8 ∧ (∀ c ∈ bs, BarOk (qs.map (·.2)) c)
set_option maxHeartbeats 8000000 in
theorem rig_f3 {C : Orc} (dr : Draws C) (am : Amounts C) (pr : Pairs C) {o : Sto} {qs : List (Ring × Int)} {cs : List Cord} {b most size count heavy shift : Int} (hb : 0 ≤ b) (h0 : 0 ≤ size) (h1 : size ≤ 1000000000000) (hc0 : 1 < count) (hc : count ≤ 8) (hcq : (qs.length : Int) = count)
    (hq : ∀ q ∈ qs, shift ≤ q.2 ∧ q.2 ≤ shift + size) (d : D) (ds : List D) (env : En) (st : Sto) (h : rigP3 o qs cs b most size count heavy shift (d :: ds) env st) :
    ∃ e s, gN 8 d env st = some (e, s) ∧ ∃ e2 s2, b_l_rig_f3 C e s = some (.nx e2, s2) ∧ rigP3 o qs cs b most size count heavy shift ds e2 s2 := by
  obtain ⟨s, bs, v8, v9, v10, v11, v14, v15, v16, rfl, rfl, hd, hl, hcs⟩ := h
  rw [List.length_cons] at hd hl
  refine ⟨_, _, rfl, ?_⟩
  obtain ⟨i, j, s1, k1, i0, i1, j0, j1, hij, d1⟩ := pr.pr s (b + 5 * ds.length + 3) (o ++ [plD qs, rgD qs, csD cs, bsD bs]) count (hd.mono (by omega)) (by omega) hc0 (by omega)
  obtain ⟨w, s3, k3, w0, w1, d3⟩ := am.am s1 (b + 5 * ds.length) (o ++ [plD qs, rgD qs, csD cs, bsD bs]) 2 (d1.mono (by omega)) (by omega) (by omega) (by omega)
  obtain ⟨qi, mi, gi, ai⟩ := plD_at (qs := qs) i0 (by omega)
  obtain ⟨qj, mj, gj, aj⟩ := plD_at (qs := qs) j0 (by omega)
  have xi := (ix_at (s := s1) (o := o) (l := [plD qs, rgD qs, csD cs, bsD bs]) (i := i) (n := o.length + 2) (k := 0) rfl rfl).trans ai
  have xj := (ix_at (s := s1) (o := o) (l := [plD qs, rgD qs, csD cs, bsD bs]) (i := j) (n := o.length + 2) (k := 0) rfl rfl).trans aj
  have a1 := fun dd : D => app_at (s := s3) (o := o) (l := [plD qs, rgD qs, csD cs, bsD bs]) (d := dd) (n := o.length + 5) (k := 3) rfl rfl (fits_small (by rw [bsD_len]; omega))
  have hqi := hq qi mi
  have hqj := hq qj mj
  simp only [List.set_cons_zero, List.set_cons_succ] at a1
  simp only [b_l_rig_f3]
  repeat (first | walk_at "ev" | simp only [k1, k3, a1, xi, xj, e_gtT, if_true, reduceIte, Nat.reduceAdd])
  refine ⟨_, _, rfl, s3, bs ++ [⟨i, j, qj.2 - qi.2 + w⟩], _, _, _, _, _, _, _, rfl, ?_, d3, ?_, ?_⟩
  · rw [bsD_app]
    rfl
  · rw [len1]
    omega
  · intro c hc2
    rcases List.mem_append.mp hc2 with hc2 | hc2
    · exact hcs c hc2
    · rw [List.mem_singleton.mp hc2]
      refine ⟨i0, ?_, j0, ?_, hij, ?_, ?_, qi.2, qj.2, ?_, ?_, ?_⟩
      · rw [List.length_map]; simp only []; omega
      · rw [List.length_map]; simp only []; omega
      · simp only []; omega
      · simp only []; omega
      · rw [List.getElem?_map]; simp only []; rw [gi]; rfl
      · rw [List.getElem?_map]; simp only []; rw [gj]; rfl
      · simp only []; omega
structure Rigs (C : Orc) : Prop where
  sp : ∀ (s : Dr) (b : Int) (o : Sto) (most size : Int), DOk s (b + 300) → 0 ≤ b → 1 ≤ most → most ≤ 8 → 0 ≤ size → size ≤ 1000000000000 → ∃ R s' g, C "_law_rig" [.loc 1, .int most, .int size] (mkSt s o) = some (.lst [R.d, R.pd], mkSt s' (o ++ g)) ∧ (RigOk most R ∧ ∀ q ∈ R.qs, q.1.hi - q.1.lo ≤ 2 * size) ∧ DOk s' b
theorem Rigs.rg {C : Orc} (h : Rigs C) (s : Dr) (b : Int) (o : Sto) (most size : Int) (h1 : DOk s (b + 300)) (h2 : 0 ≤ b) (h3 : 1 ≤ most) (h4 : most ≤ 8) (h5 : 0 ≤ size) (h6 : size ≤ 1000000000000) : ∃ R s' g, C "_law_rig" [.loc 1, .int most, .int size] (mkSt s o) = some (.lst [R.d, R.pd], mkSt s' (o ++ g)) ∧ RigOk most R ∧ DOk s' b := by
  obtain ⟨R, s', g, k, ⟨r, _⟩, d⟩ := h.sp s b o most size h1 h2 h3 h4 h5 h6
  exact ⟨R, s', g, k, r, d⟩
set_option maxHeartbeats 16000000 in
theorem rigs_of {F : String → Option Fn} (hN : F "_law_next" = some ⟨2, 9, b_l_next⟩) (hA : F "_law_amount" = some ⟨2, 3, b_l_amount⟩) (hP : F "_law_pair" = some ⟨2, 3, b_l_pair⟩) (hF : F "_law_rig" = some ⟨3, 17, b_l_rig⟩) (n : Nat) : Rigs (callN F (n + 3)) := by
  constructor
  intro s b o most size hs hb hm hm2 h0 h1
  have dr := draws_of hN (n + 1)
  have am := amounts_of hN hA n
  have pr := pairs_of hN hP n
  rw [call_eq hF rfl]
  have e0 : startE 17 [.loc 1, .int most, .int size] = [some (.loc 1), some (.int most), some (.int size), none, none, none, none, none, none, none, none, none, none, none, none, none, none] := rfl
  simp only [e0, b_l_rig]
  obtain ⟨c, s1, k1, c0, c1, d1⟩ := dr.nx s (b + 299) o most (hs.mono (by omega)) (by omega) (by omega) (by omega)
  obtain ⟨i, s2, k2, i0, i1, d2⟩ := dr.nx s1 (b + 298) o 3 (d1.mono (by omega)) (by omega) (by omega) (by omega)
  obtain ⟨j, s3, k3, j0, j1, d3⟩ := dr.nx s2 (b + 297) o 4 (d2.mono (by omega)) (by omega) (by omega) (by omega)
  have p9 : ∀ t : Sto, oPow t (.int 10) (.int 9) = some (.int 1000000000) := fun _ => rfl
  have p12 : ∀ t : Sto, oPow t (.int 10) (.int 12) = some (.int 1000000000000) := fun _ => rfl
  have m2 : mulOk 2 size = true := mulOk_l (by decide) (by decide)
  obtain ⟨hv, hhv, ehv⟩ := at_list (xs := [D.int 3, .int 9, .int 1000000000]) (n := 3) i0 i1 rfl
  obtain ⟨sf, hsf, esf⟩ := at_list (xs := [D.int 0, .int 0, .int (-3), .int (1000000000000 - 2 * size)]) (n := 4) j0 j1 rfl
  obtain ⟨heavy, rfl, hh, hh2⟩ : ∃ heavy, hv = .int heavy ∧ 1 ≤ heavy ∧ heavy ≤ 1000000000 := by
    simp only [List.mem_cons, List.not_mem_nil, or_false] at hhv
    rcases hhv with rfl | rfl | rfl
    · exact ⟨_, rfl, by omega, by omega⟩
    · exact ⟨_, rfl, by omega, by omega⟩
    · exact ⟨_, rfl, by omega, by omega⟩
  obtain ⟨shift, rfl, hs0, hs1⟩ : ∃ shift, sf = .int shift ∧ -1000000000000 ≤ shift ∧ shift ≤ 1000000000000 - size := by
    simp only [List.mem_cons, List.not_mem_nil, or_false] at hsf
    rcases hsf with rfl | rfl | rfl | rfl
    · exact ⟨_, rfl, by omega, by omega⟩
    · exact ⟨_, rfl, by omega, by omega⟩
    · exact ⟨_, rfl, by omega, by omega⟩
    · exact ⟨_, rfl, by omega, by omega⟩
  have rg1 := fun (t : Sto) => e_krng1 (s := t) (j := 1 + c) (by omega) (by omega)
  repeat (first | walk_at "ev" | simp only [k1, k2, k3, p9, p12, o_mul m2, ehv, esf, mk_len, mk_app, rg1])
  have l1 : (o ++ [([] : List D)]).length + 2 = o.length + 3 := by simp
  simp only [l1, List.append_assoc, List.cons_append, List.nil_append]
  obtain ⟨env1, st1, f1, s4, qs, v8, v9, v10, v11, rfl, rfl, d4, hl4, hq⟩ := for_ind (chk := always) (tg := gN 8) (body := b_l_rig_f1 (callN F (n + 2))) (rigP1 o (b + 201) most size (1 + c) heavy shift) (fun _ _ _ _ => rfl)
    (fun d ds env st h => rig_f1 am (by omega) h0 h1 (by omega) (by omega) hh2 hs0 hs1 d ds env st h) (rangeD 0 (1 + c).toNat)
    [some (D.loc 1), some (D.int most), some (D.int size), some (D.int (1 + c)), some (D.int heavy), some (D.int shift), some (D.loc (List.length o + 2)), some (D.loc (List.length o + 3)), none, none, none, none, none, none, none, none, none]
    (mkSt s3 (o ++ [[], []])) ⟨s3, [], none, none, none, none, rfl, rfl, d3.mono (by rw [rangeD_length]; omega), by rw [rangeD_length]; simp only [List.length_nil]; omega, fun q hq => by simp at hq⟩
  have hlq : (qs.length : Int) = 1 + c := by
    simp only [List.length_nil] at hl4
    omega
  simp only [List.length_nil] at d4
  have hq2 : ∀ q ∈ qs, shift ≤ q.2 ∧ q.2 ≤ shift + size := fun q h => ⟨(hq q h).2.1, (hq q h).2.2.1⟩
  have hq3 : ∀ q ∈ qs, QOk 0 q := fun q h => (hq q h).1
  have l2 : (o ++ [plD qs, rgD qs]).length + 2 = o.length + 4 := by simp
  have l3 : (o ++ [plD qs, rgD qs, ([] : List D)]).length + 2 = o.length + 5 := by simp
  simp only [f1]
  repeat (first | walk_at "ev" | simp only [mk_len, mk_app, List.append_assoc, List.cons_append, List.nil_append, l2, l3])
  by_cases hc1 : 1 < 1 + c
  · simp only [decide_eq_true hc1]
    obtain ⟨i2, s5, k5, i20, i21, d5⟩ := dr.nx s4 (b + 200) (o ++ [plD qs, rgD qs, [], []]) 6 (d4.mono (by omega)) (by omega) (by omega) (by omega)
    obtain ⟨x2, hx2, ex2⟩ := at_list (xs := [D.int 0, .int 1, .int 2, .int 3, .int 5, .int 12]) (n := 6) i20 i21 rfl
    obtain ⟨t2, rfl, t20, t21⟩ : ∃ t : Int, x2 = .int t ∧ 0 ≤ t ∧ t ≤ 12 := by
      simp only [List.mem_cons, List.not_mem_nil, or_false] at hx2
      rcases hx2 with rfl | rfl | rfl | rfl | rfl | rfl <;> exact ⟨_, rfl, by omega, by omega⟩
    have rg2 := fun (t : Sto) => e_krng1 (s := t) (j := t2) (by omega) (by omega)
    repeat (first | walk_at "ev" | simp only [k5, ex2, rg2])
    obtain ⟨env2, st2, f2, s6, cs, w8, w9, w10, w11, w14, w15, w16, rfl, rfl, d6, hl6, hcs⟩ := for_ind (chk := always) (tg := gN 8) (body := b_l_rig_f2 (callN F (n + 2))) (rigP2 o qs (b + 128) most size (1 + c) heavy shift) (fun _ _ _ _ => rfl)
      (fun d ds env st h => rig_f2 dr am pr (by omega) h0 h1 hc1 (by omega) hlq hh hh2 hq2 d ds env st h) (rangeD 0 t2.toNat) _ _
      ⟨s5, [], v8, v9, v10, v11, none, none, none, rfl, rfl, d5.mono (by rw [rangeD_length]; omega), by rw [rangeD_length]; simp only [List.length_nil]; omega, fun q hq => by simp at hq⟩
    simp only [List.length_nil] at d6 hl6
    obtain ⟨i3, s7, k7, i30, i31, d7⟩ := dr.nx s6 (b + 127) (o ++ [plD qs, rgD qs, csD cs, []]) 5 (d6.mono (by omega)) (by omega) (by omega) (by omega)
    obtain ⟨x3, hx3, ex3⟩ := at_list (xs := [D.int 0, .int 0, .int 1, .int 2, .int 8]) (n := 5) i30 i31 rfl
    obtain ⟨t3, rfl, t30, t31⟩ : ∃ t : Int, x3 = .int t ∧ 0 ≤ t ∧ t ≤ 8 := by
      simp only [List.mem_cons, List.not_mem_nil, or_false] at hx3
      rcases hx3 with rfl | rfl | rfl | rfl | rfl <;> exact ⟨_, rfl, by omega, by omega⟩
    have rg3 := fun (t : Sto) => e_krng1 (s := t) (j := t3) (by omega) (by omega)
    simp only [show csD [] = [] from rfl] at f2
    simp only [f2]
    repeat (first | walk_at "ev" | simp only [k7, ex3, rg3])
    obtain ⟨env3, st3, f3, s8, bs, u8, u9, u10, u11, u14, u15, u16, rfl, rfl, d8, hl8, hbs⟩ := for_ind (chk := always) (tg := gN 8) (body := b_l_rig_f3 (callN F (n + 2))) (rigP3 o qs cs (b + 87) most size (1 + c) heavy shift) (fun _ _ _ _ => rfl)
      (fun d ds env st h => rig_f3 dr am pr (by omega) h0 h1 hc1 (by omega) hlq hq2 d ds env st h) (rangeD 0 t3.toNat) _ _
      ⟨s7, [], w8, w9, w10, w11, w14, w15, w16, rfl, rfl, d7.mono (by rw [rangeD_length]; omega), by rw [rangeD_length]; simp only [List.length_nil]; omega, fun q hq => by simp at hq⟩
    simp only [List.length_nil] at d8 hl8
    simp only [show bsD [] = [] from rfl] at f3
    simp only [f3]
    have t0 := tup_at (s := s8) (o := o) (l := [plD qs, rgD qs, csD cs, bsD bs]) (n := o.length + 2) (k := 0) rfl rfl
    have t1 := tup_at (s := s8) (o := o) (l := [plD qs, rgD qs, csD cs, bsD bs]) (n := o.length + 3) (k := 1) rfl rfl
    have t2 := tup_at (s := s8) (o := o) (l := [plD qs, rgD qs, csD cs, bsD bs]) (n := o.length + 4) (k := 2) rfl rfl
    have t3 := tup_at (s := s8) (o := o) (l := [plD qs, rgD qs, csD cs, bsD bs]) (n := o.length + 5) (k := 3) rfl rfl
    repeat (first | walk_at "ev" | simp only [t0, t1, t2, t3, e_kfnR])
    refine ⟨⟨qs, cs, bs⟩, s8, [plD qs, rgD qs, csD cs, bsD bs], ?_, ⟨⟨?_, ?_, hq3, by show cs.length ≤ 12; omega, hcs, by show bs.length ≤ 8; omega, hbs⟩, fun q h => (hq q h).2.2.2⟩, d8.mono (by omega)⟩
    · simp only [Rig.d, Rig.pd, Rig.rings, Rig.ps, List.map_map]
      rfl
    · show 1 ≤ qs.length
      omega
    · show (qs.length : Int) ≤ most
      omega
  · simp only [decide_eq_false hc1]
    have t0 := tup_at (s := s4) (o := o) (l := [plD qs, rgD qs, [], []]) (n := o.length + 2) (k := 0) rfl rfl
    have t1 := tup_at (s := s4) (o := o) (l := [plD qs, rgD qs, [], []]) (n := o.length + 3) (k := 1) rfl rfl
    have t2 := tup_at (s := s4) (o := o) (l := [plD qs, rgD qs, [], []]) (n := o.length + 4) (k := 2) rfl rfl
    have t3 := tup_at (s := s4) (o := o) (l := [plD qs, rgD qs, [], []]) (n := o.length + 5) (k := 3) rfl rfl
    repeat (first | walk_at "ev" | simp only [t0, t1, t2, t3, e_kfnR])
    refine ⟨⟨qs, [], []⟩, s4, [plD qs, rgD qs, [], []], ?_, ⟨⟨?_, ?_, hq3, by show 0 ≤ 12; omega, fun c h => by simp at h, by show 0 ≤ 8; omega, fun c h => by simp at h⟩, fun q h => (hq q h).2.2.2⟩, d4.mono (by omega)⟩
    · simp only [Rig.d, Rig.pd, Rig.rings, Rig.ps, List.map_map]
      rfl
    · show 1 ≤ qs.length
      omega
    · show (qs.length : Int) ≤ most
      omega
end Tg
/-! Texts of data, equality of equal data. -/

namespace Tg
open PySem PySem.Spec PyProof.Rows L2
mutual
def szD : D → Nat
  | .int _ => 80
  | .str x => (reprText x).length
  | .tup xs => 5 + szDs xs
  | .lst xs => 5 + szDs xs
  | _ => 5
def szDs : List D → Nat
  | [] => 0
  | d :: ds => szD d + 2 + szDs ds
end
mutual
def smI : D → Bool
  | .int i => decide (i.natAbs.log2 < 70)
  | .tup xs => smIs xs
  | .lst xs => smIs xs
  | _ => true
def smIs : List D → Bool
  | [] => true
  | d :: ds => smI d && smIs ds
end
theorem txt_from : ∀ (ts : List Str) (k : Nat) (acc : Str) (B : Nat), (ts.map fun t => t.length + 2).sum ≤ B → (textFrom k acc ts).length ≤ acc.length + B
  | [], k, acc, B, h => by
    show acc.length ≤ _
    omega
  | t :: r, k, acc, B, h => by
    rw [List.map_cons, List.sum_cons] at h
    have ih := txt_from r (k + 1) (acc ++ (if k > 0 then ", " else "" : String) ++ t) (B - (t.length + 2)) (by omega)
    have e : (acc ++ (if k > 0 then ", " else "" : String) ++ t).length ≤ acc.length + 2 + t.length := by
      rw [strLen_append, strLen_append]
      have : ((if k > 0 then ", " else "" : String) : Str).length ≤ 2 := by split <;> decide
      omega
    show (textFrom (k + 1) (acc ++ (if k > 0 then ", " else "" : String) ++ t) r).length ≤ _
    omega
theorem list_len (ts : List Str) (B : Nat) (h : (ts.map fun t => t.length + 2).sum ≤ B) : (listText ts).length ≤ 2 + B := by
  unfold listText
  rw [strLen_append]
  have h1 := txt_from ts 0 "[" B h
  have h2 : (("[" : String) : Str).length = 1 := by decide
  have h3 : (("]" : String) : Str).length = 1 := by decide
  omega
theorem tuple_len (ts : List Str) (B : Nat) (h : (ts.map fun t => t.length + 2).sum ≤ B) : (tupleText ts).length ≤ 3 + B := by
  unfold tupleText
  rw [strLen_append, strLen_append]
  have h2 : (("(" : String) : Str).length = 1 := by decide
  have h3 : ((if ts.length == 1 then ",)" else ")" : String) : Str).length ≤ 2 := by split <;> decide
  have h4 : (Str.join ", " ts).length ≤ B := by
    cases ts with
    | nil =>
      show (Str.join ", " []).length ≤ B
      exact Nat.le_trans (by decide) (Nat.zero_le B)
    | cons x r =>
      have := join_length_add (x :: r) (by simp)
      have e : piled (x :: r) ≤ B := h
      omega
  omega
mutual
theorem shown_len : ∀ d : D, smI d = true → (pyD d).shown.length ≤ szD d
  | .non, _ => by simp only [pyD, PyData.shown, szD]; decide
  | .bl b, _ => by simp only [pyD, PyData.shown, szD]; cases b <;> decide
  | .int i, h => by
    simp only [pyD, PyData.shown, szD]
    have h1 : i.natAbs.log2 < 70 := by simpa [smI] using h
    have h2 := int_text_length_le (a := i) (k := 70) (by decide) h1
    show (Str.ofString (toString i)).length ≤ 80
    rw [PySem.ofString_length]
    omega
  | .str x, _ => by simp only [pyD, PyData.shown, szD]; exact Nat.le_refl _
  | .tup xs, h => by
    simp only [pyD, PyData.shown, szD]
    have := tuple_len _ _ (shown_lens xs (by simpa [smI] using h))
    omega
  | .lst xs, h => by
    simp only [pyD, PyData.shown, szD]
    have := list_len _ _ (shown_lens xs (by simpa [smI] using h))
    omega
  | .scr _, _ => by simp only [pyD, PyData.shown, szD]; decide
  | .dic, _ => by simp only [pyD, PyData.shown, szD]; decide
  | .loc _, _ => by simp only [pyD, PyData.shown, szD]; decide
theorem shown_lens : ∀ ds : List D, smIs ds = true → ((PyData.shownAll (pyDs ds)).map fun t => t.length + 2).sum ≤ szDs ds
  | [], _ => by simp [pyDs, PyData.shownAll, szDs]
  | d :: ds, h => by
    simp only [smIs, Bool.and_eq_true] at h
    simp only [pyDs, PyData.shownAll, szDs, List.map_cons, List.sum_cons]
    have h1 := shown_len d h.1
    have h2 := shown_lens ds h.2
    omega
end
mutual
theorem smI_show : ∀ d : D, smI d = true → (pyD d).showable = true
  | .non, _ => by simp [pyD, PyData.showable]
  | .bl _, _ => by simp [pyD, PyData.showable]
  | .int i, h => by
    simp only [pyD, PyData.showable]
    have h1 : i.natAbs.log2 < 70 := by simpa [smI] using h
    exact decide_eq_true (by omega)
  | .str _, _ => by simp [pyD, PyData.showable]
  | .tup xs, h => by simp only [pyD, PyData.showable]; exact smIs_show xs (by simpa [smI] using h)
  | .lst xs, h => by simp only [pyD, PyData.showable]; exact smIs_show xs (by simpa [smI] using h)
  | .scr _, _ => by simp [pyD, PyData.showable]
  | .dic, _ => by simp [pyD, PyData.showable]
  | .loc _, _ => by simp [pyD, PyData.showable]
theorem smIs_show : ∀ ds : List D, smIs ds = true → PyData.showableAll (pyDs ds) = true
  | [], _ => by simp [pyDs, PyData.showableAll]
  | d :: ds, h => by
    simp only [smIs, Bool.and_eq_true] at h
    simp only [pyDs, PyData.showableAll, smI_show d h.1, smIs_show ds h.2]
    rfl
end
/-- plain data of depth at most k whose text has at most B signs -/
structure Nice (k B : Nat) (d : D) : Prop where
  lay : lay d = true
  dep : dep d ≤ k
  sm : smI d = true
  sz : szD d ≤ B
theorem Nice.mono {k B k' B' : Nat} {d : D} (h : Nice k B d) (hk : k ≤ k') (hB : B ≤ B') : Nice k' B' d := ⟨h.lay, Nat.le_trans h.dep hk, h.sm, Nat.le_trans h.sz hB⟩
theorem nice_int {i : Int} (h0 : -18446744073709551616 < i) (h1 : i < 18446744073709551616) : Nice 0 80 (.int i) := by
  refine ⟨rfl, Nat.le_refl _, ?_, Nat.le_refl _⟩
  have h : i.natAbs < 2 ^ 64 := by
    have e : (2 : Nat) ^ 64 = 18446744073709551616 := by decide
    rw [e]
    omega
  show decide (i.natAbs.log2 < 70) = true
  apply decide_eq_true
  by_cases hz : i.natAbs = 0
  · rw [hz]; decide
  · have := (Nat.log2_lt hz).mpr h
    omega
theorem nice_all {k B : Nat} : ∀ {ds : List D}, (∀ d ∈ ds, Nice k B d) → lays ds = true ∧ deps ds ≤ k ∧ smIs ds = true ∧ szDs ds ≤ ds.length * (B + 2)
  | [], _ => ⟨rfl, Nat.zero_le _, rfl, Nat.zero_le _⟩
  | d :: ds, h => by
    obtain ⟨a, b, c, e⟩ := nice_all fun x hx => h x (List.mem_cons_of_mem _ hx)
    obtain ⟨a', b', c', e'⟩ := h d List.mem_cons_self
    refine ⟨?_, ?_, ?_, ?_⟩
    · simp only [lays, a, a']; rfl
    · simp only [deps]; omega
    · simp only [smIs, c, c']; rfl
    · simp only [szDs, List.length_cons]
      have : (ds.length + 1) * (B + 2) = ds.length * (B + 2) + (B + 2) := Nat.succ_mul _ _
      omega
theorem nice_tup {k B n : Nat} {ds : List D} (h : ∀ d ∈ ds, Nice k B d) (hn : ds.length ≤ n) : Nice (k + 1) (5 + n * (B + 2)) (.tup ds) := by
  obtain ⟨a, b, c, e⟩ := nice_all h
  refine ⟨by simpa [Tg.lay] using a, by simp only [Tg.dep]; omega, by simpa [smI] using c, ?_⟩
  simp only [szD]
  have := Nat.mul_le_mul_right (B + 2) hn
  omega
theorem nice_lst {k B n : Nat} {ds : List D} (h : ∀ d ∈ ds, Nice k B d) (hn : ds.length ≤ n) : Nice (k + 1) (5 + n * (B + 2)) (.lst ds) := by
  obtain ⟨a, b, c, e⟩ := nice_all h
  refine ⟨by simpa [Tg.lay] using a, by simp only [Tg.dep]; omega, by simpa [smI] using c, ?_⟩
  simp only [szD]
  have := Nat.mul_le_mul_right (B + 2) hn
  omega
theorem repr_nice {k B : Nat} {d : D} {s : Sto} (h : Nice k B d) (hk : k ≤ 64) (hB : B ≤ 1000000) : gRepr s [d] = some (.str (shownD d)) := by
  show (if rpOk d then _ else _) = _
  have : rpOk d = true := by
    unfold rpOk okD
    rw [h.lay, decide_eq_true (Nat.le_trans h.dep hk), smI_show d h.sm]
    exact decide_eq_true (Nat.le_trans (shown_len d h.sm) (Nat.le_trans h.sz hB))
  rw [this]
  rfl
/-! ### _law_equal of equal data -/
noncomputable def b_l_equal (C : Orc) : DS := (sSeq (sIf (bAnd (bVal (eIsi .tuple (eVar 0))) (bVal (eIsi .tuple (eVar 1)))) (sSeq (sRet (eAnd (eOp oEq (eBlt gLen (aCons (eVar 0) aNil)) (eBlt gLen (aCons (eVar 1) aNil))) (eBlt gAll (aCons (eLc [2, 3] (iZip (eVar 0) (eVar 1)) (gT 2 (gsCons (gN 2) (gsCons (gN 3) gsNil))) bYes (eCall C "_law_equal" (aCons (eVar 2) (aCons (eVar 3) aNil)))) aNil))))
    sNil) sNil)
    (sSeq (sIf (bOr (bVal (eIsi .bool (eVar 0))) (bVal (eIsi .bool (eVar 1)))) (sSeq (sRet (eAnd (eIsi .bool (eVar 0)) (eAnd (eIsi .bool (eVar 1)) (eOp oEq (eVar 0) (eVar 1)))))
    sNil) sNil)
    (sSeq (sIf (bVal (eOp oNe (eIsi .tuple (eVar 0)) (eIsi .tuple (eVar 1)))) (sSeq (sRet (eC (.bl false)))
    sNil) sNil)
    (sSeq (sIf (bVal (eOp oNe (eIsi .int (eVar 0)) (eIsi .int (eVar 1)))) (sSeq (sRet (eC (.bl false)))
    sNil) sNil)
    (sSeq (sRet (eAnd (eOp oEq (eIsi .str (eVar 0)) (eIsi .str (eVar 1))) (eOp oEq (eVar 0) (eVar 1))))
    sNil)))))
mutual
/-- no list, no cell -/
def plD0 : D → Bool
  | .tup xs => plDs0 xs
  | .non => true
  | .bl _ => true
  | .int _ => true
  | .str _ => true
  | _ => false
def plDs0 : List D → Bool
  | [] => true
  | d :: ds => plD0 d && plDs0 ds
end
theorem plDs0_mem : ∀ {ds : List D}, plDs0 ds = true → ∀ d ∈ ds, plD0 d = true
  | [], _, d, h => by simp at h
  | x :: ds, h, d, hd => by
    simp only [plDs0, Bool.and_eq_true] at h
    rcases List.mem_cons.mp hd with rfl | hd
    · exact h.1
    · exact plDs0_mem h.2 d hd
theorem deps_mem : ∀ {ds : List D} {d : D}, d ∈ ds → dep d ≤ deps ds
  | [], d, h => by simp at h
  | x :: ds, d, hd => by
    simp only [deps]
    rcases List.mem_cons.mp hd with rfl | hd
    · omega
    · have := deps_mem hd
      omega
theorem pairs_self_mem : ∀ {xs : List D} {d : D}, d ∈ pairsD xs xs → ∃ x ∈ xs, d = .tup [x, x]
  | [], d, h => by simp [pairsD] at h
  | x :: xs, d, h => by
    simp only [pairsD, List.mem_cons] at h
    rcases h with rfl | h
    · exact ⟨x, List.mem_cons_self, rfl⟩
    · obtain ⟨y, hy, e⟩ := pairs_self_mem h
      exact ⟨y, List.mem_cons_of_mem _ hy, e⟩
theorem ne_bl {s : Sto} {b : Bool} : oNe s (.bl b) (.bl b) = some (.bl false) := by cases b <;> rfl
theorem eq_bl {s : Sto} {b : Bool} : oEq s (.bl b) (.bl b) = some (.bl true) := by cases b <;> rfl
theorem map_const_true (xs : List D) : (pairsD xs xs).map (fun _ => D.bl true) = (xs.map fun _ => true).map D.bl := by
  induction xs with
  | nil => rfl
  | cons x xs ih => simp only [pairsD, List.map_cons, ih]
theorem all_const_true (xs : List D) : (xs.map fun _ => true).all id = true := by
  induction xs with
  | nil => rfl
  | cons x xs ih => simp only [List.map_cons, List.all_cons, ih]; rfl
set_option maxHeartbeats 16000000 in
theorem equal_self {F : String → Option Fn} (hF : F "_law_equal" = some ⟨2, 4, b_l_equal⟩) : ∀ (n : Nat) (d : D), plD0 d = true → dep d ≤ n → ∀ st : Sto, callN F (n + 1) "_law_equal" [d, d] st = some (.bl true, st) := by
  intro n
  induction n with
  | zero =>
    intro d hp hd st
    rw [call_eq hF rfl]
    have e0 : startE 4 [d, d] = [some d, some d, none, none] := rfl
    simp only [e0, b_l_equal]
    cases d with
    | non =>
      have z : oEq st .non .non = some (.bl true) := rfl
      repeat (first | walk_at "ev" | simp only [isTy, tk, isTk, ne_bl, eq_bl, z, e_kfnR])
    | bl b => repeat (first | walk_at "ev" | simp only [isTy, tk, isTk, ne_bl, eq_bl, e_kfnR])
    | int i => repeat (first | walk_at "ev" | simp only [isTy, tk, isTk, ne_bl, eq_bl, decide_true, e_kfnR])
    | str x => repeat (first | walk_at "ev" | simp only [isTy, tk, isTk, ne_bl, eq_bl, decide_true, e_kfnR])
    | tup xs => simp only [dep] at hd; omega
    | _ => simp [plD0] at hp
  | succ n ih =>
    intro d hp hd st
    rw [call_eq hF rfl]
    have e0 : startE 4 [d, d] = [some d, some d, none, none] := rfl
    simp only [e0, b_l_equal]
    cases d with
    | non =>
      have z : oEq st .non .non = some (.bl true) := rfl
      repeat (first | walk_at "ev" | simp only [isTy, tk, isTk, ne_bl, eq_bl, z, e_kfnR])
    | bl b => repeat (first | walk_at "ev" | simp only [isTy, tk, isTk, ne_bl, eq_bl, e_kfnR])
    | int i => repeat (first | walk_at "ev" | simp only [isTy, tk, isTk, ne_bl, eq_bl, decide_true, e_kfnR])
    | str x => repeat (first | walk_at "ev" | simp only [isTy, tk, isTk, ne_bl, eq_bl, decide_true, e_kfnR])
    | tup xs =>
      simp only [plD0] at hp
      simp only [dep] at hd
      have lc : lcL always (gT 2 (gsCons (gN 2) (gsCons (gN 3) gsNil))) bYes (eCall (callN F (n + 1)) "_law_equal" (aCons (eVar 2) (aCons (eVar 3) aNil))) [some (D.tup xs), some (.tup xs), none, none] (pairsD xs xs) st = some ((pairsD xs xs).map (fun _ => D.bl true), st) := by
        apply lc_pure (fun _ => D.bl true)
        intro d hd2
        obtain ⟨x, hx, rfl⟩ := pairs_self_mem hd2
        refine ⟨_, rfl, rfl, ?_⟩
        have k := ih x (plDs0_mem hp x hx) (by have := deps_mem hx; omega) st
        repeat (first | walk_at "ev" | simp only [k])
      repeat (first | walk_at "ev" | simp only [isTy, tk, isTk, decide_true, lc, map_const_true, all_const_true, e_kfnR])
    | _ => simp [plD0] at hp
end Tg
/-! Reading drawn rigs. -/
namespace Tg
open PySem PySem.Spec PyProof.Rows L2
theorem lc_map {α : Type} {tg : DG} {ifs : DB} {elt : DE} {env : En} {s : Sto} (f g : α → D) : ∀ (xs : List α), (∀ x ∈ xs, ∃ e, tg (f x) env s = some (e, s) ∧ ifs e s = some (true, s) ∧ elt e s = some (g x, s)) → lcL always tg ifs elt env (xs.map f) s = some (xs.map g, s)
  | [], _ => rfl
  | d :: ds, h => by
    obtain ⟨e, h1, h2, h3⟩ := h d List.mem_cons_self
    have ih := lc_map f g ds fun d hd => h d (List.mem_cons_of_mem _ hd)
    rw [List.map_cons, List.map_cons]
    unfold lcL
    simp only [show always s = true from rfl, if_true, h1, Option.bind_some, h2, h3, ih, Option.map_some]
theorem pairs_map {α : Type} (f g : α → D) : ∀ xs : List α, pairsD (xs.map f) (xs.map g) = xs.map fun x => .tup [f x, g x]
  | [] => rfl
  | x :: xs => by rw [List.map_cons, List.map_cons, List.map_cons, ← pairs_map f g xs]; rfl
/-- the place of ring i -/
def pAt (ps : List Int) (i : Int) : Int := ps.getD i.toNat 0
theorem pat_at {ps : List Int} {i : Int} (h0 : 0 ≤ i) (h : i < ps.length) : atI (ps.map D.int) i = some (.int (pAt ps i)) := by
  obtain ⟨x, a, b, c⟩ := atI_in ps h0 h
  have e : atI (ps.map D.int) ((i.toNat : Nat) : Int) = some (.int x) := atI_nat (by rw [List.getElem?_map, c]; rfl)
  rw [Int.toNat_of_nonneg h0] at e
  rw [e]
  unfold pAt
  rw [List.getD_eq_getElem?_getD, c]
  rfl
theorem pat_mem {ps : List Int} {i : Int} (h0 : 0 ≤ i) (h : i < ps.length) : pAt ps i ∈ ps := by
  obtain ⟨x, a, b, c⟩ := atI_in ps h0 h
  unfold pAt
  rw [List.getD_eq_getElem?_getD, c]
  exact a
def gap (ps : List Int) (a b : Int) : Int := pAt ps b - pAt ps a
theorem RigOk.pl {most : Int} {R : Rig} (h : RigOk most R) : ∀ p ∈ R.ps, -1000000000000 ≤ p ∧ p ≤ 1000000000000 := by
  intro p hp
  obtain ⟨q, hq, rfl⟩ := List.mem_map.mp hp
  obtain ⟨a, b, c, d, _⟩ := h.q q hq
  exact ⟨by omega, by omega⟩
theorem ps_len (R : Rig) : R.ps.length = R.qs.length := List.length_map ..
theorem rigs_len (R : Rig) : R.rings.length = R.qs.length := List.length_map ..
/-- nice rigs -/
theorem nice_ring {q : Ring × Int} (h : QOk 0 q) : Nice 1 251 (ringD q.1) := by
  obtain ⟨a, b, c, d, e, f⟩ := h
  refine nice_tup (k := 0) (B := 80) (n := 3) ?_ (Nat.le_refl _)
  intro d hd
  simp only [List.mem_cons, List.not_mem_nil, or_false] at hd
  rcases hd with rfl | rfl | rfl <;> exact nice_int (by omega) (by omega)
theorem nice_cord {n : Nat} {c : Cord} (hn : n ≤ 1000) (h : CordOk n c) : Nice 1 333 (cordD c) := by
  obtain ⟨a, b, c, d, e, f, g, i, j⟩ := h
  refine nice_tup (k := 0) (B := 80) (n := 4) ?_ (Nat.le_refl _)
  intro d hd
  simp only [List.mem_cons, List.not_mem_nil, or_false] at hd
  rcases hd with rfl | rfl | rfl | rfl <;> exact nice_int (by omega) (by omega)
theorem nice_bar {ps : List Int} {c : Bar} (hn : ps.length ≤ 1000) (h : BarOk ps c) : Nice 1 251 (barD c) := by
  obtain ⟨a, b, c, d, e, f, g, _⟩ := h
  refine nice_tup (k := 0) (B := 80) (n := 3) ?_ (Nat.le_refl _)
  intro d hd
  simp only [List.mem_cons, List.not_mem_nil, or_false] at hd
  rcases hd with rfl | rfl | rfl <;> exact nice_int (by omega) (by omega)
theorem nice_rig {most : Int} {R : Rig} (hm : most ≤ 8) (h : RigOk most R) : Nice 3 12311 R.d := by
  have n2 := h.n2
  refine nice_tup (k := 2) (B := 4100) (n := 3) ?_ (Nat.le_refl _)
  intro d hd
  simp only [List.mem_cons, List.not_mem_nil, or_false] at hd
  rcases hd with rfl | rfl | rfl
  · refine (nice_tup (k := 1) (B := 251) (n := 8) ?_ (by rw [List.length_map, rigs_len]; omega)).mono (by omega) (by omega)
    intro d hd
    obtain ⟨r, hr, rfl⟩ := List.mem_map.mp hd
    obtain ⟨q, hq, rfl⟩ := List.mem_map.mp hr
    exact nice_ring (h.q q hq)
  · refine (nice_tup (k := 1) (B := 333) (n := 12) ?_ (by rw [List.length_map]; exact h.c1)).mono (by omega) (by omega)
    intro d hd
    obtain ⟨r, hr, rfl⟩ := List.mem_map.mp hd
    exact nice_cord (by omega) (h.c2 r hr)
  · refine (nice_tup (k := 1) (B := 251) (n := 8) ?_ (by rw [List.length_map]; exact h.b1)).mono (by omega) (by omega)
    intro d hd
    obtain ⟨r, hr, rfl⟩ := List.mem_map.mp hd
    exact nice_bar (by rw [ps_len]; omega) (h.b2 r hr)
theorem nice_pd {most : Int} {R : Rig} (hm : most ≤ 8) (h : RigOk most R) : Nice 1 661 R.pd := by
  have n2 := h.n2
  refine nice_tup (k := 0) (B := 80) (n := 8) ?_ (by rw [List.length_map, ps_len]; omega)
  intro d hd
  obtain ⟨p, hp, rfl⟩ := List.mem_map.mp hd
  have := h.pl p hp
  exact nice_int (by omega) (by omega)
theorem nice_both {most : Int} {R : Rig} (hm : most ≤ 8) (h : RigOk most R) : Nice 4 24631 (.lst [R.d, R.pd]) := by
  refine nice_lst (k := 3) (B := 12311) (n := 2) ?_ (Nat.le_refl _)
  intro d hd
  simp only [List.mem_cons, List.not_mem_nil, or_false] at hd
  rcases hd with rfl | rfl
  · exact nice_rig hm h
  · exact (nice_pd hm h).mono (by omega) (by omega)
theorem pl_ints : ∀ ns : List Int, plDs0 (ns.map D.int) = true
  | [] => rfl
  | n :: ns => by rw [List.map_cons]; simp only [plDs0, plD0, pl_ints ns]; rfl
theorem dep_ints : ∀ ns : List Int, deps (ns.map D.int) = 0
  | [] => rfl
  | n :: ns => by rw [List.map_cons]; simp only [deps, dep, dep_ints ns]; rfl
end Tg
/-! The later laws' rigs and equality; one of some items. -/

namespace Tg
open PySem PySem.Spec PyProof.Rows L2
noncomputable def b_l_one (C : Orc) : DS := (sSeq (sRet (eOp oIx (eVar 1) (eCall C "_law_next" (aCons (eVar 0) (aCons (eBlt gLen (aCons (eVar 1) aNil)) aNil)))))
    sNil)
noncomputable def b_l_equal2 (C : Orc) : DS := (sSeq (sIf (bAnd (bVal (eIsi .tuple (eVar 0))) (bVal (eIsi .tuple (eVar 1)))) (sSeq (sRet (eAnd (eOp oEq (eBlt gLen (aCons (eVar 0) aNil)) (eBlt gLen (aCons (eVar 1) aNil))) (eBlt gAll (aCons (eLc [2, 3] (iZip (eVar 0) (eVar 1)) (gT 2 (gsCons (gN 2) (gsCons (gN 3) gsNil))) bYes (eCall C "_law_equal" (aCons (eVar 2) (aCons (eVar 3) aNil)))) aNil))))
    sNil) sNil)
    (sSeq (sIf (bOr (bVal (eIsi .bool (eVar 0))) (bVal (eIsi .bool (eVar 1)))) (sSeq (sRet (eAnd (eIsi .bool (eVar 0)) (eAnd (eIsi .bool (eVar 1)) (eOp oEq (eVar 0) (eVar 1)))))
    sNil) sNil)
    (sSeq (sIf (bOr (bVal (eOp oNe (eIsi .tuple (eVar 0)) (eIsi .tuple (eVar 1)))) (bVal (eOp oNe (eIsi .int (eVar 0)) (eIsi .int (eVar 1))))) (sSeq (sRet (eC (.bl false)))
    sNil) sNil)
    (sSeq (sRet (eAnd (eOp oEq (eIsi .str (eVar 0)) (eIsi .str (eVar 1))) (eOp oEq (eVar 0) (eVar 1))))
    sNil))))
noncomputable def b_l_rig2_f1 (C : Orc) : DS := (sSeq (sAsg (eOp oAdd (eVar 5) (eCall C "_law_amount" (aCons (eVar 0) (aCons (eVar 2) aNil)))) (gN 9))
    (sSeq (sPar2 10 11 (aCons (eOp oSub (eVar 9) (eCall C "_law_amount" (aCons (eVar 0) (aCons (eVar 2) aNil)))) (aCons (eOp oAdd (eVar 9) (eCall C "_law_amount" (aCons (eVar 0) (aCons (eVar 2) aNil)))) aNil)))
    (sSeq (sExpr (eAppend (eVar 6) (eVar 9)))
    (sSeq (sExpr (eAppend (eVar 7) (eTup (aCons (eBlt gMax2 (aCons (eVar 10) (aCons (eUn oNeg (eOp oPow (eC (.int 10)) (eC (.int 12)))) aNil))) (aCons (eBlt gMin2 (aCons (eVar 11) (aCons (eOp oPow (eC (.int 10)) (eC (.int 12))) aNil))) (aCons (eOp oSub (eCall C "_law_amount" (aCons (eVar 0) (aCons (eOp oMul (eC (.int 2)) (eVar 4)) aNil))) (eVar 4)) aNil))))))
    sNil))))
noncomputable def b_l_rig2 (C : Orc) : DS := (sSeq (sAsg (eOp oAdd (eC (.int 1)) (eCall C "_law_next" (aCons (eVar 0) (aCons (eVar 1) aNil)))) (gN 3))
    (sSeq (sAsg (eOp oIx (eLst (aCons (eC (.int 3)) (aCons (eC (.int 9)) (aCons (eOp oPow (eC (.int 10)) (eC (.int 9))) aNil)))) (eCall C "_law_next" (aCons (eVar 0) (aCons (eC (.int 3)) aNil)))) (gN 4))
    (sSeq (sAsg (eOp oIx (eLst (aCons (eC (.int 0)) (aCons (eC (.int 0)) (aCons (eUn oNeg (eC (.int 3))) (aCons (eOp oSub (eOp oPow (eC (.int 10)) (eC (.int 12))) (eOp oMul (eC (.int 2)) (eVar 2))) aNil))))) (eCall C "_law_next" (aCons (eVar 0) (aCons (eC (.int 4)) aNil)))) (gN 5))
    (sSeq (sPar2 6 7 (aCons (eMLst aNil) (aCons (eMLst aNil) aNil)))
    (sSeq (sFor (iRng (aCons (eVar 3) aNil)) (gN 8) (b_l_rig2_f1 C))
    (sSeq (sPar2 12 13 (aCons (eMLst aNil) (aCons (eMLst aNil) aNil)))
    (sSeq (sIf (bVal (eOp oGt (eVar 3) (eC (.int 1)))) (sSeq (sFor (iRng (aCons (eOp oIx (eLst (aCons (eC (.int 0)) (aCons (eC (.int 1)) (aCons (eC (.int 2)) (aCons (eC (.int 3)) (aCons (eC (.int 5)) (aCons (eC (.int 12)) aNil))))))) (eCall C "_law_next" (aCons (eVar 0) (aCons (eC (.int 6)) aNil)))) aNil)) (gN 8) (b_l_rig_f2 C))
    (sSeq (sFor (iRng (aCons (eOp oIx (eLst (aCons (eC (.int 0)) (aCons (eC (.int 0)) (aCons (eC (.int 1)) (aCons (eC (.int 2)) (aCons (eC (.int 8)) aNil)))))) (eCall C "_law_next" (aCons (eVar 0) (aCons (eC (.int 5)) aNil)))) aNil)) (gN 8) (b_l_rig_f3 C))
    sNil)) sNil)
    (sSeq (sRet (eLst (aCons (eTup (aCons (eBlt gTuple (aCons (eVar 7) aNil)) (aCons (eBlt gTuple (aCons (eVar 12) aNil)) (aCons (eBlt gTuple (aCons (eVar 13) aNil)) aNil)))) (aCons (eBlt gTuple (aCons (eVar 6) aNil)) aNil))))
    sNil))))))))
set_option maxHeartbeats 8000000 in
theorem rig2_f1 {C : Orc} (am : Amounts C) {o : Sto} {b most size count heavy shift : Int} (hb : 0 ≤ b) (h0 : 0 ≤ size) (h1 : size ≤ 1000000000000) (hc : count ≤ 8) (hh : 0 ≤ heavy) (hh2 : heavy ≤ 1000000000) (hs0 : -1000000000000 ≤ shift) (hs1 : shift ≤ 1000000000000 - size)
    (d : D) (ds : List D) (env : En) (st : Sto) (h : rigP1 o b most size count heavy shift (d :: ds) env st) :
    ∃ e s, gN 8 d env st = some (e, s) ∧ ∃ e2 s2, b_l_rig2_f1 C e s = some (.nx e2, s2) ∧ rigP1 o b most size count heavy shift ds e2 s2 := by
  obtain ⟨s, qs, v8, v9, v10, v11, rfl, rfl, hd, hl, hq⟩ := h
  rw [List.length_cons] at hd hl
  refine ⟨_, _, rfl, ?_⟩
  obtain ⟨x, s1, k1, x0, x1, d1⟩ := am.am s (b + 12 * ds.length + 9) (o ++ [plD qs, rgD qs]) size (hd.mono (by omega)) (by omega) h0 (by omega)
  obtain ⟨y, s2, k2, y0, y1, d2⟩ := am.am s1 (b + 12 * ds.length + 6) (o ++ [plD qs, rgD qs]) size (d1.mono (by omega)) (by omega) h0 (by omega)
  obtain ⟨z, s3, k3, z0, z1, d3⟩ := am.am s2 (b + 12 * ds.length + 3) (o ++ [plD qs, rgD qs]) size (d2.mono (by omega)) (by omega) h0 (by omega)
  obtain ⟨w, s4, k4, w0, w1, d4⟩ := am.am s3 (b + 12 * ds.length) (o ++ [plD qs ++ [.int (shift + x)], rgD qs]) (2 * heavy) (d3.mono (by omega)) (by omega) (by omega) (by omega)
  have a1 := app_at (s := s3) (o := o) (l := [plD qs, rgD qs]) (d := .int (shift + x)) (n := o.length + 2) (k := 0) rfl rfl (fits_small (by rw [plD_len]; omega))
  have a2 := fun dd : D => app_at (s := s4) (o := o) (l := [plD qs ++ [.int (shift + x)], rgD qs]) (d := dd) (n := o.length + 3) (k := 1) rfl rfl (fits_small (by rw [rgD_len]; omega))
  have p12 : oPow (mkSt s3 (o ++ [plD qs ++ [.int (shift + x)], rgD qs])) (.int 10) (.int 12) = some (.int 1000000000000) := rfl
  have m2 : mulOk 2 heavy = true := mulOk_l (by decide) (by decide)
  simp only [List.set_cons_zero, List.set_cons_succ] at a1 a2
  simp only [b_l_rig2_f1]
  repeat (first | walk_at "ev" | simp only [k1, k2, k3, k4, a1, a2, p12, o_mul m2])
  refine ⟨_, _, rfl, s4, qs ++ [(⟨max (shift + x - y) (-1000000000000), min (shift + x + z) 1000000000000, w - heavy⟩, shift + x)], _, _, _, _, rfl, ?_, d4, ?_, ?_⟩
  · rw [plD_app, rgD_app]
    rfl
  · rw [len1]
    omega
  · intro q hq2
    rcases List.mem_append.mp hq2 with hq2 | hq2
    · exact hq q hq2
    · rw [List.mem_singleton.mp hq2]
      refine ⟨⟨?_, ?_, ?_, ?_, ?_, ?_⟩, ?_, ?_, ?_⟩ <;> simp only [] <;> omega

set_option maxHeartbeats 16000000 in
theorem rigs_of2 {F : String → Option Fn} (hN : F "_law_next" = some ⟨2, 9, b_l_next⟩) (hA : F "_law_amount" = some ⟨2, 3, b_l_amount⟩) (hP : F "_law_pair" = some ⟨2, 3, b_l_pair⟩) (hF : F "_law_rig" = some ⟨3, 17, b_l_rig2⟩) (n : Nat) : Rigs (callN F (n + 3)) := by
  constructor
  intro s b o most size hs hb hm hm2 h0 h1
  have dr := draws_of hN (n + 1)
  have am := amounts_of hN hA n
  have pr := pairs_of hN hP n
  rw [call_eq hF rfl]
  have e0 : startE 17 [.loc 1, .int most, .int size] = [some (.loc 1), some (.int most), some (.int size), none, none, none, none, none, none, none, none, none, none, none, none, none, none] := rfl
  simp only [e0, b_l_rig2]
  obtain ⟨c, s1, k1, c0, c1, d1⟩ := dr.nx s (b + 299) o most (hs.mono (by omega)) (by omega) (by omega) (by omega)
  obtain ⟨i, s2, k2, i0, i1, d2⟩ := dr.nx s1 (b + 298) o 3 (d1.mono (by omega)) (by omega) (by omega) (by omega)
  obtain ⟨j, s3, k3, j0, j1, d3⟩ := dr.nx s2 (b + 297) o 4 (d2.mono (by omega)) (by omega) (by omega) (by omega)
  have p9 : ∀ t : Sto, oPow t (.int 10) (.int 9) = some (.int 1000000000) := fun _ => rfl
  have p12 : ∀ t : Sto, oPow t (.int 10) (.int 12) = some (.int 1000000000000) := fun _ => rfl
  have m2 : mulOk 2 size = true := mulOk_l (by decide) (by decide)
  obtain ⟨hv, hhv, ehv⟩ := at_list (xs := [D.int 3, .int 9, .int 1000000000]) (n := 3) i0 i1 rfl
  obtain ⟨sf, hsf, esf⟩ := at_list (xs := [D.int 0, .int 0, .int (-3), .int (1000000000000 - 2 * size)]) (n := 4) j0 j1 rfl
  obtain ⟨heavy, rfl, hh, hh2⟩ : ∃ heavy, hv = .int heavy ∧ 1 ≤ heavy ∧ heavy ≤ 1000000000 := by
    simp only [List.mem_cons, List.not_mem_nil, or_false] at hhv
    rcases hhv with rfl | rfl | rfl
    · exact ⟨_, rfl, by omega, by omega⟩
    · exact ⟨_, rfl, by omega, by omega⟩
    · exact ⟨_, rfl, by omega, by omega⟩
  obtain ⟨shift, rfl, hs0, hs1⟩ : ∃ shift, sf = .int shift ∧ -1000000000000 ≤ shift ∧ shift ≤ 1000000000000 - size := by
    simp only [List.mem_cons, List.not_mem_nil, or_false] at hsf
    rcases hsf with rfl | rfl | rfl | rfl
    · exact ⟨_, rfl, by omega, by omega⟩
    · exact ⟨_, rfl, by omega, by omega⟩
    · exact ⟨_, rfl, by omega, by omega⟩
    · exact ⟨_, rfl, by omega, by omega⟩
  have rg1 := fun (t : Sto) => e_krng1 (s := t) (j := 1 + c) (by omega) (by omega)
  repeat (first | walk_at "ev" | simp only [k1, k2, k3, p9, p12, o_mul m2, ehv, esf, mk_len, mk_app, rg1])
  have l1 : (o ++ [([] : List D)]).length + 2 = o.length + 3 := by simp
  simp only [l1, List.append_assoc, List.cons_append, List.nil_append]
  obtain ⟨env1, st1, f1, s4, qs, v8, v9, v10, v11, rfl, rfl, d4, hl4, hq⟩ := for_ind (chk := always) (tg := gN 8) (body := b_l_rig2_f1 (callN F (n + 2))) (rigP1 o (b + 201) most size (1 + c) heavy shift) (fun _ _ _ _ => rfl)
    (fun d ds env st h => rig2_f1 am (by omega) h0 h1 (by omega) (by omega) hh2 hs0 hs1 d ds env st h) (rangeD 0 (1 + c).toNat)
    [some (D.loc 1), some (D.int most), some (D.int size), some (D.int (1 + c)), some (D.int heavy), some (D.int shift), some (D.loc (List.length o + 2)), some (D.loc (List.length o + 3)), none, none, none, none, none, none, none, none, none]
    (mkSt s3 (o ++ [[], []])) ⟨s3, [], none, none, none, none, rfl, rfl, d3.mono (by rw [rangeD_length]; omega), by rw [rangeD_length]; simp only [List.length_nil]; omega, fun q hq => by simp at hq⟩
  have hlq : (qs.length : Int) = 1 + c := by
    simp only [List.length_nil] at hl4
    omega
  simp only [List.length_nil] at d4
  have hq2 : ∀ q ∈ qs, shift ≤ q.2 ∧ q.2 ≤ shift + size := fun q h => ⟨(hq q h).2.1, (hq q h).2.2.1⟩
  have hq3 : ∀ q ∈ qs, QOk 0 q := fun q h => (hq q h).1
  have l2 : (o ++ [plD qs, rgD qs]).length + 2 = o.length + 4 := by simp
  have l3 : (o ++ [plD qs, rgD qs, ([] : List D)]).length + 2 = o.length + 5 := by simp
  simp only [f1]
  repeat (first | walk_at "ev" | simp only [mk_len, mk_app, List.append_assoc, List.cons_append, List.nil_append, l2, l3])
  by_cases hc1 : 1 < 1 + c
  · simp only [decide_eq_true hc1]
    obtain ⟨i2, s5, k5, i20, i21, d5⟩ := dr.nx s4 (b + 200) (o ++ [plD qs, rgD qs, [], []]) 6 (d4.mono (by omega)) (by omega) (by omega) (by omega)
    obtain ⟨x2, hx2, ex2⟩ := at_list (xs := [D.int 0, .int 1, .int 2, .int 3, .int 5, .int 12]) (n := 6) i20 i21 rfl
    obtain ⟨t2, rfl, t20, t21⟩ : ∃ t : Int, x2 = .int t ∧ 0 ≤ t ∧ t ≤ 12 := by
      simp only [List.mem_cons, List.not_mem_nil, or_false] at hx2
      rcases hx2 with rfl | rfl | rfl | rfl | rfl | rfl <;> exact ⟨_, rfl, by omega, by omega⟩
    have rg2 := fun (t : Sto) => e_krng1 (s := t) (j := t2) (by omega) (by omega)
    repeat (first | walk_at "ev" | simp only [k5, ex2, rg2])
    obtain ⟨env2, st2, f2, s6, cs, w8, w9, w10, w11, w14, w15, w16, rfl, rfl, d6, hl6, hcs⟩ := for_ind (chk := always) (tg := gN 8) (body := b_l_rig_f2 (callN F (n + 2))) (rigP2 o qs (b + 128) most size (1 + c) heavy shift) (fun _ _ _ _ => rfl)
      (fun d ds env st h => rig_f2 dr am pr (by omega) h0 h1 hc1 (by omega) hlq hh hh2 hq2 d ds env st h) (rangeD 0 t2.toNat) _ _
      ⟨s5, [], v8, v9, v10, v11, none, none, none, rfl, rfl, d5.mono (by rw [rangeD_length]; omega), by rw [rangeD_length]; simp only [List.length_nil]; omega, fun q hq => by simp at hq⟩
    simp only [List.length_nil] at d6 hl6
    obtain ⟨i3, s7, k7, i30, i31, d7⟩ := dr.nx s6 (b + 127) (o ++ [plD qs, rgD qs, csD cs, []]) 5 (d6.mono (by omega)) (by omega) (by omega) (by omega)
    obtain ⟨x3, hx3, ex3⟩ := at_list (xs := [D.int 0, .int 0, .int 1, .int 2, .int 8]) (n := 5) i30 i31 rfl
    obtain ⟨t3, rfl, t30, t31⟩ : ∃ t : Int, x3 = .int t ∧ 0 ≤ t ∧ t ≤ 8 := by
      simp only [List.mem_cons, List.not_mem_nil, or_false] at hx3
      rcases hx3 with rfl | rfl | rfl | rfl | rfl <;> exact ⟨_, rfl, by omega, by omega⟩
    have rg3 := fun (t : Sto) => e_krng1 (s := t) (j := t3) (by omega) (by omega)
    simp only [show csD [] = [] from rfl] at f2
    simp only [f2]
    repeat (first | walk_at "ev" | simp only [k7, ex3, rg3])
    obtain ⟨env3, st3, f3, s8, bs, u8, u9, u10, u11, u14, u15, u16, rfl, rfl, d8, hl8, hbs⟩ := for_ind (chk := always) (tg := gN 8) (body := b_l_rig_f3 (callN F (n + 2))) (rigP3 o qs cs (b + 87) most size (1 + c) heavy shift) (fun _ _ _ _ => rfl)
      (fun d ds env st h => rig_f3 dr am pr (by omega) h0 h1 hc1 (by omega) hlq hq2 d ds env st h) (rangeD 0 t3.toNat) _ _
      ⟨s7, [], w8, w9, w10, w11, w14, w15, w16, rfl, rfl, d7.mono (by rw [rangeD_length]; omega), by rw [rangeD_length]; simp only [List.length_nil]; omega, fun q hq => by simp at hq⟩
    simp only [List.length_nil] at d8 hl8
    simp only [show bsD [] = [] from rfl] at f3
    simp only [f3]
    have t0 := tup_at (s := s8) (o := o) (l := [plD qs, rgD qs, csD cs, bsD bs]) (n := o.length + 2) (k := 0) rfl rfl
    have t1 := tup_at (s := s8) (o := o) (l := [plD qs, rgD qs, csD cs, bsD bs]) (n := o.length + 3) (k := 1) rfl rfl
    have t2 := tup_at (s := s8) (o := o) (l := [plD qs, rgD qs, csD cs, bsD bs]) (n := o.length + 4) (k := 2) rfl rfl
    have t3 := tup_at (s := s8) (o := o) (l := [plD qs, rgD qs, csD cs, bsD bs]) (n := o.length + 5) (k := 3) rfl rfl
    repeat (first | walk_at "ev" | simp only [t0, t1, t2, t3, e_kfnR])
    refine ⟨⟨qs, cs, bs⟩, s8, [plD qs, rgD qs, csD cs, bsD bs], ?_, ⟨⟨?_, ?_, hq3, by show cs.length ≤ 12; omega, hcs, by show bs.length ≤ 8; omega, hbs⟩, fun q h => (hq q h).2.2.2⟩, d8.mono (by omega)⟩
    · simp only [Rig.d, Rig.pd, Rig.rings, Rig.ps, List.map_map]
      rfl
    · show 1 ≤ qs.length
      omega
    · show (qs.length : Int) ≤ most
      omega
  · simp only [decide_eq_false hc1]
    have t0 := tup_at (s := s4) (o := o) (l := [plD qs, rgD qs, [], []]) (n := o.length + 2) (k := 0) rfl rfl
    have t1 := tup_at (s := s4) (o := o) (l := [plD qs, rgD qs, [], []]) (n := o.length + 3) (k := 1) rfl rfl
    have t2 := tup_at (s := s4) (o := o) (l := [plD qs, rgD qs, [], []]) (n := o.length + 4) (k := 2) rfl rfl
    have t3 := tup_at (s := s4) (o := o) (l := [plD qs, rgD qs, [], []]) (n := o.length + 5) (k := 3) rfl rfl
    repeat (first | walk_at "ev" | simp only [t0, t1, t2, t3, e_kfnR])
    refine ⟨⟨qs, [], []⟩, s4, [plD qs, rgD qs, [], []], ?_, ⟨⟨?_, ?_, hq3, by show 0 ≤ 12; omega, fun c h => by simp at h, by show 0 ≤ 8; omega, fun c h => by simp at h⟩, fun q h => (hq q h).2.2.2⟩, d4.mono (by omega)⟩
    · simp only [Rig.d, Rig.pd, Rig.rings, Rig.ps, List.map_map]
      rfl
    · show 1 ≤ qs.length
      omega
    · show (qs.length : Int) ≤ most
      omega
set_option maxHeartbeats 16000000 in
theorem equal_self2 {F : String → Option Fn} (hF : F "_law_equal" = some ⟨2, 4, b_l_equal2⟩) : ∀ (n : Nat) (d : D), plD0 d = true → dep d ≤ n → ∀ st : Sto, callN F (n + 1) "_law_equal" [d, d] st = some (.bl true, st) := by
  intro n
  induction n with
  | zero =>
    intro d hp hd st
    rw [call_eq hF rfl]
    have e0 : startE 4 [d, d] = [some d, some d, none, none] := rfl
    simp only [e0, b_l_equal2]
    cases d with
    | non =>
      have z : oEq st .non .non = some (.bl true) := rfl
      repeat (first | walk_at "ev" | simp only [isTy, tk, isTk, ne_bl, eq_bl, z, e_kfnR])
    | bl b => repeat (first | walk_at "ev" | simp only [isTy, tk, isTk, ne_bl, eq_bl, e_kfnR])
    | int i => repeat (first | walk_at "ev" | simp only [isTy, tk, isTk, ne_bl, eq_bl, decide_true, e_kfnR])
    | str x => repeat (first | walk_at "ev" | simp only [isTy, tk, isTk, ne_bl, eq_bl, decide_true, e_kfnR])
    | tup xs => simp only [dep] at hd; omega
    | _ => simp [plD0] at hp
  | succ n ih =>
    intro d hp hd st
    rw [call_eq hF rfl]
    have e0 : startE 4 [d, d] = [some d, some d, none, none] := rfl
    simp only [e0, b_l_equal2]
    cases d with
    | non =>
      have z : oEq st .non .non = some (.bl true) := rfl
      repeat (first | walk_at "ev" | simp only [isTy, tk, isTk, ne_bl, eq_bl, z, e_kfnR])
    | bl b => repeat (first | walk_at "ev" | simp only [isTy, tk, isTk, ne_bl, eq_bl, e_kfnR])
    | int i => repeat (first | walk_at "ev" | simp only [isTy, tk, isTk, ne_bl, eq_bl, decide_true, e_kfnR])
    | str x => repeat (first | walk_at "ev" | simp only [isTy, tk, isTk, ne_bl, eq_bl, decide_true, e_kfnR])
    | tup xs =>
      simp only [plD0] at hp
      simp only [dep] at hd
      have lc : lcL always (gT 2 (gsCons (gN 2) (gsCons (gN 3) gsNil))) bYes (eCall (callN F (n + 1)) "_law_equal" (aCons (eVar 2) (aCons (eVar 3) aNil))) [some (D.tup xs), some (.tup xs), none, none] (pairsD xs xs) st = some ((pairsD xs xs).map (fun _ => D.bl true), st) := by
        apply lc_pure (fun _ => D.bl true)
        intro d hd2
        obtain ⟨x, hx, rfl⟩ := pairs_self_mem hd2
        refine ⟨_, rfl, rfl, ?_⟩
        have k := ih x (plDs0_mem hp x hx) (by have := deps_mem hx; omega) st
        repeat (first | walk_at "ev" | simp only [k])
      repeat (first | walk_at "ev" | simp only [isTy, tk, isTk, decide_true, lc, map_const_true, all_const_true, e_kfnR])
    | _ => simp [plD0] at hp

theorem one_spec {F : String → Option Fn} (hN : F "_law_next" = some ⟨2, 9, b_l_next⟩) (hF : F "_law_one" = some ⟨2, 2, b_l_one⟩) (n : Nat) {s : Dr} {b : Int} (hs : DOk s (b + 1)) (hb : 0 ≤ b) (o : Sto) {it : D} {xs : List D} (hi : it = .lst xs ∨ it = .tup xs) (h0 : 0 < xs.length) (h1 : xs.length ≤ 1000000) :
    ∃ x s', callN F (n + 2) "_law_one" [.loc 1, it] (mkSt s o) = some (x, mkSt s' o) ∧ x ∈ xs ∧ DOk s' b := by
  have dr := draws_of hN n
  obtain ⟨i, s1, k1, i0, i1, d1⟩ := dr.nx s b o (xs.length : Int) hs hb (by omega) (by omega)
  obtain ⟨x, hx, ex⟩ := at_list (xs := xs) (n := (xs.length : Int)) i0 i1 rfl
  refine ⟨x, s1, ?_, hx, d1⟩
  rw [call_eq hF rfl]
  have e0 : startE 2 [.loc 1, it] = [some (.loc 1), some it] := rfl
  simp only [e0, b_l_one]
  rcases hi with rfl | rfl
  · repeat (first | walk_at "ev" | simp only [k1, ex, e_kfnR])
  · repeat (first | walk_at "ev" | simp only [k1, ex, e_kfnR])
end Tg
/-! Slices and plain data. -/
namespace Tg
open PySem PySem.Spec PyProof.Rows L2
section
variable {st : Sto} {xs ys : List D} {i : Int}
theorem cut_to (h : 0 ≤ i) : cutD xs none (some i) = xs.take i.toNat := by
  unfold cutD
  have e : (some i) = some ((i.toNat : Nat) : Int) := by rw [Int.toNat_of_nonneg h]
  rw [HT.sIx_none, e, HT.sIx_nat, List.drop_zero, Nat.sub_zero]
  by_cases hh : i.toNat ≤ xs.length
  · rw [Nat.min_eq_left hh]
  · rw [Nat.min_eq_right (by omega), List.take_of_length_le (Nat.le_refl _), List.take_of_length_le (by omega)]
theorem cut_from (h : 0 ≤ i) : cutD xs (some i) none = xs.drop i.toNat := by
  unfold cutD
  have e : (some i) = some ((i.toNat : Nat) : Int) := by rw [Int.toNat_of_nonneg h]
  rw [HT.sIx_none, e, HT.sIx_nat]
  by_cases hh : i.toNat ≤ xs.length
  · rw [Nat.min_eq_left hh, List.take_of_length_le (by rw [List.length_drop]; omega)]
  · rw [Nat.min_eq_right (by omega), List.drop_of_length_le (Nat.le_refl _), List.drop_of_length_le (by omega), List.take_nil]
theorem sl_to (h : 0 ≤ i) : sliceD st none (some i) (.tup xs) = some (.tup (xs.take i.toNat)) := by
  show some (D.tup (cutD xs none (some i))) = _
  rw [cut_to h]
theorem sl_from (h : 0 ≤ i) : sliceD st (some i) none (.tup xs) = some (.tup (xs.drop i.toNat)) := by
  show some (D.tup (cutD xs (some i) none)) = _
  rw [cut_from h]
theorem add_tup (h : xs.length + ys.length ≤ 1000) : oAdd st (.tup xs) (.tup ys) = some (.tup (xs ++ ys)) := by
  show (if fits (xs.length + ys.length) then _ else _) = _
  rw [fits_small h]
  rfl
/-- the items with those from i to i + 1 put in another's place -/
def swapD (xs : List D) (i : Nat) (ys : List D) : List D := xs.take i ++ ys ++ xs.drop (i + 1)
theorem swap_nil (xs : List D) (i : Nat) : xs.take i ++ xs.drop (i + 1) = swapD xs i [] := by simp [swapD]
end
/-- plain data of depth at most k -/
def Pl (k : Nat) (d : D) : Prop := plD0 d = true ∧ dep d ≤ k
theorem Pl.mono {k k' : Nat} {d : D} (h : Pl k d) (hk : k ≤ k') : Pl k' d := ⟨h.1, Nat.le_trans h.2 hk⟩
theorem pl_int {k : Nat} {i : Int} : Pl k (.int i) := ⟨rfl, by simp only [dep]; omega⟩
theorem pl_bl {k : Nat} {b : Bool} : Pl k (.bl b) := ⟨rfl, by simp only [dep]; omega⟩
theorem pl_str {k : Nat} {s : Str} : Pl k (.str s) := ⟨rfl, by simp only [dep]; omega⟩
theorem pl_all {k : Nat} : ∀ {ds : List D}, (∀ d ∈ ds, Pl k d) → plDs0 ds = true ∧ deps ds ≤ k
  | [], _ => ⟨rfl, Nat.zero_le _⟩
  | d :: ds, h => by
    obtain ⟨a, b⟩ := pl_all fun x hx => h x (List.mem_cons_of_mem _ hx)
    obtain ⟨a', b'⟩ := h d List.mem_cons_self
    refine ⟨?_, ?_⟩
    · simp only [plDs0, a, a']; rfl
    · simp only [deps]; omega
theorem pl_tup {k : Nat} {ds : List D} (h : ∀ d ∈ ds, Pl k d) : Pl (k + 1) (.tup ds) := by
  obtain ⟨a, b⟩ := pl_all h
  exact ⟨by simpa [plD0] using a, by simp only [dep]; omega⟩
theorem pl_nil {k : Nat} : ∀ d ∈ ([] : List D), Pl k d := fun d h => by simp at h
theorem pl_cons {k : Nat} {x : D} {xs : List D} (hx : Pl k x) (h : ∀ d ∈ xs, Pl k d) : ∀ d ∈ x :: xs, Pl k d := fun d hd => by
  rcases List.mem_cons.mp hd with rfl | hd
  · exact hx
  · exact h d hd
theorem pl_app {k : Nat} {xs ys : List D} (hx : ∀ d ∈ xs, Pl k d) (h : ∀ d ∈ ys, Pl k d) : ∀ d ∈ xs ++ ys, Pl k d := fun d hd => by
  rcases List.mem_append.mp hd with hd | hd
  · exact hx d hd
  · exact h d hd
theorem pl_map {α : Type} {k : Nat} {xs : List α} {f : α → D} (h : ∀ x ∈ xs, Pl k (f x)) : ∀ d ∈ xs.map f, Pl k d := fun d hd => by
  obtain ⟨x, hx, rfl⟩ := List.mem_map.mp hd
  exact h x hx
theorem pl_swap {k i : Nat} {xs ys : List D} (hx : ∀ d ∈ xs, Pl k d) (h : ∀ d ∈ ys, Pl k d) : ∀ d ∈ swapD xs i ys, Pl k d :=
  pl_app (pl_app (fun d hd => hx d (List.mem_of_mem_take hd)) h) (fun d hd => hx d (List.mem_of_mem_drop hd))
theorem pl_ring {r : Ring} : Pl 1 (ringD r) := pl_tup (pl_cons pl_int (pl_cons pl_int (pl_cons pl_int pl_nil)))
theorem pl_cord {c : Cord} : Pl 1 (cordD c) := pl_tup (pl_cons pl_int (pl_cons pl_int (pl_cons pl_int (pl_cons pl_int pl_nil))))
theorem pl_bar {c : Bar} : Pl 1 (barD c) := pl_tup (pl_cons pl_int (pl_cons pl_int (pl_cons pl_int pl_nil)))
theorem eq2 {F : String → Option Fn} (hF : F "_law_equal" = some ⟨2, 4, b_l_equal2⟩) {n k : Nat} {d : D} (h : Pl k d) (hk : k ≤ n) (st : Sto) : callN F (n + 1) "_law_equal" [d, d] st = some (.bl true, st) := equal_self2 hF n d h.1 (Nat.le_trans h.2 hk) st
theorem eq1 {F : String → Option Fn} (hF : F "_law_equal" = some ⟨2, 4, b_l_equal⟩) {n k : Nat} {d : D} (h : Pl k d) (hk : k ≤ n) (st : Sto) : callN F (n + 1) "_law_equal" [d, d] st = some (.bl true, st) := equal_self hF n d h.1 (Nat.le_trans h.2 hk) st
theorem ring_at {R : Rig} {i : Int} (h0 : 0 ≤ i) (h : i < R.qs.length) : ∃ r : Ring, atI (R.rings.map ringD) i = some (ringD r) := by
  obtain ⟨r, _, _, b⟩ := atI_in R.rings h0 (by rw [rigs_len]; exact h)
  refine ⟨r, ?_⟩
  have e : atI (R.rings.map ringD) ((i.toNat : Nat) : Int) = some (ringD r) := atI_nat (by rw [List.getElem?_map, b]; rfl)
  rwa [Int.toNat_of_nonneg h0] at e
theorem cord_at {R : Rig} {i : Int} (h0 : 0 ≤ i) (h : i < R.cords.length) : ∃ c : Cord, atI (R.cords.map cordD) i = some (cordD c) := by
  obtain ⟨r, _, _, b⟩ := atI_in R.cords h0 h
  refine ⟨r, ?_⟩
  have e : atI (R.cords.map cordD) ((i.toNat : Nat) : Int) = some (cordD r) := atI_nat (by rw [List.getElem?_map, b]; rfl)
  rwa [Int.toNat_of_nonneg h0] at e
end Tg
/-! Plain: places that lows and bars force, by rounds. -/
namespace Tg
open PySem PySem.Spec PyProof.Rows L2

/-! ### vectors -/
abbrev pa (x : List Int) (i : Nat) : Int := x.getD i 0
theorem pa_ext {x y : List Int} (hl : x.length = y.length) (h : ∀ i, i < x.length → pa x i = pa y i) : x = y := by
  apply List.ext_getElem hl
  intro i h1 h2
  have := h i h1
  unfold pa at this
  rw [List.getD_eq_getElem?_getD, List.getD_eq_getElem?_getD, List.getElem?_eq_getElem h1, List.getElem?_eq_getElem h2] at this
  simpa using this
theorem pa_set {x : List Int} {i j : Nat} {v : Int} : pa (x.set i v) j = if i = j ∧ i < x.length then v else pa x j := by
  unfold pa
  rw [List.getD_eq_getElem?_getD, List.getD_eq_getElem?_getD, List.getElem?_set]
  by_cases h : i = j
  · subst h
    by_cases hl : i < x.length
    · simp [hl]
    · simp [hl, List.getElem?_eq_none (Nat.le_of_not_lt hl)]
  · simp [h]
def vec (n : Nat) (f : Nat → Int) : List Int := (List.range n).map f
theorem vec_len {n : Nat} {f : Nat → Int} : (vec n f).length = n := by simp [vec]
theorem pa_vec {n i : Nat} {f : Nat → Int} (h : i < n) : pa (vec n f) i = f i := by
  unfold pa vec
  rw [List.getD_eq_getElem?_getD, List.getElem?_map, List.getElem?_range h]
  rfl
theorem sum_vec_le {f g : Nat → Int} : ∀ n, (∀ i, i < n → f i ≤ g i) → (vec n f).sum ≤ (vec n g).sum
  | 0, _ => by simp [vec]
  | n + 1, h => by
    have ih := sum_vec_le n (fun i hi => h i (by omega))
    have := h n (by omega)
    unfold vec at *
    rw [List.range_succ, List.map_append, List.map_append, List.sum_append, List.sum_append]
    simp only [List.map_cons, List.map_nil, List.sum_cons, List.sum_nil]
    omega
theorem sum_vec_lt {f g : Nat → Int} : ∀ n, (∀ i, i < n → f i ≤ g i) → (∃ i, i < n ∧ f i < g i) → (vec n f).sum < (vec n g).sum
  | 0, _, h => by
    obtain ⟨i, hi, _⟩ := h
    omega
  | n + 1, h, hx => by
    have h1 := sum_vec_le n (fun i hi => h i (by omega))
    have h2 := h n (by omega)
    obtain ⟨i, hi, hx⟩ := hx
    unfold vec at *
    rw [List.range_succ, List.map_append, List.map_append, List.sum_append, List.sum_append]
    simp only [List.map_cons, List.map_nil, List.sum_cons, List.sum_nil]
    by_cases e : i = n
    · subst e
      omega
    · have := sum_vec_lt n (fun i hi => h i (by omega)) ⟨i, by omega, hx⟩
      unfold vec at this
      omega
theorem vec_self (x : List Int) : vec x.length (pa x) = x := pa_ext vec_len fun i hi => pa_vec (by rwa [vec_len] at hi)

/-! ### rounds -/
def lift1 (x : List Int) (c : Bar) : List Int := x.set c.a.toNat (max (pa x c.a.toNat) (pa x c.b.toNat - c.len))
def liftL (bs : List Bar) (x : List Int) : List Int := bs.foldl lift1 x
def liftN (bs : List Bar) : Nat → List Int → List Int
  | 0, x => x
  | n + 1, x => liftN bs n (liftL bs x)
def BIn (n : Nat) (c : Bar) : Prop := c.a.toNat < n ∧ c.b.toNat < n
def Holds (bs : List Bar) (x : List Int) : Prop := ∀ c ∈ bs, pa x c.b.toNat - pa x c.a.toNat ≤ c.len
theorem lift1_len {x : List Int} {c : Bar} : (lift1 x c).length = x.length := List.length_set
theorem liftL_len {bs : List Bar} : ∀ {x : List Int}, (liftL bs x).length = x.length := by
  induction bs with
  | nil => intro x; rfl
  | cons c bs ih => intro x; show (liftL bs (lift1 x c)).length = _; rw [ih, lift1_len]
theorem liftN_len {bs : List Bar} : ∀ {n : Nat} {x : List Int}, (liftN bs n x).length = x.length
  | 0, _ => rfl
  | n + 1, x => by
    show (liftN bs n (liftL bs x)).length = _
    rw [liftN_len, liftL_len]
theorem lift1_ge {x : List Int} {c : Bar} (i : Nat) : pa x i ≤ pa (lift1 x c) i := by
  unfold lift1
  rw [pa_set]
  split
  · next h => rw [← h.1]; omega
  · omega
theorem liftL_ge {bs : List Bar} : ∀ {x : List Int} (i : Nat), pa x i ≤ pa (liftL bs x) i := by
  induction bs with
  | nil => intro x i; exact Int.le_refl _
  | cons c bs ih => intro x i; exact Int.le_trans (lift1_ge i) (ih i)
theorem liftN_ge {bs : List Bar} : ∀ {n : Nat} {x : List Int} (i : Nat), pa x i ≤ pa (liftN bs n x) i
  | 0, _, _ => Int.le_refl _
  | n + 1, x, i => Int.le_trans (liftL_ge i) (liftN_ge (n := n) i)
theorem lift1_le {x p : List Int} {c : Bar} (h : ∀ i, pa x i ≤ pa p i) (hc : pa p c.b.toNat - pa p c.a.toNat ≤ c.len) (i : Nat) : pa (lift1 x c) i ≤ pa p i := by
  unfold lift1
  rw [pa_set]
  split
  · next e =>
    have h1 := h c.a.toNat
    have h2 := h c.b.toNat
    rw [← e.1]
    omega
  · exact h i
theorem liftL_le {p : List Int} {bs : List Bar} (hb : Holds bs p) : ∀ {x : List Int}, (∀ i, pa x i ≤ pa p i) → ∀ i, pa (liftL bs x) i ≤ pa p i := by
  induction bs with
  | nil => intro x h; exact h
  | cons c bs ih =>
    intro x h
    exact ih (fun c hc => hb c (List.mem_cons_of_mem _ hc)) (lift1_le h (hb c List.mem_cons_self))
theorem liftN_le {p : List Int} {bs : List Bar} (hb : Holds bs p) : ∀ {n : Nat} {x : List Int}, (∀ i, pa x i ≤ pa p i) → ∀ i, pa (liftN bs n x) i ≤ pa p i
  | 0, _, h => h
  | n + 1, x, h => liftN_le hb (n := n) (liftL_le hb h)
/-- a round serves each bar -/
theorem liftL_bar {bs : List Bar} {c : Bar} (hc : c ∈ bs) : ∀ {x : List Int}, c.a.toNat < x.length → pa x c.b.toNat - c.len ≤ pa (liftL bs x) c.a.toNat := by
  induction bs with
  | nil => cases hc
  | cons d bs ih =>
    intro x hl
    show _ ≤ pa (liftL bs (lift1 x d)) _
    rcases List.mem_cons.mp hc with e | hc
    · subst e
      refine Int.le_trans ?_ (liftL_ge _)
      unfold lift1
      rw [pa_set, if_pos ⟨rfl, hl⟩]
      omega
    · have := ih hc (x := lift1 x d) (by rw [lift1_len]; exact hl)
      have := lift1_ge (x := x) (c := d) c.b.toNat
      omega
theorem lift_fix {bs : List Bar} {x : List Int} (hi : ∀ c ∈ bs, BIn x.length c) : liftL bs x = x ↔ Holds bs x := by
  constructor
  · intro e c hc
    have := liftL_bar hc (hi c hc).1
    rw [e] at this
    omega
  · intro h
    apply pa_ext liftL_len
    intro i _
    exact Int.le_antisymm (liftL_le h (fun _ => Int.le_refl _) i) (liftL_ge i)

/-! ### the least places -/
structure Feas (lo : List Int) (bs : List Bar) (x : List Int) : Prop where
  len : x.length = lo.length
  ge : ∀ i, i < lo.length → pa lo i ≤ pa x i
  bar : Holds bs x
theorem feas_min {lo : List Int} {bs : List Bar} : ∀ (m : Nat) (p : List Int), Feas lo bs p → p.sum - lo.sum ≤ m → ∃ L, Feas lo bs L ∧ ∀ q, Feas lo bs q → L.sum ≤ q.sum
  | m, p, hp, hm => by
    by_cases h : ∃ q, Feas lo bs q ∧ q.sum < p.sum
    · obtain ⟨q, hq, hl⟩ := h
      have h0 : lo.sum ≤ q.sum := by
        rw [← vec_self lo, ← vec_self q, hq.len]
        exact sum_vec_le _ hq.ge
      cases m with
      | zero => omega
      | succ m => exact feas_min m q hq (by omega)
    · refine ⟨p, hp, fun q hq => ?_⟩
      apply Classical.byContradiction
      intro hn
      exact h ⟨q, hq, by omega⟩
/-- how many places are already least -/
def same (x L : List Int) : Nat := (List.range L.length).countP fun i => decide (pa x i = pa L i)
theorem countP_lt {p q : Nat → Bool} : ∀ n, (∀ i, i < n → p i = true → q i = true) → (∃ i, i < n ∧ p i = false ∧ q i = true) → (List.range n).countP p < (List.range n).countP q
  | 0, _, h => by
    obtain ⟨i, hi, _⟩ := h
    omega
  | n + 1, h, hx => by
    have mono : (List.range n).countP p ≤ (List.range n).countP q := List.countP_mono_left fun i hi => h i (by have := List.mem_range.mp hi; omega)
    rw [List.range_succ, List.countP_append, List.countP_append, List.countP_singleton, List.countP_singleton]
    obtain ⟨i, hi, h1, h2⟩ := hx
    by_cases e : i = n
    · subst e
      rw [h1, h2]
      simp
      omega
    · have := countP_lt n (fun i hi => h i (by omega)) ⟨i, by omega, h1, h2⟩
      have h3 := h n (by omega)
      cases hp : p n with
      | true => rw [h3 hp]; omega
      | false =>
        rw [if_neg (by simp)]
        have : 0 ≤ (if q n = true then 1 else 0) := Nat.zero_le _
        omega
theorem same_le (x L : List Int) : same x L ≤ L.length := by
  unfold same
  exact Nat.le_trans List.countP_le_length (by simp)
theorem same_all {x L : List Int} (hl : x.length = L.length) (h : same x L = L.length) : x = L := by
  unfold same at h
  have h2 := (List.countP_eq_length (p := fun i => decide (pa x i = pa L i)) (l := List.range L.length)).mp (by rw [h]; simp)
  exact pa_ext hl fun i hi => of_decide_eq_true (h2 i (List.mem_range.mpr (by omega)))
/-- some place that is not yet least stands by a tight bar from a least one, or at its low -/
theorem one_more {lo L x : List Int} {bs : List Bar} (hi : ∀ c ∈ bs, BIn lo.length c) (hL : Feas lo bs L) (hm : ∀ q, Feas lo bs q → L.sum ≤ q.sum) (hx : x.length = lo.length) (hle : ∀ i, pa x i ≤ pa L i) (hlo : ∀ i, i < lo.length → pa lo i ≤ pa x i) (hne : x ≠ L) :
    ∃ c ∈ bs, pa x c.a.toNat < pa L c.a.toNat ∧ pa x c.b.toNat = pa L c.b.toNat ∧ pa L c.a.toNat = pa L c.b.toNat - c.len := by
  apply Classical.byContradiction
  intro hno
  have hno : ∀ c ∈ bs, pa x c.a.toNat < pa L c.a.toNat → pa x c.b.toNat = pa L c.b.toNat → pa L c.b.toNat - c.len < pa L c.a.toNat := by
    intro c hc h1 h2
    have h3 := hL.bar c hc
    have : pa L c.a.toNat ≠ pa L c.b.toNat - c.len := fun e => hno ⟨c, hc, h1, h2, e⟩
    omega
  let f : Nat → Int := fun i => if pa x i = pa L i then pa L i else pa L i - 1
  have fe : ∀ i, i < lo.length → pa (vec lo.length f) i = f i := fun i h => pa_vec h
  have hq : Feas lo bs (vec lo.length f) := by
    refine ⟨vec_len, fun i h => ?_, fun c hc => ?_⟩
    · rw [fe i h]
      have := hle i
      have := hlo i h
      simp only [f]
      split <;> omega
    · obtain ⟨ha, hb⟩ := hi c hc
      rw [fe _ ha, fe _ hb]
      have h1 := hle c.a.toNat
      have h2 := hle c.b.toNat
      have h3 := hL.bar c hc
      have h4 := hno c hc
      simp only [f]
      split <;> split <;> omega
  have hd : ∃ i, i < lo.length ∧ pa x i ≠ pa L i := by
    apply Classical.byContradiction
    intro hn
    refine hne (pa_ext (by rw [hx, hL.len]) fun i h => ?_)
    apply Classical.byContradiction
    intro h2
    exact hn ⟨i, by omega, h2⟩
  obtain ⟨i, hil, hix⟩ := hd
  have hs := hm _ hq
  have : (vec lo.length f).sum < L.sum := by
    have e := vec_self L
    rw [hL.len] at e
    rw [← e]
    refine sum_vec_lt _ (fun j _ => ?_) ⟨i, hil, ?_⟩
    · show f j ≤ pa L j
      simp only [f]
      split <;> omega
    · show f i < pa L i
      simp only [f]
      rw [if_neg hix]
      omega
  omega
theorem rounds {lo L : List Int} {bs : List Bar} (hi : ∀ c ∈ bs, BIn lo.length c) (hL : Feas lo bs L) (hm : ∀ q, Feas lo bs q → L.sum ≤ q.sum) :
    ∀ (k : Nat) (x : List Int), x.length = lo.length → (∀ i, pa x i ≤ pa L i) → (∀ i, i < lo.length → pa lo i ≤ pa x i) → lo.length ≤ same x L + k → liftN bs k x = L
  | 0, x, hx, hle, hlo, hk => by
    have h1 := same_le x L
    show x = L
    exact same_all (by rw [hx, hL.len]) (by have := hL.len; omega)
  | k + 1, x, hx, hle, hlo, hk => by
    show liftN bs k (liftL bs x) = L
    refine rounds hi hL hm k _ (by rw [liftL_len]; exact hx) (liftL_le hL.bar hle) (fun i h => Int.le_trans (hlo i h) (liftL_ge i)) ?_
    have mono : ∀ i, i < L.length → decide (pa x i = pa L i) = true → decide (pa (liftL bs x) i = pa L i) = true := by
      intro i _ h
      have h := of_decide_eq_true h
      have h1 := liftL_ge (bs := bs) (x := x) i
      have h2 := liftL_le hL.bar hle i
      exact decide_eq_true (by omega)
    by_cases hne : x = L
    · have : same x L ≤ same (liftL bs x) L := List.countP_mono_left fun i hi => mono i (List.mem_range.mp hi)
      have h3 : same x L = L.length := by
        rw [hne]
        unfold same
        rw [List.countP_eq_length.mpr (by intro i _; simp)]
        simp
      have := hL.len
      omega
    · obtain ⟨c, hc, h1, h2, h3⟩ := one_more hi hL hm hx hle hlo hne
      obtain ⟨ha, hb⟩ := hi c hc
      have : same x L < same (liftL bs x) L := by
        refine countP_lt _ mono ⟨c.a.toNat, by rw [hL.len]; exact ha, decide_eq_false (by omega), decide_eq_true ?_⟩
        have h4 := liftL_bar hc (x := x) (by rw [hx]; exact ha)
        have h5 := liftL_le hL.bar hle c.a.toNat
        omega
      omega
theorem least {lo p : List Int} {bs : List Bar} (hi : ∀ c ∈ bs, BIn lo.length c) (hp : Feas lo bs p) : Feas lo bs (liftN bs lo.length lo) := by
  obtain ⟨L, hL, hm⟩ := feas_min (p.sum - lo.sum).toNat p hp (by omega)
  have h0 : ∀ i, pa lo i ≤ pa L i := by
    intro i
    by_cases h : i < lo.length
    · exact hL.ge i h
    · unfold pa
      rw [List.getD_eq_getElem?_getD, List.getD_eq_getElem?_getD, List.getElem?_eq_none (by omega), List.getElem?_eq_none (by have := hL.len; omega)]
      exact Int.le_refl _
  rw [rounds hi hL hm lo.length lo rfl h0 (fun _ _ => Int.le_refl _) (by omega)]
  exact hL
theorem least_le {lo q : List Int} {bs : List Bar} (hq : Feas lo bs q) (n i : Nat) : pa (liftN bs n lo) i ≤ pa q i := by
  refine liftN_le hq.bar (fun i => ?_) i
  by_cases h : i < lo.length
  · exact hq.ge i h
  · unfold pa
    rw [List.getD_eq_getElem?_getD, List.getD_eq_getElem?_getD, List.getElem?_eq_none (by omega), List.getElem?_eq_none (by have := hq.len; omega)]
    exact Int.le_refl _
end Tg
/-! Places and bounds: what the program's functions give. -/

namespace Tg
open PySem PySem.Spec PyProof.Rows L2

-- lib is_integer 18430d b_is_integer 3 3
noncomputable def b_is_integer (C : Orc) : DS := (sSeq (sRet (eAnd (eIsi .int (eVar 0)) (eAnd (eNot (eIsi .bool (eVar 0))) (eChain oLe oLe (eVar 1) (eVar 0) (eVar 2)))))
    sNil)
-- lib is_tuple 9031f0 b_is_tuple 3 3
noncomputable def b_is_tuple (C : Orc) : DS := (sSeq (sRet (eAnd (eIsi .tuple (eVar 0)) (eChain oLe oLe (eVar 1) (eBlt gLen (aCons (eVar 0) aNil)) (eVar 2))))
    sNil)
-- lib raise_places 225fd6 b_raise_places 2 6
noncomputable def b_raise_places_f1 (C : Orc) : DS := (sSeq (sAsg (eBlt gMax2 (aCons (eOp oIx (eVar 2) (eVar 3)) (aCons (eOp oSub (eOp oIx (eVar 2) (eVar 4)) (eVar 5)) aNil))) (gSb (eVar 2) (eVar 3)))
    sNil)
noncomputable def b_raise_places (C : Orc) : DS := (sSeq (sAsg (eNew seq1 (aCons (eVar 1) aNil)) (gN 2))
    (sSeq (sFor (iSeq (eOp oIx (eVar 0) (eC (.int 2)))) (gT 3 (gsCons (gN 3) (gsCons (gN 4) (gsCons (gN 5) gsNil)))) (b_raise_places_f1 C))
    (sSeq (sRet (eBlt gTuple (aCons (eVar 2) aNil)))
    sNil)))
-- lib lowest_places 786169 b_lowest_places 1 8
noncomputable def b_lowest_places_f1 (C : Orc) : DS := (sSeq (sAsg (eCall C "raise_places" (aCons (eVar 0) (aCons (eVar 1) aNil))) (gN 1))
    sNil)
noncomputable def b_lowest_places (C : Orc) : DS := (sSeq (sAsg (eBlt gTuple (aCons (eLc [2, 3, 4] (iSeq (eOp oIx (eVar 0) (eC (.int 0)))) (gT 3 (gsCons (gN 2) (gsCons (gN 3) (gsCons (gN 4) gsNil)))) bYes (eVar 2)) aNil)) (gN 1))
    (sSeq (sFor (iRng (aCons (eBlt gLen (aCons (eOp oIx (eVar 0) (eC (.int 0))) aNil)) aNil)) (gN 5) (b_lowest_places_f1 C))
    (sSeq (sIf (bOr (bVal (eOp oNe (eCall C "raise_places" (aCons (eVar 0) (aCons (eVar 1) aNil))) (eVar 1))) (bVal (eBlt gAny (aCons (eLc [6, 7] (iZip (eVar 1) (eOp oIx (eVar 0) (eC (.int 0)))) (gT 2 (gsCons (gN 6) (gsCons (gN 7) gsNil))) bYes (eOp oGt (eVar 6) (eOp oIx (eVar 7) (eC (.int 1))))) aNil)))) (sSeq (sRet (eC .non))
    sNil) sNil)
    (sSeq (sRet (eVar 1))
    sNil))))
-- lib stretch_of 7f8ed1 b_stretch_of 2 2
noncomputable def b_stretch_of (C : Orc) : DS := (sSeq (sRet (eOp oSub (eOp oIx (eVar 1) (eOp oIx (eVar 0) (eC (.int 1)))) (eOp oIx (eVar 1) (eOp oIx (eVar 0) (eC (.int 0))))))
    sNil)
-- lib is_placement d6604c b_is_placement 2 8
noncomputable def b_is_placement (C : Orc) : DS := (sSeq (sAsg (eVar 0) (gT 3 (gsCons (gN 2) (gsCons (gN 3) (gsCons (gN 4) gsNil)))))
    (sSeq (sIf (bNot (bVal (eCall C "is_tuple" (aCons (eVar 1) (aCons (eBlt gLen (aCons (eVar 2) aNil)) (aCons (eBlt gLen (aCons (eVar 2) aNil)) aNil)))))) (sSeq (sRet (eC (.bl false)))
    sNil) sNil)
    (sSeq (sIf (bNot (bVal (eBlt gAll (aCons (eLc [5, 6] (iZip (eVar 1) (eVar 2)) (gT 2 (gsCons (gN 5) (gsCons (gN 6) gsNil))) bYes (eCall C "is_integer" (aCons (eVar 5) (aCons (eOp oIx (eVar 6) (eC (.int 0))) (aCons (eOp oIx (eVar 6) (eC (.int 1))) aNil))))) aNil)))) (sSeq (sRet (eC (.bl false)))
    sNil) sNil)
    (sSeq (sRet (eBlt gAll (aCons (eLc [7] (iSeq (eVar 4)) (gN 7) bYes (eOp oLe (eCall C "stretch_of" (aCons (eVar 7) (aCons (eVar 1) aNil))) (eOp oIx (eVar 7) (eC (.int 2))))) aNil)))
    sNil))))
-- lib reversed_rig f55f60 b_reversed_rig 1 13
noncomputable def b_reversed_rig (C : Orc) : DS := (sSeq (sAsg (eVar 0) (gT 3 (gsCons (gN 1) (gsCons (gN 2) (gsCons (gN 3) gsNil)))))
    (sSeq (sAsg (eBlt gTuple (aCons (eLc [5, 6, 7] (iSeq (eVar 1)) (gT 3 (gsCons (gN 5) (gsCons (gN 6) (gsCons (gN 7) gsNil)))) bYes (eTup (aCons (eOp oSub (eC (.int 0)) (eVar 6)) (aCons (eOp oSub (eC (.int 0)) (eVar 5)) (aCons (eOp oSub (eC (.int 0)) (eVar 7)) aNil))))) aNil)) (gN 4))
    (sSeq (sAsg (eBlt gTuple (aCons (eLc [9, 10, 11, 12] (iSeq (eVar 2)) (gT 4 (gsCons (gN 9) (gsCons (gN 10) (gsCons (gN 11) (gsCons (gN 12) gsNil))))) bYes (eTup (aCons (eVar 10) (aCons (eVar 9) (aCons (eVar 11) (aCons (eVar 12) aNil)))))) aNil)) (gN 8))
    (sSeq (sRet (eTup (aCons (eVar 4) (aCons (eVar 8) (aCons (eBlt gTuple (aCons (eLc [9, 10, 11] (iSeq (eVar 3)) (gT 3 (gsCons (gN 9) (gsCons (gN 10) (gsCons (gN 11) gsNil)))) bYes (eTup (aCons (eVar 10) (aCons (eVar 9) (aCons (eVar 11) aNil))))) aNil)) aNil)))))
    sNil))))
-- lib placement_bounds 68ff32 b_placement_bounds 1 2
noncomputable def b_placement_bounds (C : Orc) : DS := (sSeq (sRet (eTup (aCons (eCall C "lowest_places" (aCons (eVar 0) aNil)) (aCons (eBlt gTuple (aCons (eLc [1] (iSeq (eCall C "lowest_places" (aCons (eCall C "reversed_rig" (aCons (eVar 0) aNil)) aNil))) (gN 1) bYes (eOp oSub (eC (.int 0)) (eVar 1))) aNil)) aNil))))
    sNil)
-- lib _law_integer 5a99b4 b_l_integer 3 3
noncomputable def b_l_integer (C : Orc) : DS := (sSeq (sRet (eAnd (eIsi .int (eVar 0)) (eAnd (eNot (eIsi .bool (eVar 0))) (eChain oLe oLe (eVar 1) (eVar 0) (eVar 2)))))
    sNil)
-- lib _law_sized 6f8f2b b_l_sized 3 3
noncomputable def b_l_sized (C : Orc) : DS := (sSeq (sRet (eAnd (eIsi .tuple (eVar 0)) (eChain oLe oLe (eVar 1) (eBlt gLen (aCons (eVar 0) aNil)) (eVar 2))))
    sNil)
-- lib _law_stretches 6af357 b_l_stretches 2 3
noncomputable def b_l_stretches (C : Orc) : DS := (sSeq (sRet (eBlt gTuple (aCons (eLc [2] (iSeq (eVar 0)) (gN 2) bYes (eOp oSub (eOp oIx (eVar 1) (eOp oIx (eVar 2) (eC (.int 1)))) (eOp oIx (eVar 1) (eOp oIx (eVar 2) (eC (.int 0)))))) aNil)))
    sNil)
-- lib _law_is_placement f345b3 b_l_is_placement 2 6
noncomputable def b_l_is_placement_f1 (C : Orc) : DS := (sSeq (sIf (bNot (bVal (eCall C "_law_integer" (aCons (eVar 2) (aCons (eOp oIx (eVar 3) (eC (.int 0))) (aCons (eOp oIx (eVar 3) (eC (.int 1))) aNil)))))) (sSeq (sRet (eC (.bl false)))
    sNil) sNil)
    sNil)
noncomputable def b_l_is_placement (C : Orc) : DS := (sSeq (sIf (bNot (bVal (eCall C "_law_sized" (aCons (eVar 1) (aCons (eBlt gLen (aCons (eOp oIx (eVar 0) (eC (.int 0))) aNil)) (aCons (eBlt gLen (aCons (eOp oIx (eVar 0) (eC (.int 0))) aNil)) aNil)))))) (sSeq (sRet (eC (.bl false)))
    sNil) sNil)
    (sSeq (sFor (iZip (eVar 1) (eOp oIx (eVar 0) (eC (.int 0)))) (gT 2 (gsCons (gN 2) (gsCons (gN 3) gsNil))) (b_l_is_placement_f1 C))
    (sSeq (sRet (eOp oEq (eLc [4, 5] (iZip (eCall C "_law_stretches" (aCons (eOp oIx (eVar 0) (eC (.int 2))) (aCons (eVar 1) aNil))) (eOp oIx (eVar 0) (eC (.int 2)))) (gT 2 (gsCons (gN 4) (gsCons (gN 5) gsNil))) (bVal (eOp oGt (eVar 4) (eOp oIx (eVar 5) (eC (.int 2))))) (eC (.int 1))) (eLst aNil)))
    sNil)))

/-! ### ways through loops -/
theorem for_rel {α : Type} {tg : DG} {body : DS} (f : α → D) (P : List α → En → Sto → Prop)
    (step : ∀ x xs env st, P (x :: xs) env st → ∃ e s, tg (f x) env st = some (e, s) ∧ ∃ e2 s2, body e s = some (.nx e2, s2) ∧ P xs e2 s2) :
    ∀ xs env st, P xs env st → ∃ env' st', forL always tg body (xs.map f) env st = some (.nx env', st') ∧ P [] env' st'
  | [], env, st, h => ⟨env, st, rfl, h⟩
  | x :: xs, env, st, h => by
    obtain ⟨e, s, h1, e2, s2, h2, h3⟩ := step x xs env st h
    obtain ⟨env', st', h4, h5⟩ := for_rel f P step xs e2 s2 h3
    refine ⟨env', st', ?_, h5⟩
    rw [List.map_cons]
    unfold forL
    simp only [show always st = true from rfl, if_true, h1, Option.bind_some, h2, h4]
theorem lc_filter {α : Type} {tg : DG} {ifs : DB} {elt : DE} {env : En} {s : Sto} (f g : α → D) (p : α → Bool) : ∀ (xs : List α), (∀ x ∈ xs, ∃ e, tg (f x) env s = some (e, s) ∧ ifs e s = some (p x, s) ∧ (p x = true → elt e s = some (g x, s))) → lcL always tg ifs elt env (xs.map f) s = some ((xs.filter p).map g, s)
  | [], _ => by simp [lcL, always]
  | x :: xs, h => by
    obtain ⟨e, h1, h2, h3⟩ := h x List.mem_cons_self
    have ih := lc_filter f g p xs fun y hy => h y (List.mem_cons_of_mem _ hy)
    rw [List.map_cons]
    unfold lcL
    simp only [show always s = true from rfl, if_true, h1, Option.bind_some, h2]
    cases hp : p x with
    | true => simp only [if_true, h3 hp, Option.bind_some, ih, Option.map_some, List.filter_cons_of_pos hp, List.map_cons]
    | false =>
      rw [List.filter_cons, hp]
      simp only [Bool.false_eq_true, if_false, ih]
section
variable {st : Sto} {c : List D} {x : List Int} {i v : Int}
theorem ix_last : oIx (st ++ [c]) (.loc st.length) (.int i) = atI c i := by
  show ((st ++ [c])[st.length]?).bind _ = _
  rw [List.getElem?_append_right (Nat.le_refl _), Nat.sub_self]
  rfl
theorem tup_last : gTuple (st ++ [c]) [.loc st.length] = some (.tup c) := by
  show ((st ++ [c])[st.length]?).map _ = _
  rw [List.getElem?_append_right (Nat.le_refl _), Nat.sub_self]
  rfl
theorem set_last (h0 : 0 ≤ i) (h : i < x.length) : setC (st ++ [x.map D.int]) (.loc st.length) (.int i) (.int v) = some (st ++ [(x.set i.toNat v).map D.int]) := by
  show ((st ++ [x.map D.int])[st.length]?).bind _ = _
  rw [List.getElem?_append_right (Nat.le_refl _), Nat.sub_self]
  show (ixN (x.map D.int).length i).map _ = _
  unfold ixN
  rw [if_pos h0, if_pos (by rw [List.length_map]; exact h)]
  simp only [Option.map_some]
  rw [List.set_append_right _ _ (Nat.le_refl _), Nat.sub_self, List.set_cons_zero, ← List.map_set]
end

/-! ### data of rigs -/
abbrev rigD (rs : List Ring) (cs : List Cord) (bs : List Bar) : D := .tup [.tup (rs.map ringD), .tup (cs.map cordD), .tup (bs.map barD)]
abbrev plcD (x : List Int) : D := .tup (x.map D.int)
def optD : Option (List Int) → D
  | none => .non
  | some x => plcD x
def BIx (n : Nat) (c : Bar) : Prop := 0 ≤ c.a ∧ c.a < n ∧ 0 ≤ c.b ∧ c.b < n
theorem BIx.in {n : Nat} {c : Bar} (h : BIx n c) : BIn n c := by
  obtain ⟨a, b, c, d⟩ := h
  constructor <;> omega
section
variable {F : String → Option Fn}
theorem raise_spec (h1 : F "raise_places" = some ⟨2, 6, b_raise_places⟩ := by first | assumption | rfl) (n : Nat) {rs cs : D} {bs : List Bar} {x : List Int} (hb : ∀ c ∈ bs, BIx x.length c) (st : Sto) :
    ∃ g, callN F (n + 1) "raise_places" [.tup [rs, cs, .tup (bs.map barD)], plcD x] st = some (plcD (liftL bs x), st ++ g) := by
  rw [call_eq h1 rfl]
  have e0 : startE 6 [.tup [rs, cs, .tup (bs.map barD)], plcD x] = [some (.tup [rs, cs, .tup (bs.map barD)]), some (plcD x), none, none, none, none] := rfl
  have s1 : seq1 st [plcD x] = some (x.map D.int) := rfl
  obtain ⟨env', st', k, y, v3, v4, v5, rfl, rfl, hl, hy⟩ := for_rel (tg := gT 3 (gsCons (gN 3) (gsCons (gN 4) (gsCons (gN 5) gsNil)))) (body := b_raise_places_f1 (callN F n)) barD
    (fun ys env s => ∃ (y : List Int) (v3 v4 v5 : Option D), env = [some (.tup [rs, cs, .tup (bs.map barD)]), some (plcD x), some (.loc st.length), v3, v4, v5] ∧ s = st ++ [y.map D.int] ∧ (y.length = x.length ∧ (∀ c ∈ ys, BIx x.length c)) ∧ liftL ys y = liftL bs x)
    (by
      rintro c ys env s ⟨y, v3, v4, v5, rfl, rfl, ⟨hl, hc⟩, hy⟩
      refine ⟨_, _, rfl, ?_⟩
      obtain ⟨a0, a1, b0, b1⟩ := hc c List.mem_cons_self
      have ea := pat_at (ps := y) a0 (by rw [hl]; exact a1)
      have eb := pat_at (ps := y) b0 (by rw [hl]; exact b1)
      have se := fun v => set_last (st := st) (x := y) (i := c.a) (v := v) a0 (by rw [hl]; exact a1)
      simp only [b_raise_places_f1]
      repeat (first | walk_at "ev" | simp only [ix_last, ea, eb, se])
      refine ⟨_, _, rfl, y.set c.a.toNat (max (pAt y c.a) (pAt y c.b - c.len)), _, _, _, rfl, rfl, ⟨by rw [List.length_set]; exact hl, fun d hd => hc d (List.mem_cons_of_mem _ hd)⟩, hy⟩)
    bs [some (.tup [rs, cs, .tup (bs.map barD)]), some (plcD x), some (.loc st.length), none, none, none] (st ++ [x.map D.int]) ⟨x, none, none, none, rfl, rfl, ⟨rfl, hb⟩, rfl⟩
  simp only [e0, b_raise_places]
  repeat (first | walk_at "ev" | simp only [s1, k, tup_last, e_kfnR])
  exact ⟨_, by rw [← hy]; rfl⟩

/-! ### equality of tuples of integers -/
theorem lay_ints : ∀ x : List Int, lays (x.map D.int) = true
  | [] => rfl
  | _ :: x => by simp only [List.map_cons, lays, lay, lay_ints x, Bool.and_self]
theorem okD_plc (x : List Int) : okD (plcD x) = true := by
  unfold okD
  simp only [lay, lay_ints, dep, dep_ints, Bool.true_and]
  decide
theorem eqD_ints : ∀ x y : List Int, PyData.eqvAll (pyDs (x.map D.int)) (pyDs (y.map D.int)) = decide (x = y)
  | [], [] => by simp [pyDs, PyData.eqvAll]
  | [], _ :: _ => by simp [pyDs, PyData.eqvAll]
  | _ :: _, [] => by simp [pyDs, PyData.eqvAll]
  | a :: x, b :: y => by
    simp only [List.map_cons, pyDs, pyD, PyData.eqvAll, PyData.eqv, eqD_ints x y]
    by_cases h : a = b <;> by_cases h2 : x = y <;> simp [h, h2]
theorem eqD_plc (x y : List Int) : eqD (plcD x) (plcD y) = decide (x = y) := by
  unfold eqD
  simp only [pyD, PyData.eqv]
  exact eqD_ints x y
theorem ne_plc {st : Sto} (x y : List Int) : oNe st (plcD x) (plcD y) = some (.bl (!decide (x = y))) := by
  show (if okD (plcD x) && okD (plcD y) then some (D.bl (!eqD (plcD x) (plcD y))) else none) = _
  rw [okD_plc, okD_plc, eqD_plc]
  rfl
theorem eq_plc {st : Sto} (x y : List Int) : oEq st (plcD x) (plcD y) = some (.bl (decide (x = y))) := by
  show (if okD (plcD x) && okD (plcD y) then some (D.bl (eqD (plcD x) (plcD y))) else none) = _
  rw [okD_plc, okD_plc, eqD_plc]
  rfl

/-! ### the lowest places -/
def losL (rs : List Ring) : List Int := rs.map Ring.lo
def overB (rs : List Ring) (x : List Int) : Bool := ((x.zip rs).map fun q => decide (q.2.hi < q.1)).any id
def lowX (rs : List Ring) (bs : List Bar) : List Int := liftN bs rs.length (losL rs)
def lowL (rs : List Ring) (bs : List Bar) : Option (List Int) := if !decide (liftL bs (lowX rs bs) = lowX rs bs) || overB rs (lowX rs bs) then none else some (lowX rs bs)
theorem pairs_zip {α β : Type} (f : α → D) (g : β → D) : ∀ (xs : List α) (ys : List β), pairsD (xs.map f) (ys.map g) = (xs.zip ys).map fun q => .tup [f q.1, g q.2]
  | [], _ => by simp [pairsD]
  | _ :: _, [] => by simp [pairsD]
  | x :: xs, y :: ys => by
    rw [List.map_cons, List.map_cons, List.zip_cons_cons, List.map_cons, ← pairs_zip f g xs ys]
    rfl
theorem lowX_len {rs : List Ring} {bs : List Bar} : (lowX rs bs).length = rs.length := by
  unfold lowX losL
  rw [liftN_len, List.length_map]
theorem lowest_spec (h1 : F "raise_places" = some ⟨2, 6, b_raise_places⟩ := by first | assumption | rfl) (h2 : F "lowest_places" = some ⟨1, 8, b_lowest_places⟩ := by first | assumption | rfl) (n : Nat) {rs : List Ring} {cs : D} {bs : List Bar} (hb : ∀ c ∈ bs, BIx rs.length c) (hl : rs.length ≤ 1000) (st : Sto) :
    ∃ g, callN F (n + 2) "lowest_places" [.tup [.tup (rs.map ringD), cs, .tup (bs.map barD)]] st = some (optD (lowL rs bs), st ++ g) := by
  rw [call_eq h2 rfl]
  generalize hR : D.tup [.tup (rs.map ringD), cs, .tup (bs.map barD)] = R
  have e0 : startE 8 [R] = [some R, none, none, none, none, none, none, none] := rfl
  have u : ∀ (s : Sto) i, oIx s R (.int i) = atI [.tup (rs.map ringD), cs, .tup (bs.map barD)] i := fun s i => by rw [← hR]; rfl
  have l1 : lcL always (gT 3 (gsCons (gN 2) (gsCons (gN 3) (gsCons (gN 4) gsNil)))) bYes (eVar 2) [some R, none, none, none, none, none, none, none] (rs.map ringD) st = some (rs.map (fun r => D.int r.lo), st) :=
    lc_map ringD (fun r => D.int r.lo) rs fun r hr => ⟨_, rfl, rfl, by walk_at "ev"⟩
  have rg := e_krng1 (s := st) (j := (rs.length : Int)) (by omega) (by omega)
  obtain ⟨env', st', k, x, v5, g, rfl, rfl, hx, hy⟩ := for_rel (tg := gN 5) (body := b_lowest_places_f1 (callN F (n + 1))) (fun i : Nat => D.int (0 + (i : Int)))
    (fun ys env s => ∃ (x : List Int) (v5 : Option D) (g : Sto), env = [some R, some (plcD x), none, none, none, v5, none, none] ∧ s = st ++ g ∧ x.length = rs.length ∧ liftN bs ys.length x = lowX rs bs)
    (by
      rintro i ys env s ⟨x, v5, g, rfl, rfl, hx, hy⟩
      refine ⟨_, _, rfl, ?_⟩
      obtain ⟨g2, k⟩ := raise_spec h1 n (rs := .tup (rs.map ringD)) (cs := cs) (bs := bs) (x := x) (by rw [hx]; exact hb) (st ++ g)
      rw [hR] at k
      simp only [b_lowest_places_f1]
      repeat (first | walk_at "ev" | simp only [k])
      exact ⟨_, _, rfl, liftL bs x, _, g ++ g2, rfl, List.append_assoc .., by rw [liftL_len]; exact hx, hy⟩)
    (List.range rs.length) [some R, some (plcD (losL rs)), none, none, none, none, none, none] st ⟨losL rs, none, [], rfl, (List.append_nil st).symm, by simp [losL], by rw [List.length_range]; rfl⟩
  have hy : x = lowX rs bs := hy
  subst hy
  have k : forL always (gN 5) (b_lowest_places_f1 (callN F (n + 1))) (rangeD 0 rs.length) [some R, some (plcD (losL rs)), none, none, none, none, none, none] st = _ := k
  have el : D.tup (rs.map fun r => D.int r.lo) = plcD (losL rs) := by simp [losL, Function.comp_def]
  obtain ⟨g2, k2⟩ := raise_spec h1 n (rs := .tup (rs.map ringD)) (cs := cs) (bs := bs) (x := lowX rs bs) (by rw [hx]; exact hb) (st ++ g)
  rw [hR] at k2
  have zp : ∀ s, zipSrc s (plcD (lowX rs bs)) (.tup (rs.map ringD)) = some (always, ((lowX rs bs).zip rs).map fun q => .tup [.int q.1, ringD q.2]) := fun s => by rw [e_zipT, pairs_zip]
  have l2 : ∀ s w, lcL always (gT 2 (gsCons (gN 6) (gsCons (gN 7) gsNil))) bYes (eOp oGt (eVar 6) (eOp oIx (eVar 7) (eC (.int 1)))) [some R, some (plcD (lowX rs bs)), none, none, none, w, none, none] (((lowX rs bs).zip rs).map fun q => .tup [.int q.1, ringD q.2]) s = some ((((lowX rs bs).zip rs).map fun q => decide (q.2.hi < q.1)).map D.bl, s) := fun s w => by
    rw [List.map_map]
    refine lc_map (fun q : Int × Ring => D.tup [.int q.1, ringD q.2]) (fun q => D.bl (decide (q.2.hi < q.1))) _ fun q hq => ⟨_, rfl, rfl, ?_⟩
    simp only [ringD]
    walk_at "ev"
  simp only [e0, b_lowest_places]
  repeat (first | walk_at "ev" | simp only [u, l1, el, rg, Int.toNat_natCast, k, k2, ne_plc])
  by_cases hf : liftL bs (lowX rs bs) = lowX rs bs
  · rw [decide_eq_true hf]
    cases ho : overB rs (lowX rs bs) with
    | true =>
      have ho2 := ho
      unfold overB at ho2
      repeat (first | walk_at "ev" | simp only [u, pairs_zip, l2, ho2, Bool.not_true, e_kfnR])
      refine ⟨g ++ g2, ?_⟩
      rw [← List.append_assoc]
      unfold lowL
      rw [ho, Bool.or_true]
      rfl
    | false =>
      have ho2 := ho
      unfold overB at ho2
      repeat (first | walk_at "ev" | simp only [u, pairs_zip, l2, ho2, Bool.not_true, e_kfnR])
      refine ⟨g ++ g2, ?_⟩
      rw [← List.append_assoc]
      unfold lowL
      rw [ho, decide_eq_true hf]
      rfl
  · rw [decide_eq_false hf]
    repeat (first | walk_at "ev" | simp only [Bool.not_false, e_kfnR])
    refine ⟨g ++ g2, ?_⟩
    rw [← List.append_assoc]
    unfold lowL
    rw [decide_eq_false hf]
    rfl
end
end Tg
/-! Placements, bounds, mirrored rigs. -/

namespace Tg
open PySem PySem.Spec PyProof.Rows L2

/-! ### plain -/
def hisL (rs : List Ring) : List Int := rs.map Ring.hi
structure Plc (rs : List Ring) (bs : List Bar) (p : List Int) : Prop where
  len : p.length = rs.length
  lo : ∀ i, i < rs.length → pa (losL rs) i ≤ pa p i
  hi : ∀ i, i < rs.length → pa p i ≤ pa (hisL rs) i
  bar : Holds bs p
theorem los_len {rs : List Ring} : (losL rs).length = rs.length := List.length_map ..
theorem his_len {rs : List Ring} : (hisL rs).length = rs.length := List.length_map ..
theorem pa_get {x : List Int} {i : Nat} (h : i < x.length) : pa x i = x[i] := by
  unfold pa
  rw [List.getD_eq_getElem?_getD, List.getElem?_eq_getElem h]
  rfl
theorem pa_map {α : Type} {f : α → Int} {xs : List α} {i : Nat} (h : i < xs.length) : pa (xs.map f) i = f xs[i] := by
  rw [pa_get (by simpa using h)]
  simp
theorem Plc.feas {rs : List Ring} {bs : List Bar} {p : List Int} (h : Plc rs bs p) : Feas (losL rs) bs p := ⟨by rw [h.len, los_len], fun i hi => h.lo i (by rwa [los_len] at hi), h.bar⟩
theorem over_iff {rs : List Ring} {x : List Int} (hl : x.length = rs.length) : overB rs x = false ↔ ∀ i, i < rs.length → pa x i ≤ pa (hisL rs) i := by
  unfold overB
  rw [Bool.eq_false_iff]
  constructor
  · intro h i hi
    apply Classical.byContradiction
    intro hn
    apply h
    rw [List.any_eq_true]
    refine ⟨true, List.mem_map.mpr ⟨(x[i], rs[i]), ?_, ?_⟩, rfl⟩
    · have hz : i < (x.zip rs).length := by rw [List.length_zip]; omega
      have := List.getElem_mem hz
      rwa [List.getElem_zip] at this
    · rw [pa_get (by omega), hisL, pa_map hi] at hn
      exact decide_eq_true (by simp only []; omega)
  · intro h hn
    rw [List.any_eq_true] at hn
    obtain ⟨b, hb, hb2⟩ := hn
    obtain ⟨q, hq, rfl⟩ := List.mem_map.mp hb
    obtain ⟨i, hi, e⟩ := List.mem_iff_getElem.mp hq
    rw [List.length_zip] at hi
    rw [List.getElem_zip] at e
    have := h i (by omega)
    rw [pa_get (by omega), hisL, pa_map (by omega)] at this
    rw [← e] at hb2
    have := of_decide_eq_true hb2
    simp only [] at this
    omega
theorem low_ok {rs : List Ring} {bs : List Bar} (hb : ∀ c ∈ bs, BIx rs.length c) {p : List Int} (hp : Plc rs bs p) : lowL rs bs = some (lowX rs bs) ∧ Plc rs bs (lowX rs bs) ∧ ∀ i, pa (lowX rs bs) i ≤ pa p i := by
  have hi : ∀ c ∈ bs, BIn (losL rs).length c := fun c hc => by rw [los_len]; exact (hb c hc).in
  have hf := least hi hp.feas
  have hle := fun i => least_le hp.feas rs.length i
  rw [los_len] at hf
  have hP : Plc rs bs (lowX rs bs) := ⟨lowX_len, fun i h => hf.ge i (by rw [los_len]; exact h), fun i h => Int.le_trans (hle i) (hp.hi i h), hf.bar⟩
  refine ⟨?_, hP, hle⟩
  unfold lowL
  have hx : liftL bs (lowX rs bs) = lowX rs bs := (lift_fix (fun c hc => by rw [lowX_len]; exact (hb c hc).in)).mpr hf.bar
  rw [decide_eq_true hx, (over_iff lowX_len).mpr hP.hi]
  rfl
theorem low_some {rs : List Ring} {bs : List Bar} (hb : ∀ c ∈ bs, BIx rs.length c) {x : List Int} (h : lowL rs bs = some x) : x = lowX rs bs ∧ Plc rs bs x := by
  unfold lowL at h
  split at h
  · cases h
  · next hc =>
    cases h
    refine ⟨rfl, lowX_len, fun i hi => ?_, ?_, ?_⟩
    · unfold lowX
      have := liftN_ge (bs := bs) (n := rs.length) (x := losL rs) i
      exact this
    · apply (over_iff lowX_len).mp
      cases ho : overB rs (lowX rs bs) with
      | true => rw [ho, Bool.or_true] at hc; exact absurd rfl hc
      | false => rfl
    · apply (lift_fix (fun c hc => by rw [lowX_len]; exact (hb c hc).in)).mp
      cases hd : decide (liftL bs (lowX rs bs) = lowX rs bs) with
      | false => rw [hd] at hc; exact absurd rfl hc
      | true => exact of_decide_eq_true hd
theorem low_none {rs : List Ring} {bs : List Bar} (hb : ∀ c ∈ bs, BIx rs.length c) : lowL rs bs = none ↔ ¬ ∃ p, Plc rs bs p := by
  constructor
  · rintro h ⟨p, hp⟩
    rw [(low_ok hb hp).1] at h
    cases h
  · intro h
    cases e : lowL rs bs with
    | none => rfl
    | some x => exact absurd ⟨x, (low_some hb e).2⟩ h
/-! mirrored -/
def revR (r : Ring) : Ring := ⟨0 - r.hi, 0 - r.lo, 0 - r.ld⟩
def revC (c : Cord) : Cord := ⟨c.b, c.a, c.len, c.w⟩
def revB (c : Bar) : Bar := ⟨c.b, c.a, c.len⟩
def negL (x : List Int) : List Int := x.map fun z => 0 - z
theorem neg_len {x : List Int} : (negL x).length = x.length := List.length_map ..
theorem pa_neg {x : List Int} {i : Nat} : pa (negL x) i = 0 - pa x i := by
  by_cases h : i < x.length
  · unfold negL
    rw [pa_map h, pa_get h]
  · unfold pa
    rw [List.getD_eq_getElem?_getD, List.getD_eq_getElem?_getD, List.getElem?_eq_none (by rw [neg_len]; omega), List.getElem?_eq_none (by omega)]
    rfl
theorem neg_neg (x : List Int) : negL (negL x) = x := by
  apply pa_ext (by rw [neg_len, neg_len])
  intro i _
  rw [pa_neg, pa_neg]
  omega
theorem revB_ix {n : Nat} {c : Bar} (h : BIx n c) : BIx n (revB c) := ⟨h.2.2.1, h.2.2.2, h.1, h.2.1⟩
theorem Plc.rev {rs : List Ring} {bs : List Bar} {p : List Int} (h : Plc rs bs p) : Plc (rs.map revR) (bs.map revB) (negL p) := by
  refine ⟨by rw [neg_len, h.len, List.length_map], fun i hi => ?_, fun i hi => ?_, fun c hc => ?_⟩
  · rw [List.length_map] at hi
    have := h.hi i hi
    unfold losL
    rw [List.map_map, pa_map hi, pa_neg]
    unfold hisL at this
    rw [pa_map hi] at this
    show 0 - rs[i].hi ≤ _
    omega
  · rw [List.length_map] at hi
    have := h.lo i hi
    unfold hisL
    rw [List.map_map, pa_map hi, pa_neg]
    unfold losL at this
    rw [pa_map hi] at this
    show _ ≤ 0 - rs[i].lo
    omega
  · obtain ⟨d, hd, rfl⟩ := List.mem_map.mp hc
    have := h.bar d hd
    rw [pa_neg, pa_neg]
    show 0 - pa p d.a.toNat - (0 - pa p d.b.toNat) ≤ d.len
    omega
theorem revR_revR (rs : List Ring) : (rs.map revR).map revR = rs := by
  rw [List.map_map]
  conv => rhs; rw [← List.map_id rs]
  apply List.map_congr_left
  intro r _
  show Ring.mk (0 - (0 - r.lo)) (0 - (0 - r.hi)) (0 - (0 - r.ld)) = r
  cases r
  simp
theorem revB_revB (bs : List Bar) : (bs.map revB).map revB = bs := by
  rw [List.map_map]
  conv => rhs; rw [← List.map_id bs]
  apply List.map_congr_left
  intro r _
  rfl
theorem Plc.unrev {rs : List Ring} {bs : List Bar} {p : List Int} (h : Plc (rs.map revR) (bs.map revB) p) : Plc rs bs (negL p) := by
  have := h.rev
  rwa [revR_revR, revB_revB] at this
def hiX (rs : List Ring) (bs : List Bar) : List Int := negL (lowX (rs.map revR) (bs.map revB))
theorem hiX_len {rs : List Ring} {bs : List Bar} : (hiX rs bs).length = rs.length := by
  unfold hiX
  rw [neg_len, lowX_len, List.length_map]
theorem revs_ix {n : Nat} {bs : List Bar} (hb : ∀ c ∈ bs, BIx n c) : ∀ c ∈ bs.map revB, BIx n c := fun c hc => by
  obtain ⟨d, hd, rfl⟩ := List.mem_map.mp hc
  exact revB_ix (hb d hd)
theorem hi_ok {rs : List Ring} {bs : List Bar} (hb : ∀ c ∈ bs, BIx rs.length c) {p : List Int} (hp : Plc rs bs p) : lowL (rs.map revR) (bs.map revB) = some (lowX (rs.map revR) (bs.map revB)) ∧ Plc rs bs (hiX rs bs) ∧ ∀ i, pa p i ≤ pa (hiX rs bs) i := by
  obtain ⟨h1, h2, h3⟩ := low_ok (rs := rs.map revR) (bs := bs.map revB) (by rw [List.length_map]; exact revs_ix hb) hp.rev
  refine ⟨h1, h2.unrev, fun i => ?_⟩
  have := h3 i
  unfold hiX
  rw [pa_neg] at this ⊢
  omega

/-! ### is_placement -/
def inB (q : Int × Ring) : Bool := decide (q.2.lo ≤ q.1) && decide (q.1 ≤ q.2.hi)
def plcB (rs : List Ring) (bs : List Bar) (y : List Int) : Bool := decide (y.length = rs.length) && (((y.zip rs).map inB).all id && (bs.map fun c => decide (gap y c.a c.b ≤ c.len)).all id)
theorem plcB_iff {rs : List Ring} {bs : List Bar} {y : List Int} : plcB rs bs y = true ↔ Plc rs bs y := by
  unfold plcB
  rw [Bool.and_eq_true, Bool.and_eq_true, decide_eq_true_iff, List.all_eq_true, List.all_eq_true]
  constructor
  · rintro ⟨hl, h1, h2⟩
    have h3 : ∀ i (hi : i < rs.length), rs[i].lo ≤ pa y i ∧ pa y i ≤ rs[i].hi := fun i hi => by
      have hz : i < (y.zip rs).length := by rw [List.length_zip]; omega
      have hm := List.getElem_mem hz
      rw [List.getElem_zip] at hm
      have := h1 _ (List.mem_map.mpr ⟨_, hm, rfl⟩)
      unfold inB at this
      simp only [id, Bool.and_eq_true, decide_eq_true_eq] at this
      rw [pa_get (by omega)]
      exact this
    refine ⟨hl, fun i hi => ?_, fun i hi => ?_, fun c hc => ?_⟩
    · unfold losL
      rw [pa_map hi]
      exact (h3 i hi).1
    · unfold hisL
      rw [pa_map hi]
      exact (h3 i hi).2
    · have := h2 _ (List.mem_map.mpr ⟨c, hc, rfl⟩)
      exact of_decide_eq_true this
  · rintro h
    refine ⟨h.len, fun b hb => ?_, fun b hb => ?_⟩
    · obtain ⟨q, hq, rfl⟩ := List.mem_map.mp hb
      obtain ⟨i, hi, e⟩ := List.mem_iff_getElem.mp hq
      have hl := h.len
      rw [List.length_zip] at hi
      rw [List.getElem_zip] at e
      have h1 := h.lo i (by omega)
      have h2 := h.hi i (by omega)
      unfold losL at h1
      unfold hisL at h2
      rw [pa_map (by omega), pa_get (by omega)] at h1
      rw [pa_map (by omega), pa_get (by omega)] at h2
      rw [← e]
      unfold inB
      simp only [id, Bool.and_eq_true, decide_eq_true_eq]
      exact ⟨h1, h2⟩
    · obtain ⟨c, hc, rfl⟩ := List.mem_map.mp hb
      exact decide_eq_true (h.bar c hc)
section
variable {F : String → Option Fn}
theorem chain_le {env : En} {st : Sto} {a b c : Int} {fa fb fc : DE} (ha : fa env st = some (.int a, st)) (hb : fb env st = some (.int b, st)) (hc : fc env st = some (.int c, st)) : eChain oLe oLe fa fb fc env st = some (.bl (decide (a ≤ b) && decide (b ≤ c)), st) := by
  by_cases h : a ≤ b
  · repeat (first | walk_at "ev" | simp only [ha, hb, hc, decide_eq_true h, Bool.true_and])
  · repeat (first | walk_at "ev" | simp only [ha, hb, hc, decide_eq_false h, Bool.false_and])
theorem integer_spec (h1 : F "is_integer" = some ⟨3, 3, b_is_integer⟩ := by first | assumption | rfl) (n : Nat) (v lo hi : Int) (st : Sto) : callN F (n + 1) "is_integer" [.int v, .int lo, .int hi] st = some (.bl (decide (lo ≤ v) && decide (v ≤ hi)), st) := by
  rw [call_eq h1 rfl]
  have e0 : startE 3 [.int v, .int lo, .int hi] = [some (.int v), some (.int lo), some (.int hi)] := rfl
  simp only [e0, b_is_integer]
  repeat (first | walk_at "ev" | simp only [isTy, tk, isTk, decide_true, decide_false, Bool.not_true, Bool.not_false, e_kfnR])
  generalize decide (lo ≤ _) = p
  cases p <;> repeat (first | walk_at "ev" | simp only [e_kfnR, Bool.true_and, Bool.false_and])
theorem linteger_spec (h1 : F "_law_integer" = some ⟨3, 3, b_l_integer⟩ := by first | assumption | rfl) (n : Nat) (v lo hi : Int) (st : Sto) : callN F (n + 1) "_law_integer" [.int v, .int lo, .int hi] st = some (.bl (decide (lo ≤ v) && decide (v ≤ hi)), st) := by
  rw [call_eq h1 rfl]
  have e0 : startE 3 [.int v, .int lo, .int hi] = [some (.int v), some (.int lo), some (.int hi)] := rfl
  simp only [e0, b_l_integer]
  repeat (first | walk_at "ev" | simp only [isTy, tk, isTk, decide_true, decide_false, Bool.not_true, Bool.not_false, e_kfnR])
  generalize decide (lo ≤ _) = p
  cases p <;> repeat (first | walk_at "ev" | simp only [e_kfnR, Bool.true_and, Bool.false_and])
theorem is_tuple_spec (h1 : F "is_tuple" = some ⟨3, 3, b_is_tuple⟩ := by first | assumption | rfl) (n : Nat) (xs : List D) (lo hi : Int) (st : Sto) : callN F (n + 1) "is_tuple" [.tup xs, .int lo, .int hi] st = some (.bl (decide (lo ≤ (xs.length : Int)) && decide ((xs.length : Int) ≤ hi)), st) := by
  rw [call_eq h1 rfl]
  have e0 : startE 3 [.tup xs, .int lo, .int hi] = [some (.tup xs), some (.int lo), some (.int hi)] := rfl
  simp only [e0, b_is_tuple]
  repeat (first | walk_at "ev" | simp only [isTy, tk, isTk, decide_true, decide_false, Bool.not_true, Bool.not_false, e_kfnR])
  generalize decide (lo ≤ _) = p
  cases p <;> repeat (first | walk_at "ev" | simp only [e_kfnR, Bool.true_and, Bool.false_and])
theorem sized_spec (h1 : F "_law_sized" = some ⟨3, 3, b_l_sized⟩ := by first | assumption | rfl) (n : Nat) (xs : List D) (lo hi : Int) (st : Sto) : callN F (n + 1) "_law_sized" [.tup xs, .int lo, .int hi] st = some (.bl (decide (lo ≤ (xs.length : Int)) && decide ((xs.length : Int) ≤ hi)), st) := by
  rw [call_eq h1 rfl]
  have e0 : startE 3 [.tup xs, .int lo, .int hi] = [some (.tup xs), some (.int lo), some (.int hi)] := rfl
  simp only [e0, b_l_sized]
  repeat (first | walk_at "ev" | simp only [isTy, tk, isTk, decide_true, decide_false, Bool.not_true, Bool.not_false, e_kfnR])
  generalize decide (lo ≤ _) = p
  cases p <;> repeat (first | walk_at "ev" | simp only [e_kfnR, Bool.true_and, Bool.false_and])
theorem size_eq {a b : Nat} : (decide ((b : Int) ≤ (a : Int)) && decide ((a : Int) ≤ (b : Int))) = decide (a = b) := by
  by_cases h : a = b
  · subst h; simp
  · rw [decide_eq_false h]
    by_cases h2 : (b : Int) ≤ a
    · rw [decide_eq_false (show ¬ ((a : Int) ≤ b) by omega), Bool.and_false]
    · rw [decide_eq_false h2, Bool.false_and]
theorem stretch_bar_spec (h1 : F "stretch_of" = some ⟨2, 2, b_stretch_of⟩ := by first | assumption | rfl) (n : Nat) {y : List Int} {c : Bar} (h : BIx y.length c) (st : Sto) : callN F (n + 1) "stretch_of" [barD c, plcD y] st = some (.int (gap y c.a c.b), st) := by
  obtain ⟨a0, a1, b0, b1⟩ := h
  rw [call_eq h1 rfl]
  have e0 : startE 2 [barD c, plcD y] = [some (barD c), some (plcD y)] := rfl
  have ea := pat_at (ps := y) a0 a1
  have eb := pat_at (ps := y) b0 b1
  simp only [e0]
  simp only [b_stretch_of, barD]
  repeat (first | walk_at "ev" | simp only [ea, eb, e_kfnR])
  rfl
def CIx (n : Nat) (c : Cord) : Prop := 0 ≤ c.a ∧ c.a < n ∧ 0 ≤ c.b ∧ c.b < n
theorem stretch_cord_spec (h1 : F "stretch_of" = some ⟨2, 2, b_stretch_of⟩ := by first | assumption | rfl) (n : Nat) {y : List Int} {c : Cord} (h : CIx y.length c) (st : Sto) : callN F (n + 1) "stretch_of" [cordD c, plcD y] st = some (.int (gap y c.a c.b), st) := by
  obtain ⟨a0, a1, b0, b1⟩ := h
  rw [call_eq h1 rfl]
  have e0 : startE 2 [cordD c, plcD y] = [some (cordD c), some (plcD y)] := rfl
  have ea := pat_at (ps := y) a0 a1
  have eb := pat_at (ps := y) b0 b1
  simp only [e0]
  simp only [b_stretch_of, cordD]
  repeat (first | walk_at "ev" | simp only [ea, eb, e_kfnR])
  rfl
theorem lstretches_bars (h1 : F "_law_stretches" = some ⟨2, 3, b_l_stretches⟩ := by first | assumption | rfl) (n : Nat) {y : List Int} {bs : List Bar} (h : ∀ c ∈ bs, BIx y.length c) (st : Sto) : callN F (n + 1) "_law_stretches" [.tup (bs.map barD), plcD y] st = some (plcD (bs.map fun c => gap y c.a c.b), st) := by
  rw [call_eq h1 rfl]
  have e0 : startE 3 [.tup (bs.map barD), plcD y] = [some (.tup (bs.map barD)), some (plcD y), none] := rfl
  simp only [e0, b_l_stretches]
  walk_at "ev"
  rw [lc_map barD (fun c => .int (gap y c.a c.b)) bs ?h]
  case h =>
    intro c hc
    obtain ⟨a0, a1, b0, b1⟩ := h c hc
    have ea := pat_at (ps := y) a0 a1
    have eb := pat_at (ps := y) b0 b1
    refine ⟨_, rfl, rfl, ?_⟩
    simp only [barD]
    repeat (first | walk_at "ev" | simp only [ea, eb])
    rfl
  repeat (first | walk_at "ev" | simp only [e_kfnR])
  simp only [plcD, List.map_map, Function.comp_def]
theorem lstretches_cords (h1 : F "_law_stretches" = some ⟨2, 3, b_l_stretches⟩ := by first | assumption | rfl) (n : Nat) {y : List Int} {bs : List Cord} (h : ∀ c ∈ bs, CIx y.length c) (st : Sto) : callN F (n + 1) "_law_stretches" [.tup (bs.map cordD), plcD y] st = some (plcD (bs.map fun c => gap y c.a c.b), st) := by
  rw [call_eq h1 rfl]
  have e0 : startE 3 [.tup (bs.map cordD), plcD y] = [some (.tup (bs.map cordD)), some (plcD y), none] := rfl
  simp only [e0, b_l_stretches]
  walk_at "ev"
  rw [lc_map cordD (fun c => .int (gap y c.a c.b)) bs ?h]
  case h =>
    intro c hc
    obtain ⟨a0, a1, b0, b1⟩ := h c hc
    have ea := pat_at (ps := y) a0 a1
    have eb := pat_at (ps := y) b0 b1
    refine ⟨_, rfl, rfl, ?_⟩
    simp only [cordD]
    repeat (first | walk_at "ev" | simp only [ea, eb])
    rfl
  repeat (first | walk_at "ev" | simp only [e_kfnR])
  simp only [plcD, List.map_map, Function.comp_def]
theorem is_placement_spec (h1 : F "is_integer" = some ⟨3, 3, b_is_integer⟩ := by first | assumption | rfl) (h2 : F "is_tuple" = some ⟨3, 3, b_is_tuple⟩ := by first | assumption | rfl) (h3 : F "stretch_of" = some ⟨2, 2, b_stretch_of⟩ := by first | assumption | rfl)
    (h4 : F "is_placement" = some ⟨2, 8, b_is_placement⟩ := by first | assumption | rfl) (n : Nat) {rs : List Ring} {cs : D} {bs : List Bar} {y : List Int} (hb : ∀ c ∈ bs, BIx rs.length c) (st : Sto) :
    callN F (n + 2) "is_placement" [.tup [.tup (rs.map ringD), cs, .tup (bs.map barD)], plcD y] st = some (.bl (plcB rs bs y), st) := by
  rw [call_eq h4 rfl]
  have e0 : startE 8 [.tup [.tup (rs.map ringD), cs, .tup (bs.map barD)], plcD y] = [some (.tup [.tup (rs.map ringD), cs, .tup (bs.map barD)]), some (plcD y), none, none, none, none, none, none] := rfl
  have t1 := is_tuple_spec h2 n (y.map D.int) (rs.length : Int) (rs.length : Int) st
  rw [List.length_map, size_eq] at t1
  simp only [e0, b_is_placement]
  repeat (first | walk_at "ev" | simp only [e_gtT, if_true, reduceIte, Nat.reduceAdd, t1])
  unfold plcB
  by_cases hl : y.length = rs.length
  · rw [decide_eq_true hl]
    repeat (first | walk_at "ev" | simp only [Bool.not_true, pairs_zip])
    rw [lc_map (fun q : Int × Ring => D.tup [.int q.1, ringD q.2]) (fun q => D.bl (inB q)) (y.zip rs) ?h]
    case h =>
      intro q hq
      refine ⟨_, rfl, rfl, ?_⟩
      have k := integer_spec h1 n q.1 q.2.lo q.2.hi st
      simp only [ringD]
      repeat (first | walk_at "ev" | simp only [k])
      rfl
    rw [show ((y.zip rs).map fun q => D.bl (inB q)) = ((y.zip rs).map inB).map D.bl by rw [List.map_map]; rfl]
    walk_at "ev"
    cases hi : ((y.zip rs).map inB).all id with
    | false => repeat (first | walk_at "ev" | simp only [Bool.not_false, e_kfnR, Bool.false_and, Bool.and_false])
    | true =>
      repeat (first | walk_at "ev" | simp only [Bool.not_true])
      rw [lc_map barD (fun c => D.bl (decide (gap y c.a c.b ≤ c.len))) bs ?h2]
      case h2 =>
        intro c hc
        refine ⟨_, rfl, rfl, ?_⟩
        have k := stretch_bar_spec h3 n (y := y) (c := c) (by rw [hl]; exact hb c hc) st
        have u : ∀ i, oIx st (barD c) (.int i) = atI [.int c.a, .int c.b, .int c.len] i := fun i => rfl
        repeat (first | walk_at "ev" | simp only [k, u])
      rw [show (bs.map fun c => D.bl (decide (gap y c.a c.b ≤ c.len))) = (bs.map fun c => decide (gap y c.a c.b ≤ c.len)).map D.bl by rw [List.map_map]; rfl]
      repeat (first | walk_at "ev" | simp only [e_kfnR, Bool.true_and])
  · rw [decide_eq_false hl]
    repeat (first | walk_at "ev" | simp only [Bool.not_false, e_kfnR, Bool.false_and])
theorem lis_placement_spec (h1 : F "_law_integer" = some ⟨3, 3, b_l_integer⟩ := by first | assumption | rfl) (h2 : F "_law_sized" = some ⟨3, 3, b_l_sized⟩ := by first | assumption | rfl) (h3 : F "_law_stretches" = some ⟨2, 3, b_l_stretches⟩ := by first | assumption | rfl)
    (h4 : F "_law_is_placement" = some ⟨2, 6, b_l_is_placement⟩ := by first | assumption | rfl) (n : Nat) {rs : List Ring} {cs : D} {bs : List Bar} {y : List Int} (hb : ∀ c ∈ bs, BIx rs.length c) (st : Sto) :
    callN F (n + 2) "_law_is_placement" [.tup [.tup (rs.map ringD), cs, .tup (bs.map barD)], plcD y] st = some (.bl (plcB rs bs y), st) := by
  rw [call_eq h4 rfl]
  generalize hR : D.tup [.tup (rs.map ringD), cs, .tup (bs.map barD)] = R
  have u : ∀ (s : Sto) i, oIx s R (.int i) = atI [.tup (rs.map ringD), cs, .tup (bs.map barD)] i := fun s i => by rw [← hR]; rfl
  have e0 : startE 6 [R, plcD y] = [some R, some (plcD y), none, none, none, none] := rfl
  have t1 := sized_spec h2 n (y.map D.int) (rs.length : Int) (rs.length : Int) st
  rw [List.length_map, size_eq] at t1
  simp only [e0, b_l_is_placement]
  repeat (first | walk_at "ev" | simp only [e_gtT, if_true, reduceIte, Nat.reduceAdd, t1, u])
  unfold plcB
  by_cases hl : y.length = rs.length
  · rw [decide_eq_true hl]
    repeat (first | walk_at "ev" | simp only [Bool.not_true, pairs_zip, u])
    have lp : ∀ (qs : List (Int × Ring)) (v2 v3 : Option D), (∃ w2 w3, forL always (gT 2 (gsCons (gN 2) (gsCons (gN 3) gsNil))) (b_l_is_placement_f1 (callN F (n + 1))) (qs.map fun q => .tup [.int q.1, ringD q.2]) [some R, some (plcD y), v2, v3, none, none] st = some (.nx [some R, some (plcD y), w2, w3, none, none], st) ∧ (qs.map inB).all id = true) ∨
        (forL always (gT 2 (gsCons (gN 2) (gsCons (gN 3) gsNil))) (b_l_is_placement_f1 (callN F (n + 1))) (qs.map fun q => .tup [.int q.1, ringD q.2]) [some R, some (plcD y), v2, v3, none, none] st = some (.rt (.bl false), st) ∧ (qs.map inB).all id = false) := by
      intro qs
      induction qs with
      | nil => intro v2 v3; exact .inl ⟨v2, v3, rfl, rfl⟩
      | cons q qs ih =>
        intro v2 v3
        have k := linteger_spec h1 n q.1 q.2.lo q.2.hi st
        have ui : ∀ i, oIx st (ringD q.2) (.int i) = atI [.int q.2.lo, .int q.2.hi, .int q.2.ld] i := fun i => rfl
        have go : forL always (gT 2 (gsCons (gN 2) (gsCons (gN 3) gsNil))) (b_l_is_placement_f1 (callN F (n + 1))) ((q :: qs).map fun q => .tup [.int q.1, ringD q.2]) [some R, some (plcD y), v2, v3, none, none] st =
            if inB q then forL always (gT 2 (gsCons (gN 2) (gsCons (gN 3) gsNil))) (b_l_is_placement_f1 (callN F (n + 1))) (qs.map fun q => .tup [.int q.1, ringD q.2]) [some R, some (plcD y), some (.int q.1), some (ringD q.2), none, none] st else some (.rt (.bl false), st) := by
          rw [List.map_cons]
          conv => lhs; unfold forL
          simp only [show always st = true from rfl, if_true]
          generalize hT : forL always (gT 2 (gsCons (gN 2) (gsCons (gN 3) gsNil))) (b_l_is_placement_f1 (callN F (n + 1))) (qs.map fun q => D.tup [.int q.1, ringD q.2]) = T
          clear hT
          simp only [b_l_is_placement_f1]
          repeat (first | walk_at "ev" | simp only [e_gtT, if_true, reduceIte, Nat.reduceAdd, k, ui])
          unfold inB
          cases hq : (decide (q.2.lo ≤ q.1) && decide (q.1 ≤ q.2.hi)) with
          | true => repeat (first | walk_at "ev" | simp only [Bool.not_true, if_true])
          | false => repeat (first | walk_at "ev" | simp only [Bool.not_false, if_false, Bool.false_eq_true])
        rw [go, List.map_cons, List.all_cons]
        cases hq : inB q with
        | true =>
          simp only [if_true, id, Bool.true_and]
          exact ih _ _
        | false => exact .inr ⟨by simp, by simp⟩
    rcases lp (y.zip rs) none none with ⟨w2, w3, k, hk⟩ | ⟨k, hk⟩
    · rw [k, hk]
      have st1 := lstretches_bars h3 n (y := y) (bs := bs) (by rw [hl]; exact hb) st
      have zp : pairsD ((bs.map fun c => gap y c.a c.b).map D.int) (bs.map barD) = bs.map fun c => .tup [.int (gap y c.a c.b), barD c] := by
        rw [List.map_map]
        exact pairs_map _ _ bs
      repeat (first | walk_at "ev" | simp only [st1, u, zp])
      rw [lc_filter (fun c => D.tup [.int (gap y c.a c.b), barD c]) (fun _ => .int 1) (fun c => decide (c.len < gap y c.a c.b)) bs ?h]
      case h =>
        intro c hc
        refine ⟨_, rfl, ?_, fun _ => rfl⟩
        have u3 : ∀ i, oIx st (barD c) (.int i) = atI [.int c.a, .int c.b, .int c.len] i := fun i => rfl
        repeat (first | walk_at "ev" | simp only [u3])
      have eqe : ∀ xs : List Int, oEq st (.lst (xs.map D.int)) (.lst []) = some (.bl (decide (xs = []))) := by
        intro xs
        show (if okD (.lst (xs.map D.int)) && okD (.lst []) then some (D.bl (eqD (.lst (xs.map D.int)) (.lst []))) else none) = _
        have o1 : okD (.lst (xs.map D.int)) = true := by
          unfold okD
          simp only [lay, lay_ints, dep, dep_ints, Bool.true_and]
          decide
        rw [o1, show okD (.lst []) = true from rfl]
        unfold eqD
        simp only [pyD, PyData.eqv]
        have := eqD_ints xs []
        simp only [List.map_nil] at this
        rw [this]
        rfl
      have eqe := eqe (((bs.filter fun c => decide (c.len < gap y c.a c.b)).map fun _ => 1))
      rw [List.map_map] at eqe
      simp only [Function.comp_def] at eqe
      repeat (first | walk_at "ev" | simp only [eqe, e_kfnR, Bool.true_and])
      rw [show decide ((bs.filter fun c => decide (c.len < gap y c.a c.b)).map (fun _ => (1 : Int)) = []) = (bs.map fun c => decide (gap y c.a c.b ≤ c.len)).all id from ?_]
      rw [List.all_map, Bool.eq_iff_iff, decide_eq_true_iff, List.map_eq_nil_iff, List.filter_eq_nil_iff, List.all_eq_true]
      simp only [decide_eq_true_eq, Function.comp_def, id]
      exact ⟨fun h c hc => by have := h c hc; omega, fun h c hc => by have := h c hc; omega⟩
    · rw [k, hk]
      repeat (first | walk_at "ev" | simp only [e_kfnR, Bool.true_and, Bool.false_and])
  · rw [decide_eq_false hl]
    repeat (first | walk_at "ev" | simp only [Bool.not_false, e_kfnR, Bool.false_and])
theorem reversed_spec (h1 : F "reversed_rig" = some ⟨1, 13, b_reversed_rig⟩ := by first | assumption | rfl) (n : Nat) (rs : List Ring) (cs : List Cord) (bs : List Bar) (st : Sto) :
    callN F (n + 1) "reversed_rig" [rigD rs cs bs] st = some (rigD (rs.map revR) (cs.map revC) (bs.map revB), st) := by
  rw [call_eq h1 rfl]
  have e0 : startE 13 [rigD rs cs bs] = [some (rigD rs cs bs), none, none, none, none, none, none, none, none, none, none, none, none] := rfl
  simp only [e0, b_reversed_rig]
  repeat (first | walk_at "ev" | simp only [e_gtT, if_true, reduceIte, Nat.reduceAdd])
  rw [lc_map ringD (fun r => ringD (revR r)) rs ?h]
  case h =>
    intro r hr
    exact ⟨_, rfl, rfl, by walk_at "ev"; rfl⟩
  walk_at "ev"
  rw [lc_map cordD (fun r => cordD (revC r)) cs ?h2]
  case h2 =>
    intro r hr
    exact ⟨_, rfl, rfl, by walk_at "ev"; rfl⟩
  walk_at "ev"
  rw [lc_map barD (fun r => barD (revB r)) bs ?h3]
  case h3 =>
    intro r hr
    exact ⟨_, rfl, rfl, by walk_at "ev"; rfl⟩
  repeat (first | walk_at "ev" | simp only [e_kfnR])
  simp only [rigD, List.map_map, Function.comp_def]
theorem bounds_spec (h1 : F "raise_places" = some ⟨2, 6, b_raise_places⟩ := by first | assumption | rfl) (h2 : F "lowest_places" = some ⟨1, 8, b_lowest_places⟩ := by first | assumption | rfl) (h3 : F "reversed_rig" = some ⟨1, 13, b_reversed_rig⟩ := by first | assumption | rfl)
    (h4 : F "placement_bounds" = some ⟨1, 2, b_placement_bounds⟩ := by first | assumption | rfl) (n : Nat) {rs : List Ring} {cs : List Cord} {bs : List Bar} (hb : ∀ c ∈ bs, BIx rs.length c) (hl : rs.length ≤ 1000) {p : List Int} (hp : Plc rs bs p) (st : Sto) :
    ∃ g, callN F (n + 3) "placement_bounds" [rigD rs cs bs] st = some (.tup [plcD (lowX rs bs), plcD (hiX rs bs)], st ++ g) := by
  obtain ⟨g1, k1⟩ := lowest_spec h1 h2 n (cs := .tup (cs.map cordD)) hb hl st
  rw [(low_ok hb hp).1] at k1
  have k2 := reversed_spec h3 (n + 1) rs cs bs (st ++ g1)
  obtain ⟨g2, k3⟩ := lowest_spec h1 h2 n (rs := rs.map revR) (cs := .tup ((cs.map revC).map cordD)) (bs := bs.map revB) (by rw [List.length_map]; exact revs_ix hb) (by rw [List.length_map]; exact hl) (st ++ g1)
  rw [(hi_ok hb hp).1] at k3
  simp only [optD] at k1 k3
  rw [call_eq h4 rfl]
  have e0 : startE 2 [rigD rs cs bs] = [some (rigD rs cs bs), none] := rfl
  simp only [e0, b_placement_bounds]
  repeat (first | walk_at "ev" | simp only [k1, k2, k3])
  rw [lc_map D.int (fun z => .int (0 - z)) (lowX (rs.map revR) (bs.map revB)) ?h]
  case h =>
    intro z hz
    exact ⟨_, rfl, rfl, by walk_at "ev"⟩
  repeat (first | walk_at "ev" | simp only [e_kfnR])
  refine ⟨g1 ++ g2, ?_⟩
  rw [← List.append_assoc]
  simp only [plcD, hiX, negL, List.map_map, Function.comp_def]
end
end Tg
/-! Faults: of rigs that are right but for a placement. -/

namespace Tg
open PySem PySem.Spec PyProof.Rows L2
-- lib part_fault c326ac b_part_fault 1 6
noncomputable def b_part_fault_f1 (C : Orc) : DS := (sSeq (sIf (bNot (bVal (eCall C "is_tuple" (aCons (eOp oIx (eVar 0) (eVar 2)) (aCons (eVar 3) (aCons (eVar 4) aNil)))))) (sSeq (sRet (eTup (aCons (eTup (aCons (eVar 2) aNil)) (aCons (eVar 5) aNil))))
    sNil) sNil)
    sNil)
noncomputable def b_part_fault (C : Orc) : DS := (sSeq (sIf (bNot (bVal (eCall C "is_tuple" (aCons (eVar 0) (aCons (eC (.int 3)) (aCons (eC (.int 3)) aNil)))))) (sSeq (sRet (eTup (aCons (eTup aNil) (aCons (eC (.str (Str.ofString "rig"))) aNil))))
    sNil) sNil)
    (sSeq (sAsg (eTup (aCons (eTup (aCons (eC (.int 1)) (aCons (eC (.int 8)) (aCons (eC (.str (Str.ofString "rings"))) aNil)))) (aCons (eTup (aCons (eC (.int 0)) (aCons (eC (.int 12)) (aCons (eC (.str (Str.ofString "cords"))) aNil)))) (aCons (eTup (aCons (eC (.int 0)) (aCons (eC (.int 8)) (aCons (eC (.str (Str.ofString "bars"))) aNil)))) aNil)))) (gN 1))
    (sSeq (sFor (iEn (eVar 1)) (gT 2 (gsCons (gN 2) (gsCons (gT 3 (gsCons (gN 3) (gsCons (gN 4) (gsCons (gN 5) gsNil)))) gsNil))) (b_part_fault_f1 C))
    (sSeq (sRet (eC .non))
    sNil))))
-- lib ring_fault 8de55b b_ring_fault 2 5
noncomputable def b_ring_fault (C : Orc) : DS := (sSeq (sIf (bNot (bVal (eCall C "is_tuple" (aCons (eVar 1) (aCons (eC (.int 3)) (aCons (eC (.int 3)) aNil)))))) (sSeq (sRet (eTup (aCons (eTup (aCons (eC (.int 0)) (aCons (eVar 0) aNil))) (aCons (eC (.str (Str.ofString "ring"))) aNil))))
    sNil) sNil)
    (sSeq (sAsg (eVar 1) (gT 3 (gsCons (gN 2) (gsCons (gN 3) (gsCons (gN 4) gsNil)))))
    (sSeq (sIf (bNot (bVal (eCall C "is_integer" (aCons (eVar 2) (aCons (eOp oSub (eC (.int 0)) (eC (.int 1000000000000))) (aCons (eC (.int 1000000000000)) aNil)))))) (sSeq (sRet (eTup (aCons (eTup (aCons (eC (.int 0)) (aCons (eVar 0) (aCons (eC (.int 0)) aNil)))) (aCons (eC (.str (Str.ofString "low"))) aNil))))
    sNil) sNil)
    (sSeq (sIf (bNot (bVal (eCall C "is_integer" (aCons (eVar 3) (aCons (eVar 2) (aCons (eC (.int 1000000000000)) aNil)))))) (sSeq (sRet (eTup (aCons (eTup (aCons (eC (.int 0)) (aCons (eVar 0) (aCons (eC (.int 1)) aNil)))) (aCons (eC (.str (Str.ofString "high"))) aNil))))
    sNil) sNil)
    (sSeq (sIf (bNot (bVal (eCall C "is_integer" (aCons (eVar 4) (aCons (eOp oSub (eC (.int 0)) (eC (.int 1000000000))) (aCons (eC (.int 1000000000)) aNil)))))) (sSeq (sRet (eTup (aCons (eTup (aCons (eC (.int 0)) (aCons (eVar 0) (aCons (eC (.int 2)) aNil)))) (aCons (eC (.str (Str.ofString "load"))) aNil))))
    sNil) sNil)
    (sSeq (sRet (eC .non))
    sNil))))))
-- lib ends_fault eddf31 b_ends_fault 3 3
noncomputable def b_ends_fault (C : Orc) : DS := (sSeq (sIf (bNot (bVal (eCall C "is_integer" (aCons (eOp oIx (eVar 1) (eC (.int 0))) (aCons (eC (.int 0)) (aCons (eOp oSub (eVar 2) (eC (.int 1))) aNil)))))) (sSeq (sRet (eTup (aCons (eOp oAdd (eVar 0) (eTup (aCons (eC (.int 0)) aNil))) (aCons (eC (.str (Str.ofString "one"))) aNil))))
    sNil) sNil)
    (sSeq (sIf (bOr (bNot (bVal (eCall C "is_integer" (aCons (eOp oIx (eVar 1) (eC (.int 1))) (aCons (eC (.int 0)) (aCons (eOp oSub (eVar 2) (eC (.int 1))) aNil)))))) (bVal (eOp oEq (eOp oIx (eVar 1) (eC (.int 0))) (eOp oIx (eVar 1) (eC (.int 1)))))) (sSeq (sRet (eTup (aCons (eOp oAdd (eVar 0) (eTup (aCons (eC (.int 1)) aNil))) (aCons (eC (.str (Str.ofString "other"))) aNil))))
    sNil) sNil)
    (sSeq (sIf (bNot (bVal (eCall C "is_integer" (aCons (eOp oIx (eVar 1) (eC (.int 2))) (aCons (eOp oSub (eC (.int 0)) (eC (.int 2000000000000))) (aCons (eC (.int 2000000000000)) aNil)))))) (sSeq (sRet (eTup (aCons (eOp oAdd (eVar 0) (eTup (aCons (eC (.int 2)) aNil))) (aCons (eC (.str (Str.ofString "length"))) aNil))))
    sNil) sNil)
    (sSeq (sRet (eC .non))
    sNil))))
-- lib cord_fault e7a288 b_cord_fault 3 4
noncomputable def b_cord_fault (C : Orc) : DS := (sSeq (sIf (bNot (bVal (eCall C "is_tuple" (aCons (eVar 1) (aCons (eC (.int 4)) (aCons (eC (.int 4)) aNil)))))) (sSeq (sRet (eTup (aCons (eTup (aCons (eC (.int 1)) (aCons (eVar 0) aNil))) (aCons (eC (.str (Str.ofString "cord"))) aNil))))
    sNil) sNil)
    (sSeq (sAsg (eCall C "ends_fault" (aCons (eTup (aCons (eC (.int 1)) (aCons (eVar 0) aNil))) (aCons (eVar 1) (aCons (eVar 2) aNil)))) (gN 3))
    (sSeq (sIf (bVal (eOp oIsNot (eVar 3) (eC .non))) (sSeq (sRet (eVar 3))
    sNil) sNil)
    (sSeq (sRet (eIf (bVal (eCall C "is_integer" (aCons (eOp oIx (eVar 1) (eC (.int 3))) (aCons (eC (.int 1)) (aCons (eC (.int 1000000000)) aNil))))) (eC .non) (eTup (aCons (eTup (aCons (eC (.int 1)) (aCons (eVar 0) (aCons (eC (.int 3)) aNil)))) (aCons (eC (.str (Str.ofString "weight"))) aNil)))))
    sNil))))
-- lib bar_fault 9e7d7d b_bar_fault 3 3
noncomputable def b_bar_fault (C : Orc) : DS := (sSeq (sIf (bNot (bVal (eCall C "is_tuple" (aCons (eVar 1) (aCons (eC (.int 3)) (aCons (eC (.int 3)) aNil)))))) (sSeq (sRet (eTup (aCons (eTup (aCons (eC (.int 2)) (aCons (eVar 0) aNil))) (aCons (eC (.str (Str.ofString "bar"))) aNil))))
    sNil) sNil)
    (sSeq (sRet (eCall C "ends_fault" (aCons (eTup (aCons (eC (.int 2)) (aCons (eVar 0) aNil))) (aCons (eVar 1) (aCons (eVar 2) aNil)))))
    sNil))
-- lib first_fault c519ea b_first_fault 1 10
noncomputable def b_first_fault_f1 (C : Orc) : DS := (sSeq (sIf (bVal (eOp oIsNot (eVar 1) (eC .non))) (sSeq (sRet (eVar 1))
    sNil) sNil)
    sNil)
noncomputable def b_first_fault (C : Orc) : DS := (sSeq (sAsg (eCall C "part_fault" (aCons (eVar 0) aNil)) (gN 1))
    (sSeq (sIf (bVal (eOp oIsNot (eVar 1) (eC .non))) (sSeq (sRet (eVar 1))
    sNil) sNil)
    (sSeq (sAsg (eVar 0) (gT 3 (gsCons (gN 2) (gsCons (gN 3) (gsCons (gN 4) gsNil)))))
    (sSeq (sAsg (eLc [6, 7] (iEn (eVar 2)) (gT 2 (gsCons (gN 6) (gsCons (gN 7) gsNil))) bYes (eCall C "ring_fault" (aCons (eVar 6) (aCons (eVar 7) aNil)))) (gN 5))
    (sSeq (sAsg (eOp oAdd (eVar 5) (eLc [6, 8] (iEn (eVar 3)) (gT 2 (gsCons (gN 6) (gsCons (gN 8) gsNil))) bYes (eCall C "cord_fault" (aCons (eVar 6) (aCons (eVar 8) (aCons (eBlt gLen (aCons (eVar 2) aNil)) aNil)))))) (gN 5))
    (sSeq (sAsg (eOp oAdd (eVar 5) (eLc [6, 9] (iEn (eVar 4)) (gT 2 (gsCons (gN 6) (gsCons (gN 9) gsNil))) bYes (eCall C "bar_fault" (aCons (eVar 6) (aCons (eVar 9) (aCons (eBlt gLen (aCons (eVar 2) aNil)) aNil)))))) (gN 5))
    (sSeq (sFor (iSeq (eVar 5)) (gN 1) (b_first_fault_f1 C))
    (sSeq (sRet (eC .non))
    sNil))))))))
-- lib find_fault a7222b b_find_fault 1 2
noncomputable def b_find_fault (C : Orc) : DS := (sSeq (sAsg (eCall C "first_fault" (aCons (eVar 0) aNil)) (gN 1))
    (sSeq (sIf (bVal (eOp oIsNot (eVar 1) (eC .non))) (sSeq (sRet (eVar 1))
    sNil) sNil)
    (sSeq (sRet (eIf (bVal (eOp oIs (eCall C "lowest_places" (aCons (eVar 0) aNil)) (eC .non))) (eTup (aCons (eTup aNil) (aCons (eC (.str (Str.ofString "none"))) aNil))) (eC .non)))
    sNil)))
/-! ### loops over written lists -/
def kFo1 (tg : DG) (body : DS) (ds : List D) (p : En × Sto) : Option (Fl × Sto) := (body p.1 p.2).bind fun q => match q.1 with
  | .nx env' => forL always tg body ds env' q.2
  | .ct env' => forL always tg body ds env' q.2
  | .bk env' => some (.nx env', q.2)
  | .rt v => some (.rt v, q.2)
def kFo2 (tg : DG) (body : DS) (ds : List D) (q : Fl × Sto) : Option (Fl × Sto) := match q.1 with
  | .nx env' => forL always tg body ds env' q.2
  | .ct env' => forL always tg body ds env' q.2
  | .bk env' => some (.nx env', q.2)
  | .rt v => some (.rt v, q.2)
section
variable {tg : DG} {body : DS} {d v : D} {ds : List D} {env : En} {st : Sto}
theorem e_forN : forL always tg body [] env st = some (.nx env, st) := rfl
theorem e_forC : forL always tg body (d :: ds) env st = (tg d env st).bind (kFo1 tg body ds) := rfl
theorem e_kfo1 : kFo1 tg body ds (env, st) = (body env st).bind (kFo2 tg body ds) := rfl
theorem e_kfo2N : kFo2 tg body ds (.nx env, st) = forL always tg body ds env st := rfl
theorem e_kfo2C : kFo2 tg body ds (.ct env, st) = forL always tg body ds env st := rfl
theorem e_kfo2B : kFo2 tg body ds (.bk env, st) = some (.nx env, st) := rfl
theorem e_kfo2R : kFo2 tg body ds (.rt v, st) = some (.rt v, st) := rfl
end
theorem en_mem {f : α → D} : ∀ {xs : List α} {k : Nat} {d : D}, d ∈ enD k (xs.map f) → ∃ (i : Nat) (x : α), x ∈ xs ∧ d = .tup [.int i, f x]
  | [], _, _, h => by simp [enD] at h
  | x :: xs, k, d, h => by
    rw [List.map_cons] at h
    unfold enD at h
    rcases List.mem_cons.mp h with e | h
    · exact ⟨k, x, List.mem_cons_self, e⟩
    · obtain ⟨i, y, hy, e⟩ := en_mem h
      exact ⟨i, y, List.mem_cons_of_mem _ hy, e⟩
theorem en_len : ∀ (xs : List D) (k : Nat), (enD k xs).length = xs.length
  | [], _ => rfl
  | x :: xs, k => by
    unfold enD
    rw [List.length_cons, List.length_cons, en_len xs]
structure VRig (rs : List Ring) (cs : List Cord) (bs : List Bar) : Prop where
  r1 : 1 ≤ rs.length
  r2 : rs.length ≤ 8
  c1 : cs.length ≤ 12
  b1 : bs.length ≤ 8
  ring : ∀ r ∈ rs, -1000000000000 ≤ r.lo ∧ r.lo ≤ r.hi ∧ r.hi ≤ 1000000000000 ∧ -1000000000 ≤ r.ld ∧ r.ld ≤ 1000000000
  cord : ∀ c ∈ cs, CIx rs.length c ∧ c.a ≠ c.b ∧ -2000000000000 ≤ c.len ∧ c.len ≤ 2000000000000 ∧ 1 ≤ c.w ∧ c.w ≤ 1000000000
  bar : ∀ c ∈ bs, BIx rs.length c ∧ c.a ≠ c.b ∧ -2000000000000 ≤ c.len ∧ c.len ≤ 2000000000000
theorem VRig.ix {rs : List Ring} {cs : List Cord} {bs : List Bar} (h : VRig rs cs bs) : ∀ c ∈ bs, BIx rs.length c := fun c hc => (h.bar c hc).1
theorem tt {p q : Prop} [Decidable p] [Decidable q] (hp : p) (hq : q) : (decide p && decide q) = true := by simp [hp, hq]
section
variable {F : String → Option Fn}
theorem part_fault_ok (h2 : F "is_tuple" = some ⟨3, 3, b_is_tuple⟩ := by first | assumption | rfl) (h1 : F "part_fault" = some ⟨1, 6, b_part_fault⟩ := by first | assumption | rfl) (n : Nat) {rs : List Ring} {cs : List Cord} {bs : List Bar} (v : VRig rs cs bs) (st : Sto) :
    callN F (n + 2) "part_fault" [rigD rs cs bs] st = some (.non, st) := by
  have r1 := v.r1
  have r2 := v.r2
  have c1 := v.c1
  have b1 := v.b1
  have k0 := is_tuple_spec h2 n [.tup (rs.map ringD), .tup (cs.map cordD), .tup (bs.map barD)] 3 3 st
  have k1 := is_tuple_spec h2 n (rs.map ringD) 1 8 st
  have k2 := is_tuple_spec h2 n (cs.map cordD) 0 12 st
  have k3 := is_tuple_spec h2 n (bs.map barD) 0 8 st
  rw [List.length_map, tt (by omega) (by omega)] at k1 k2 k3
  rw [tt (by simp) (by simp)] at k0
  rw [call_eq h1 rfl]
  have e0 : startE 6 [rigD rs cs bs] = [some (rigD rs cs bs), none, none, none, none, none] := rfl
  have a0 : (((0 : Nat) : Nat) : Int) = 0 := rfl
  have a1 : ((0 + 1 : Nat) : Int) = 1 := rfl
  have a2 : ((0 + 1 + 1 : Nat) : Int) = 2 := rfl
  simp only [e0, b_part_fault]
  repeat (first | walk_at "ev" | simp only [enD, b_part_fault_f1, e_forN, e_forC, e_kfo1, e_kfo2N, e_gtT, if_true, reduceIte, Nat.reduceAdd, a0, a1, a2, k0, k1, k2, k3, Bool.not_true, e_kfnR, Int.natCast_zero, Int.cast_ofNat_Int])
theorem ring_fault_ok (h2 : F "is_tuple" = some ⟨3, 3, b_is_tuple⟩ := by first | assumption | rfl) (h3 : F "is_integer" = some ⟨3, 3, b_is_integer⟩ := by first | assumption | rfl) (h1 : F "ring_fault" = some ⟨2, 5, b_ring_fault⟩ := by first | assumption | rfl) (n : Nat) {r : Ring} (i : D)
    (v : -1000000000000 ≤ r.lo ∧ r.lo ≤ r.hi ∧ r.hi ≤ 1000000000000 ∧ -1000000000 ≤ r.ld ∧ r.ld ≤ 1000000000) (st : Sto) : callN F (n + 2) "ring_fault" [i, ringD r] st = some (.non, st) := by
  obtain ⟨v1, v2, v3, v4, v5⟩ := v
  have k0 := is_tuple_spec h2 n [.int r.lo, .int r.hi, .int r.ld] 3 3 st
  have k1 := integer_spec h3 n r.lo (0 - 1000000000000) 1000000000000 st
  have k2 := integer_spec h3 n r.hi r.lo 1000000000000 st
  have k3 := integer_spec h3 n r.ld (0 - 1000000000) 1000000000 st
  rw [tt (by omega) (by omega)] at k1 k2 k3
  rw [tt (by simp) (by simp)] at k0
  rw [call_eq h1 rfl]
  have e0 : startE 5 [i, ringD r] = [some i, some (.tup [.int r.lo, .int r.hi, .int r.ld]), none, none, none] := rfl
  simp only [e0, b_ring_fault]
  repeat (first | walk_at "ev" | simp only [e_gtT, if_true, reduceIte, Nat.reduceAdd, k0, k1, k2, k3, Bool.not_true, e_kfnR])
theorem ends_fault_ok (h3 : F "is_integer" = some ⟨3, 3, b_is_integer⟩ := by first | assumption | rfl) (h1 : F "ends_fault" = some ⟨3, 3, b_ends_fault⟩ := by first | assumption | rfl) (n : Nat) {a b l : Int} {rest : List D} (p : D) {m : Int}
    (v : (0 ≤ a ∧ a < m) ∧ (0 ≤ b ∧ b < m) ∧ a ≠ b ∧ -2000000000000 ≤ l ∧ l ≤ 2000000000000) (st : Sto) : callN F (n + 2) "ends_fault" [p, .tup (.int a :: .int b :: .int l :: rest), .int m] st = some (.non, st) := by
  obtain ⟨⟨a0, a1⟩, ⟨b0, b1⟩, ne, l0, l1⟩ := v
  have k1 := integer_spec h3 n a 0 (m - 1) st
  have k2 := integer_spec h3 n b 0 (m - 1) st
  have k3 := integer_spec h3 n l (0 - 2000000000000) 2000000000000 st
  rw [tt (by omega) (by omega)] at k1 k2 k3
  rw [call_eq h1 rfl]
  have e0 : startE 3 [p, .tup (.int a :: .int b :: .int l :: rest), .int m] = [some p, some (.tup (.int a :: .int b :: .int l :: rest)), some (.int m)] := rfl
  simp only [e0, b_ends_fault]
  repeat (first | walk_at "ev" | simp only [k1, k2, k3, decide_eq_false ne, Bool.not_true, e_kfnR])
theorem cord_fault_ok (h2 : F "is_tuple" = some ⟨3, 3, b_is_tuple⟩ := by first | assumption | rfl) (h3 : F "is_integer" = some ⟨3, 3, b_is_integer⟩ := by first | assumption | rfl) (h4 : F "ends_fault" = some ⟨3, 3, b_ends_fault⟩ := by first | assumption | rfl) (h1 : F "cord_fault" = some ⟨3, 4, b_cord_fault⟩ := by first | assumption | rfl) (n : Nat) {c : Cord} {m : Nat} (i : D)
    (v : CIx m c ∧ c.a ≠ c.b ∧ -2000000000000 ≤ c.len ∧ c.len ≤ 2000000000000 ∧ 1 ≤ c.w ∧ c.w ≤ 1000000000) (st : Sto) : callN F (n + 3) "cord_fault" [i, cordD c, .int m] st = some (.non, st) := by
  obtain ⟨⟨a0, a1, b0, b1⟩, ne, l0, l1, w0, w1⟩ := v
  have k0 := is_tuple_spec h2 (n + 1) [.int c.a, .int c.b, .int c.len, .int c.w] 4 4 st
  have k1 := ends_fault_ok h3 h4 n (a := c.a) (b := c.b) (l := c.len) (rest := [.int c.w]) (.tup [.int 1, i]) (m := m) ⟨⟨a0, a1⟩, ⟨b0, b1⟩, ne, l0, l1⟩ st
  have k2 := integer_spec h3 (n + 1) c.w 1 1000000000 st
  rw [tt (by omega) (by omega)] at k2
  rw [tt (by simp) (by simp)] at k0
  have i1 : oIsNot st .non .non = some (.bl false) := rfl
  rw [call_eq h1 rfl]
  have e0 : startE 4 [i, cordD c, .int m] = [some i, some (.tup [.int c.a, .int c.b, .int c.len, .int c.w]), some (.int m), none] := rfl
  simp only [e0, b_cord_fault]
  repeat (first | walk_at "ev" | simp only [k0, k1, k2, i1, Bool.not_true, e_kfnR])
theorem bar_fault_ok (h2 : F "is_tuple" = some ⟨3, 3, b_is_tuple⟩ := by first | assumption | rfl) (h3 : F "is_integer" = some ⟨3, 3, b_is_integer⟩ := by first | assumption | rfl) (h4 : F "ends_fault" = some ⟨3, 3, b_ends_fault⟩ := by first | assumption | rfl) (h1 : F "bar_fault" = some ⟨3, 3, b_bar_fault⟩ := by first | assumption | rfl) (n : Nat) {c : Bar} {m : Nat} (i : D)
    (v : BIx m c ∧ c.a ≠ c.b ∧ -2000000000000 ≤ c.len ∧ c.len ≤ 2000000000000) (st : Sto) : callN F (n + 3) "bar_fault" [i, barD c, .int m] st = some (.non, st) := by
  obtain ⟨⟨a0, a1, b0, b1⟩, ne, l0, l1⟩ := v
  have k0 := is_tuple_spec h2 (n + 1) [.int c.a, .int c.b, .int c.len] 3 3 st
  have k1 := ends_fault_ok h3 h4 n (a := c.a) (b := c.b) (l := c.len) (rest := []) (.tup [.int 2, i]) (m := m) ⟨⟨a0, a1⟩, ⟨b0, b1⟩, ne, l0, l1⟩ st
  rw [tt (by simp) (by simp)] at k0
  rw [call_eq h1 rfl]
  have e0 : startE 3 [i, barD c, .int m] = [some i, some (.tup [.int c.a, .int c.b, .int c.len]), some (.int m)] := rfl
  simp only [e0, b_bar_fault]
  repeat (first | walk_at "ev" | simp only [k0, k1, Bool.not_true, e_kfnR])
theorem add_lst {st : Sto} {xs ys : List D} (h : xs.length + ys.length ≤ 1000) : oAdd st (.lst xs) (.lst ys) = some (.lst (xs ++ ys)) := by
  show (if fits (xs.length + ys.length) then some (D.lst (xs ++ ys)) else none) = _
  rw [fits_small h]
  rfl
theorem first_fault_ok (h2 : F "is_tuple" = some ⟨3, 3, b_is_tuple⟩ := by first | assumption | rfl) (h3 : F "is_integer" = some ⟨3, 3, b_is_integer⟩ := by first | assumption | rfl) (h4 : F "ends_fault" = some ⟨3, 3, b_ends_fault⟩ := by first | assumption | rfl) (h5 : F "cord_fault" = some ⟨3, 4, b_cord_fault⟩ := by first | assumption | rfl)
    (h6 : F "bar_fault" = some ⟨3, 3, b_bar_fault⟩ := by first | assumption | rfl) (h7 : F "ring_fault" = some ⟨2, 5, b_ring_fault⟩ := by first | assumption | rfl) (h8 : F "part_fault" = some ⟨1, 6, b_part_fault⟩ := by first | assumption | rfl) (h1 : F "first_fault" = some ⟨1, 10, b_first_fault⟩ := by first | assumption | rfl) (n : Nat)
    {rs : List Ring} {cs : List Cord} {bs : List Bar} (v : VRig rs cs bs) (st : Sto) : callN F (n + 4) "first_fault" [rigD rs cs bs] st = some (.non, st) := by
  have r2 := v.r2
  have c1 := v.c1
  have b1 := v.b1
  have k0 := part_fault_ok h2 h8 (n + 1) v st
  have i1 : oIsNot st .non .non = some (.bl false) := rfl
  rw [call_eq h1 rfl]
  have e0 : startE 10 [rigD rs cs bs] = [some (rigD rs cs bs), none, none, none, none, none, none, none, none, none] := rfl
  simp only [e0, b_first_fault]
  repeat (first | walk_at "ev" | simp only [e_gtT, if_true, reduceIte, Nat.reduceAdd, k0, i1])
  rw [lc_pure (fun _ => .non) (enD 0 (rs.map ringD)) ?h]
  case h =>
    intro d hd
    obtain ⟨i, r, hr, rfl⟩ := en_mem hd
    refine ⟨_, rfl, rfl, ?_⟩
    have k := ring_fault_ok h2 h3 h7 (n + 1) (.int i) (v.ring r hr) st
    repeat (first | walk_at "ev" | simp only [k])
  walk_at "ev"
  rw [lc_pure (fun _ => .non) (enD 0 (cs.map cordD)) ?h9]
  case h9 =>
    intro d hd
    obtain ⟨i, r, hr, rfl⟩ := en_mem hd
    refine ⟨_, rfl, rfl, ?_⟩
    have k := cord_fault_ok h2 h3 h4 h5 n (.int i) (v.cord r hr) st
    repeat (first | walk_at "ev" | simp only [k])
  repeat (first | walk_at "ev" | rw [add_lst (by simp only [List.length_map, en_len]; omega)])
  rw [lc_pure (fun _ => .non) (enD 0 (bs.map barD)) ?h10]
  case h10 =>
    intro d hd
    obtain ⟨i, r, hr, rfl⟩ := en_mem hd
    refine ⟨_, rfl, rfl, ?_⟩
    have k := bar_fault_ok h2 h3 h4 h6 n (.int i) (v.bar r hr) st
    repeat (first | walk_at "ev" | simp only [k])
  walk_at "ev"
  rw [add_lst (by simp only [List.length_append, List.length_map, en_len]; omega)]
  walk_at "ev"
  rw [← List.map_append, ← List.map_append]
  obtain ⟨env', st', k, ⟨v1, rfl⟩, rfl⟩ := for_rel (tg := gN 1) (body := b_first_fault_f1 (callN F (n + 3))) (fun _ : D => D.non)
    (fun _ env s => (∃ v1, env = [some (rigD rs cs bs), v1, some (.tup (rs.map ringD)), some (.tup (cs.map cordD)), some (.tup (bs.map barD)), some (.lst ((enD 0 (rs.map ringD) ++ enD 0 (cs.map cordD) ++ enD 0 (bs.map barD)).map fun _ => .non)), none, none, none, none]) ∧ s = st)
    (by
      rintro x xs env s ⟨⟨v1, rfl⟩, rfl⟩
      refine ⟨_, _, rfl, ?_⟩
      simp only [b_first_fault_f1]
      repeat (first | walk_at "ev" | simp only [i1])
      exact ⟨_, _, rfl, ⟨_, rfl⟩, rfl⟩)
    (enD 0 (rs.map ringD) ++ enD 0 (cs.map cordD) ++ enD 0 (bs.map barD)) _ st ⟨⟨some .non, rfl⟩, rfl⟩
  repeat (first | walk_at "ev" | simp only [k, e_kfnR])
def faultD (o : Option (List Int)) : D := match o with
  | none => .tup [.tup [], .str (Str.ofString "none")]
  | some _ => .non
theorem find_fault_ok (h2 : F "is_tuple" = some ⟨3, 3, b_is_tuple⟩ := by first | assumption | rfl) (h3 : F "is_integer" = some ⟨3, 3, b_is_integer⟩ := by first | assumption | rfl) (h4 : F "ends_fault" = some ⟨3, 3, b_ends_fault⟩ := by first | assumption | rfl) (h5 : F "cord_fault" = some ⟨3, 4, b_cord_fault⟩ := by first | assumption | rfl)
    (h6 : F "bar_fault" = some ⟨3, 3, b_bar_fault⟩ := by first | assumption | rfl) (h7 : F "ring_fault" = some ⟨2, 5, b_ring_fault⟩ := by first | assumption | rfl) (h8 : F "part_fault" = some ⟨1, 6, b_part_fault⟩ := by first | assumption | rfl) (h9 : F "first_fault" = some ⟨1, 10, b_first_fault⟩ := by first | assumption | rfl)
    (h10 : F "raise_places" = some ⟨2, 6, b_raise_places⟩ := by first | assumption | rfl) (h11 : F "lowest_places" = some ⟨1, 8, b_lowest_places⟩ := by first | assumption | rfl) (h1 : F "find_fault" = some ⟨1, 2, b_find_fault⟩ := by first | assumption | rfl) (n : Nat)
    {rs : List Ring} {cs : List Cord} {bs : List Bar} (v : VRig rs cs bs) (st : Sto) : ∃ g, callN F (n + 5) "find_fault" [rigD rs cs bs] st = some (faultD (lowL rs bs), st ++ g) := by
  have k0 := first_fault_ok h2 h3 h4 h5 h6 h7 h8 h9 n v st
  have r2 := v.r2
  obtain ⟨g, k1⟩ := lowest_spec h10 h11 (n + 2) (cs := .tup (cs.map cordD)) v.ix (by omega) st
  have i1 : oIsNot st .non .non = some (.bl false) := rfl
  refine ⟨g, ?_⟩
  rw [call_eq h1 rfl]
  have e0 : startE 2 [rigD rs cs bs] = [some (rigD rs cs bs), none] := rfl
  simp only [e0, b_find_fault]
  repeat (first | walk_at "ev" | simp only [k0, k1, i1])
  cases lowL rs bs with
  | none =>
    have i2 : oIs (st ++ g) (optD none) .non = some (.bl true) := rfl
    repeat (first | walk_at "ev" | simp only [i2, e_kfnR, faultD])
  | some x =>
    have i2 : oIs (st ++ g) (optD (some x)) .non = some (.bl false) := rfl
    repeat (first | walk_at "ev" | simp only [i2, e_kfnR, faultD])
end
end Tg
/-! Draws counted down; loops that pass; rigs as drawn. -/

namespace Tg
open PySem PySem.Spec PyProof.Rows L2

section
variable {C : Orc} {s : Dr} {b : Int}
theorem Draws.n (dr : Draws C) (d : DOk s b) (o : Sto) (many : Int) (h1 : 1 ≤ b) (h2 : 0 < many) (h3 : many < 18446744073709551616) :
    ∃ r s', C "_law_next" [.loc 1, .int many] (mkSt s o) = some (.int r, mkSt s' o) ∧ 0 ≤ r ∧ r < many ∧ DOk s' (b - 1) := dr.nx s (b - 1) o many (d.mono (by omega)) (by omega) h2 h3
/-- one of some items -/
theorem Draws.pick (dr : Draws C) (d : DOk s b) (o : Sto) (xs : List D) {n : Int} (hn : n = xs.length) (h1 : 1 ≤ b) (h2 : 0 < n) (h3 : n ≤ 1000) :
    ∃ r x s', C "_law_next" [.loc 1, .int n] (mkSt s o) = some (.int r, mkSt s' o) ∧ atI xs r = some x ∧ x ∈ xs ∧ DOk s' (b - 1) := by
  obtain ⟨r, s', k, r0, r1, d'⟩ := dr.n d o n h1 h2 (by omega)
  obtain ⟨x, hx, ex⟩ := at_list (xs := xs) (n := n) r0 r1 hn
  exact ⟨r, x, s', k, ex, hx, d'⟩
theorem Amounts.n (am : Amounts C) (d : DOk s b) (o : Sto) (size : Int) (h1 : 3 ≤ b) (h2 : 0 ≤ size) (h3 : size < 10000000000000) :
    ∃ r s', C "_law_amount" [.loc 1, .int size] (mkSt s o) = some (.int r, mkSt s' o) ∧ 0 ≤ r ∧ r ≤ size ∧ DOk s' (b - 3) := am.am s (b - 3) o size (d.mono (by omega)) (by omega) h2 h3
theorem Pairs.n (pr : Pairs C) (d : DOk s b) (o : Sto) (c : Int) (h1 : 2 ≤ b) (h2 : 1 < c) (h3 : c < 1000) :
    ∃ i j s', C "_law_pair" [.loc 1, .int c] (mkSt s o) = some (.tup [.int i, .int j], mkSt s' o) ∧ 0 ≤ i ∧ i < c ∧ 0 ≤ j ∧ j < c ∧ i ≠ j ∧ DOk s' (b - 2) := pr.pr s (b - 2) o c (d.mono (by omega)) (by omega) h2 h3
theorem Rigs.n (rg : Rigs C) (d : DOk s b) (o : Sto) (most size : Int) (h1 : 300 ≤ b) (h2 : 1 ≤ most) (h3 : most ≤ 8) (h4 : 0 ≤ size) (h5 : size ≤ 1000000000000) :
    ∃ R s' g, C "_law_rig" [.loc 1, .int most, .int size] (mkSt s o) = some (.lst [R.d, R.pd], mkSt s' (o ++ g)) ∧ RigOk most R ∧ DOk s' (b - 300) := rg.rg s (b - 300) o most size (d.mono (by omega)) (by omega) h2 h3 h4 h5
theorem Rigs.span (rg : Rigs C) (d : DOk s b) (o : Sto) (most size : Int) (h1 : 300 ≤ b) (h2 : 1 ≤ most) (h3 : most ≤ 8) (h4 : 0 ≤ size) (h5 : size ≤ 1000000000000) :
    ∃ R s' g, C "_law_rig" [.loc 1, .int most, .int size] (mkSt s o) = some (.lst [R.d, R.pd], mkSt s' (o ++ g)) ∧ (RigOk most R ∧ ∀ q ∈ R.qs, q.1.hi - q.1.lo ≤ 2 * size) ∧ DOk s' (b - 300) := rg.sp s (b - 300) o most size (d.mono (by omega)) (by omega) h2 h3 h4 h5
structure Ones (C : Orc) : Prop where
  on : ∀ (s : Dr) (b : Int) (o : Sto) (it : D) (xs : List D), DOk s b → 1 ≤ b → (it = .lst xs ∨ it = .tup xs) → 0 < xs.length → xs.length ≤ 1000000 → ∃ x s', C "_law_one" [.loc 1, it] (mkSt s o) = some (x, mkSt s' o) ∧ x ∈ xs ∧ DOk s' (b - 1)
theorem ones_of {F : String → Option Fn} (hN : F "_law_next" = some ⟨2, 9, b_l_next⟩ := by first | assumption | rfl) (hF : F "_law_one" = some ⟨2, 2, b_l_one⟩ := by first | assumption | rfl) (n : Nat) : Ones (callN F (n + 2)) :=
  ⟨fun s b o it xs h1 h2 h3 h4 h5 => one_spec hN hF n (b := b - 1) (h1.mono (by omega)) (by omega) o h3 h4 h5⟩
theorem Ones.l (on : Ones C) (d : DOk s b) (o : Sto) (xs : List D) (h1 : 1 ≤ b) (h2 : 0 < xs.length) (h3 : xs.length ≤ 1000000) : ∃ x s', C "_law_one" [.loc 1, .lst xs] (mkSt s o) = some (x, mkSt s' o) ∧ x ∈ xs ∧ DOk s' (b - 1) := on.on s b o _ xs d h1 (.inl rfl) h2 h3
theorem Ones.t (on : Ones C) (d : DOk s b) (o : Sto) (xs : List D) (h1 : 1 ≤ b) (h2 : 0 < xs.length) (h3 : xs.length ≤ 1000000) : ∃ x s', C "_law_one" [.loc 1, .tup xs] (mkSt s o) = some (x, mkSt s' o) ∧ x ∈ xs ∧ DOk s' (b - 1) := on.on s b o _ xs d h1 (.inr rfl) h2 h3
end
theorem mk_ap {s : Dr} {o g : Sto} : mkSt s o ++ g = mkSt s (o ++ g) := rfl

def Rel2 {α β : Type} (Q : α → β → Prop) : List α → List β → Prop
  | [], [] => True
  | x :: xs, y :: ys => Q x y ∧ Rel2 Q xs ys
  | _, _ => False
theorem Rel2.len {α β : Type} {Q : α → β → Prop} : ∀ {xs : List α} {ys : List β}, Rel2 Q xs ys → ys.length = xs.length
  | [], [], _ => rfl
  | _ :: _, _ :: _, h => by rw [List.length_cons, List.length_cons, Rel2.len h.2]
  | [], _ :: _, h => False.elim h
  | _ :: _, [], h => False.elim h
theorem Rel2.get {α β : Type} {Q : α → β → Prop} : ∀ {xs : List α} {ys : List β}, Rel2 Q xs ys → ∀ i (h1 : i < xs.length) (h2 : i < ys.length), Q xs[i] ys[i]
  | [], [], _, i, h1, _ => by simp at h1
  | _ :: _, _ :: _, h, 0, _, _ => h.1
  | _ :: _, _ :: _, h, i + 1, h1, h2 => Rel2.get h.2 i (by simpa using h1) (by simpa using h2)
  | [], _ :: _, h, _, _, _ => False.elim h
  | _ :: _, [], h, _, _, _ => False.elim h
theorem Rel2.mem {α β : Type} {Q : α → β → Prop} : ∀ {xs : List α} {ys : List β}, Rel2 Q xs ys → ∀ y ∈ ys, ∃ x ∈ xs, Q x y
  | [], [], _, y, h => by simp at h
  | x :: xs, z :: ys, h, y, hy => by
    rcases List.mem_cons.mp hy with e | hy
    · subst e
      exact ⟨x, List.mem_cons_self, h.1⟩
    · obtain ⟨x', hx, q⟩ := Rel2.mem h.2 y hy
      exact ⟨x', List.mem_cons_of_mem _ hx, q⟩
  | [], _ :: _, h, _, _ => False.elim h
  | _ :: _, [], h, _, _ => False.elim h
/-- the results as images -/
theorem Rel2.pre {α β : Type} {f : β → D} {Q : α → β → Prop} : ∀ {xs : List α} {ys : List D}, Rel2 (fun x y => ∃ z, y = f z ∧ Q x z) xs ys → ∃ zs : List β, ys = zs.map f ∧ Rel2 Q xs zs
  | [], [], _ => ⟨[], rfl, trivial⟩
  | x :: xs, y :: ys, h => by
    obtain ⟨⟨z, rfl, q⟩, h⟩ := h
    obtain ⟨zs, rfl, r⟩ := Rel2.pre h
    exact ⟨z :: zs, rfl, q, r⟩
  | [], _ :: _, h => False.elim h
  | _ :: _, [], h => False.elim h
/-- a comprehension whose element draws -/
theorem lc_draw {α : Type} {tg : DG} {ifs : DB} {elt : DE} {env : En} (f : α → D) (c : Int) (hc : 0 ≤ c) (Q : α → D → Prop) : ∀ (xs : List α) (s : Dr) (b : Int) (o : Sto), DOk s b → c * xs.length ≤ b →
    (∀ x ∈ xs, ∀ (s : Dr) (b : Int) (o : Sto), DOk s b → c ≤ b → ∃ e y s' g, tg (f x) env (mkSt s o) = some (e, mkSt s o) ∧ ifs e (mkSt s o) = some (true, mkSt s o) ∧ elt e (mkSt s o) = some (y, mkSt s' (o ++ g)) ∧ Q x y ∧ DOk s' (b - c)) →
    ∃ ys s' g, lcL always tg ifs elt env (xs.map f) (mkSt s o) = some (ys, mkSt s' (o ++ g)) ∧ Rel2 Q xs ys ∧ DOk s' (b - c * xs.length)
  | [], s, b, o, d, hb, _ => ⟨[], s, [], by rw [List.append_nil]; rfl, trivial, d.mono (by simp)⟩
  | x :: xs, s, b, o, d, hb, h => by
    have e1 : c * ((x :: xs).length : Int) = c * xs.length + c := by rw [List.length_cons, Int.natCast_add, Int.mul_add]; simp
    rw [e1] at hb
    have pos : 0 ≤ c * (xs.length : Int) := Int.mul_nonneg hc (by omega)
    obtain ⟨e, y, s1, g, h1, h2, h3, h4, d1⟩ := h x List.mem_cons_self s b o d (by omega)
    obtain ⟨ys, s2, g2, k, r, d2⟩ := lc_draw f c hc Q xs s1 (b - c) (o ++ g) d1 (by omega) fun z hz => h z (List.mem_cons_of_mem _ hz)
    refine ⟨y :: ys, s2, g ++ g2, ?_, ⟨h4, r⟩, d2.mono (by rw [e1]; omega)⟩
    rw [List.map_cons]
    unfold lcL
    simp only [show always (mkSt s o) = true from rfl, if_true, h1, Option.bind_some, h2, h3, k, Option.map_some, List.append_assoc]
theorem loop_all {tg : DG} {body : DS} (Q : D → Prop) (E : En → Prop) {st : Sto} (step : ∀ d env, Q d → E env → ∃ e, tg d env st = some (e, st) ∧ ∃ e2, body e st = some (.nx e2, st) ∧ E e2) :
    ∀ (ds : List D) (env : En), (∀ d ∈ ds, Q d) → E env → ∃ env', forL always tg body ds env st = some (.nx env', st) ∧ E env'
  | [], env, _, h => ⟨env, rfl, h⟩
  | d :: ds, env, hq, h => by
    obtain ⟨e, h1, e2, h2, h3⟩ := step d env (hq d List.mem_cons_self) h
    obtain ⟨e3, h4, h5⟩ := loop_all Q E step ds e2 (fun d hd => hq d (List.mem_cons_of_mem _ hd)) h3
    refine ⟨e3, ?_, h5⟩
    unfold forL
    simp only [show always st = true from rfl, if_true, h1, Option.bind_some, h2, h4]
theorem tri_mem : ∀ {x y z : List Int} {d : D}, d ∈ triD (x.map D.int) (y.map D.int) (z.map D.int) → ∃ i, i < x.length ∧ i < y.length ∧ i < z.length ∧ d = .tup [.int (pa x i), .int (pa y i), .int (pa z i)]
  | [], _, _, _, h => by simp [triD] at h
  | _ :: _, [], _, _, h => by simp [triD] at h
  | _ :: _, _ :: _, [], _, h => by simp [triD] at h
  | a :: x, b :: y, c :: z, d, h => by
    simp only [List.map_cons] at h
    unfold triD at h
    rcases List.mem_cons.mp h with e | h
    · exact ⟨0, by simp, by simp, by simp, e⟩
    · obtain ⟨i, h1, h2, h3, e⟩ := tri_mem h
      exact ⟨i + 1, by simpa using h1, by simpa using h2, by simpa using h3, e⟩
/-! ### rigs as drawn -/
theorem RigOk.v {R : Rig} (h : RigOk 8 R) : VRig R.rings R.cords R.bars := by
  have hr : R.rings.length = R.qs.length := rigs_len R
  have hp : R.ps.length = R.qs.length := ps_len R
  refine ⟨by rw [hr]; exact h.n1, by rw [hr]; have := h.n2; omega, h.c1, h.b1, fun r hm => ?_, fun c hc => ?_, fun c hc => ?_⟩
  · obtain ⟨q, hq, rfl⟩ := List.mem_map.mp hm
    obtain ⟨h1, h2, h3, h4, h5, h6⟩ := h.q q hq
    exact ⟨h3, by omega, h4, h5, h6⟩
  · obtain ⟨a0, a1, b0, b1, ne, l0, l1, w0, w1⟩ := h.c2 c hc
    exact ⟨⟨a0, by rw [hr]; exact a1, b0, by rw [hr]; exact b1⟩, ne, l0, l1, w0, w1⟩
  · obtain ⟨a0, a1, b0, b1, ne, l0, l1, _⟩ := h.b2 c hc
    exact ⟨⟨a0, by rw [hr, ← hp]; exact a1, b0, by rw [hr, ← hp]; exact b1⟩, ne, l0, l1⟩
theorem RigOk.plc {R : Rig} (h : RigOk 8 R) : Plc R.rings R.bars R.ps := by
  have hr : R.rings.length = R.qs.length := rigs_len R
  have hp : R.ps.length = R.qs.length := ps_len R
  have hq : ∀ i (hi : i < R.rings.length), R.rings[i].lo ≤ pa R.ps i ∧ pa R.ps i ≤ R.rings[i].hi := by
    intro i hi
    have hi2 : i < R.qs.length := by omega
    obtain ⟨h1, h2, _⟩ := h.q R.qs[i] (List.getElem_mem hi2)
    rw [pa_get (by omega)]
    simp only [Rig.rings, Rig.ps, List.getElem_map]
    exact ⟨h1, h2⟩
  refine ⟨by rw [hp, hr], fun i hi => ?_, fun i hi => ?_, fun c hc => ?_⟩
  · unfold losL
    rw [pa_map hi]
    exact (hq i hi).1
  · unfold hisL
    rw [pa_map hi]
    exact (hq i hi).2
  · obtain ⟨a0, a1, b0, b1, ne, l0, l1, x, y, ex, ey, hxy⟩ := h.b2 c hc
    unfold pa
    rw [List.getD_eq_getElem?_getD, List.getD_eq_getElem?_getD, ex, ey]
    exact hxy
/-! ### one ring held at a place -/
def pinR (rs : List Ring) (k : Nat) (z : Int) : List Ring := rs.set k ⟨z, z, (rs.getD k ⟨0, 0, 0⟩).ld⟩
theorem pinR_len {rs : List Ring} {k : Nat} {z : Int} : (pinR rs k z).length = rs.length := List.length_set
theorem pin_swap {rs : List Ring} {k : Nat} {z : Int} (h : k < rs.length) : swapD (rs.map ringD) k [.tup [.int z, .int z, .int (rs.getD k ⟨0, 0, 0⟩).ld]] = (pinR rs k z).map ringD := by
  unfold swapD pinR
  rw [List.set_eq_take_append_cons_drop, if_pos h, List.map_append, List.map_cons, List.map_take, List.map_drop]
  simp [ringD]
theorem pin_at {rs : List Ring} {k i : Nat} {z : Int} (hi : i < rs.length) : pa (losL (pinR rs k z)) i = (if k = i then z else pa (losL rs) i) ∧ pa (hisL (pinR rs k z)) i = (if k = i then z else pa (hisL rs) i) := by
  unfold losL hisL pinR
  rw [List.map_set, List.map_set, pa_set, pa_set]
  simp only [List.length_map]
  by_cases h : k = i
  · subst h
    simp [hi]
  · simp [h]
theorem Plc.pin {rs : List Ring} {bs : List Bar} {p : List Int} {k : Nat} {z : Int} (h : Plc rs bs p) (e : pa p k = z) : Plc (pinR rs k z) bs p := by
  refine ⟨by rw [pinR_len]; exact h.len, fun i hi => ?_, fun i hi => ?_, h.bar⟩
  · rw [pinR_len] at hi
    rw [(pin_at hi).1]
    split
    · next e2 => rw [← e2]; omega
    · exact h.lo i hi
  · rw [pinR_len] at hi
    rw [(pin_at hi).2]
    split
    · next e2 => rw [← e2]; omega
    · exact h.hi i hi
theorem Plc.unpin {rs : List Ring} {bs : List Bar} {p : List Int} {k : Nat} {z : Int} (hk : k < rs.length) (h : Plc (pinR rs k z) bs p) (h1 : pa (losL rs) k ≤ z) (h2 : z ≤ pa (hisL rs) k) : Plc rs bs p ∧ pa p k = z := by
  have hz : pa p k = z := by
    have a := h.lo k (by rw [pinR_len]; exact hk)
    have b := h.hi k (by rw [pinR_len]; exact hk)
    rw [(pin_at hk).1, if_pos rfl] at a
    rw [(pin_at hk).2, if_pos rfl] at b
    omega
  refine ⟨⟨by rw [← pinR_len]; exact h.len, fun i hi => ?_, fun i hi => ?_, h.bar⟩, hz⟩
  · have a := h.lo i (by rw [pinR_len]; exact hi)
    rw [(pin_at hi).1] at a
    split at a
    · next e => subst e; omega
    · exact a
  · have a := h.hi i (by rw [pinR_len]; exact hi)
    rw [(pin_at hi).2] at a
    split at a
    · next e => subst e; omega
    · exact a
theorem VRig.pin {rs : List Ring} {cs : List Cord} {bs : List Bar} {k : Nat} {z : Int} (v : VRig rs cs bs) (hk : k < rs.length) (h1 : -1000000000000 ≤ z) (h2 : z ≤ 1000000000000) : VRig (pinR rs k z) cs bs := by
  refine ⟨by rw [pinR_len]; exact v.r1, by rw [pinR_len]; exact v.r2, v.c1, v.b1, fun r hr => ?_, fun c hc => by rw [pinR_len]; exact v.cord c hc, fun c hc => by rw [pinR_len]; exact v.bar c hc⟩
  rcases List.mem_or_eq_of_mem_set hr with h | h
  · exact v.ring r h
  · subst h
    have := v.ring (rs.getD k ⟨0, 0, 0⟩) (by rw [List.getD_eq_getElem?_getD, List.getElem?_eq_getElem hk]; exact List.getElem_mem hk)
    exact ⟨h1, Int.le_refl _, h2, this.2.2.2.1, this.2.2.2.2⟩
theorem ring_ix {rs : List Ring} {k : Int} (h0 : 0 ≤ k) (h : k < rs.length) : atI (rs.map ringD) k = some (ringD (rs.getD k.toNat ⟨0, 0, 0⟩)) := by
  have e : (rs.map ringD)[k.toNat]? = some (ringD (rs.getD k.toNat ⟨0, 0, 0⟩)) := by
    rw [List.getElem?_map, List.getD_eq_getElem?_getD, List.getElem?_eq_getElem (by omega)]
    rfl
  have := atI_nat e
  rwa [Int.toNat_of_nonneg h0] at this
theorem lo_get {rs : List Ring} {k : Nat} (h : k < rs.length) : pa (losL rs) k = (rs.getD k ⟨0, 0, 0⟩).lo ∧ pa (hisL rs) k = (rs.getD k ⟨0, 0, 0⟩).hi := by
  unfold losL hisL
  rw [pa_map h, pa_map h, List.getD_eq_getElem?_getD, List.getElem?_eq_getElem h]
  exact ⟨rfl, rfl⟩
end Tg
/-! Pointwise operations. -/

namespace Tg
open PySem PySem.Spec PyProof.Rows L2
-- lib pointwise_min 0a31af b_pointwise_min 2 3
noncomputable def b_pointwise_min (C : Orc) : DS := (sSeq (sRet (eBlt gTuple (aCons (eLc [2] (iZip (eVar 0) (eVar 1)) (gN 2) bYes (eBlt gMinL (aCons (eVar 2) aNil))) aNil)))
    sNil)
-- lib pointwise_max df56b5 b_pointwise_max 2 3
noncomputable def b_pointwise_max (C : Orc) : DS := (sSeq (sRet (eBlt gTuple (aCons (eLc [2] (iZip (eVar 0) (eVar 1)) (gN 2) bYes (eBlt gMaxL (aCons (eVar 2) aNil))) aNil)))
    sNil)
-- lib midpoints 2e3929 b_midpoints 2 6
noncomputable def b_midpoints (C : Orc) : DS := (sSeq (sAsg (eLc [3, 4] (iZip (eVar 0) (eVar 1)) (gT 2 (gsCons (gN 3) (gsCons (gN 4) gsNil))) bYes (eOp oAdd (eVar 3) (eVar 4))) (gN 2))
    (sSeq (sRet (eTup (aCons (eBlt gTuple (aCons (eLc [5] (iSeq (eVar 2)) (gN 5) bYes (eOp oDiv (eVar 5) (eC (.int 2)))) aNil)) (aCons (eBlt gTuple (aCons (eLc [5] (iSeq (eVar 2)) (gN 5) bYes (eOp oDiv (eOp oAdd (eVar 5) (eC (.int 1))) (eC (.int 2)))) aNil)) aNil))))
    sNil))
-- lib shifted_max eeca3b b_shifted_max 3 5
noncomputable def b_shifted_max (C : Orc) : DS := (sSeq (sRet (eBlt gTuple (aCons (eLc [3, 4] (iZip (eVar 0) (eVar 1)) (gT 2 (gsCons (gN 3) (gsCons (gN 4) gsNil))) bYes (eBlt gMax2 (aCons (eOp oSub (eVar 3) (eVar 2)) (aCons (eVar 4) aNil)))) aNil)))
    sNil)
def zw (f : Int → Int → Int) (x y : List Int) : List Int := (x.zip y).map fun q => f q.1 q.2
theorem zw_len {f : Int → Int → Int} {x y : List Int} (h : x.length = y.length) : (zw f x y).length = x.length := by
  unfold zw
  rw [List.length_map, List.length_zip]
  omega
theorem pa_zw {f : Int → Int → Int} {x y : List Int} {i : Nat} (h1 : i < x.length) (h2 : i < y.length) : pa (zw f x y) i = f (pa x i) (pa y i) := by
  unfold zw
  rw [pa_map (by rw [List.length_zip]; omega), List.getElem_zip, pa_get h1, pa_get h2]
theorem minL2 {st : Sto} {a b : Int} : gMinL st [.tup [.int a, .int b]] = some (.int (min a b)) := by
  show some (D.int (minOf [a, b])) = _
  obtain ⟨h1, h2⟩ := minOf_spec [a, b] (by simp)
  have h3 := h2 a (by simp)
  have h4 := h2 b (by simp)
  simp only [List.mem_cons, List.not_mem_nil, or_false] at h1
  rw [show minOf [a, b] = min a b by omega]
theorem maxL2 {st : Sto} {a b : Int} : gMaxL st [.tup [.int a, .int b]] = some (.int (max a b)) := by
  show some (D.int (maxOf [a, b])) = _
  obtain ⟨h1, h2⟩ := maxOf_spec [a, b] (by simp)
  have h3 := h2 a (by simp)
  have h4 := h2 b (by simp)
  simp only [List.mem_cons, List.not_mem_nil, or_false] at h1
  rw [show maxOf [a, b] = max a b by omega]
section
variable {F : String → Option Fn}
/-- a comprehension over pairs of integers -/
theorem lc_zw {tg : DG} {elt : DE} {env : En} {s : Sto} (f : Int → Int → Int) (x y : List Int) (h : ∀ a b : Int, ∃ e, tg (.tup [.int a, .int b]) env s = some (e, s) ∧ elt e s = some (.int (f a b), s)) :
    lcL always tg bYes elt env ((x.zip y).map fun q => .tup [.int q.1, .int q.2]) s = some ((zw f x y).map D.int, s) := by
  unfold zw
  rw [List.map_map]
  refine lc_map (fun q : Int × Int => D.tup [.int q.1, .int q.2]) (fun q => D.int (f q.1 q.2)) _ fun q _ => ?_
  obtain ⟨e, h1, h2⟩ := h q.1 q.2
  exact ⟨e, h1, rfl, h2⟩
theorem lc_ints {tg : DG} {elt : DE} {env : En} {s : Sto} (f : Int → Int) (x : List Int) (h : ∀ a : Int, a ∈ x → ∃ e, tg (.int a) env s = some (e, s) ∧ elt e s = some (.int (f a), s)) :
    lcL always tg bYes elt env (x.map D.int) s = some ((x.map f).map D.int, s) := by
  rw [List.map_map]
  refine lc_map D.int (fun q => D.int (f q)) _ fun q hq => ?_
  obtain ⟨e, h1, h2⟩ := h q hq
  exact ⟨e, h1, rfl, h2⟩
theorem pmin_spec (h1 : F "pointwise_min" = some ⟨2, 3, b_pointwise_min⟩ := by first | assumption | rfl) (n : Nat) (x y : List Int) (st : Sto) : callN F (n + 1) "pointwise_min" [plcD x, plcD y] st = some (plcD (zw min x y), st) := by
  rw [call_eq h1 rfl]
  have e0 : startE 3 [plcD x, plcD y] = [some (plcD x), some (plcD y), none] := rfl
  simp only [e0, b_pointwise_min]
  repeat (first | walk_at "ev" | simp only [pairs_zip])
  rw [lc_zw min x y ?h]
  case h => exact fun a b => ⟨_, rfl, by repeat (first | walk_at "ev" | simp only [minL2])⟩
  repeat (first | walk_at "ev" | simp only [e_kfnR])
theorem pmax_spec (h1 : F "pointwise_max" = some ⟨2, 3, b_pointwise_max⟩ := by first | assumption | rfl) (n : Nat) (x y : List Int) (st : Sto) : callN F (n + 1) "pointwise_max" [plcD x, plcD y] st = some (plcD (zw max x y), st) := by
  rw [call_eq h1 rfl]
  have e0 : startE 3 [plcD x, plcD y] = [some (plcD x), some (plcD y), none] := rfl
  simp only [e0, b_pointwise_max]
  repeat (first | walk_at "ev" | simp only [pairs_zip])
  rw [lc_zw max x y ?h]
  case h => exact fun a b => ⟨_, rfl, by repeat (first | walk_at "ev" | simp only [maxL2])⟩
  repeat (first | walk_at "ev" | simp only [e_kfnR])
def downF (a b : Int) : Int := (a + b) / 2
def upF (a b : Int) : Int := (a + b + 1) / 2
theorem zw_map (g : Int → Int) (f : Int → Int → Int) (x y : List Int) : (zw f x y).map g = zw (fun a b => g (f a b)) x y := by
  unfold zw
  rw [List.map_map]
  rfl
theorem mid_spec (h1 : F "midpoints" = some ⟨2, 6, b_midpoints⟩ := by first | assumption | rfl) (n : Nat) (x y : List Int) (st : Sto) : callN F (n + 1) "midpoints" [plcD x, plcD y] st = some (.tup [plcD (zw downF x y), plcD (zw upF x y)], st) := by
  rw [call_eq h1 rfl]
  have e0 : startE 6 [plcD x, plcD y] = [some (plcD x), some (plcD y), none, none, none, none] := rfl
  have d2 : ∀ a : Int, oDiv st (.int a) (.int 2) = some (.int (a / 2)) := fun a => o_div (by omega) (by omega)
  simp only [e0, b_midpoints]
  repeat (first | walk_at "ev" | simp only [pairs_zip])
  rw [lc_zw (fun a b => a + b) x y ?h]
  case h => exact fun a b => ⟨_, rfl, by walk_at "ev"⟩
  walk_at "ev"
  rw [lc_ints (fun a => a / 2) _ ?h2]
  case h2 => exact fun a _ => ⟨_, rfl, by repeat (first | walk_at "ev" | simp only [d2])⟩
  walk_at "ev"
  rw [lc_ints (fun a => (a + 1) / 2) _ ?h3]
  case h3 => exact fun a _ => ⟨_, rfl, by repeat (first | walk_at "ev" | simp only [d2])⟩
  repeat (first | walk_at "ev" | simp only [e_kfnR])
  rw [zw_map, zw_map]
  rfl
theorem shift_spec (h1 : F "shifted_max" = some ⟨3, 5, b_shifted_max⟩ := by first | assumption | rfl) (n : Nat) (x y : List Int) (c : Int) (st : Sto) : callN F (n + 1) "shifted_max" [plcD x, plcD y, .int c] st = some (plcD (zw (fun a b => max (a - c) b) x y), st) := by
  rw [call_eq h1 rfl]
  have e0 : startE 5 [plcD x, plcD y, .int c] = [some (plcD x), some (plcD y), some (.int c), none, none] := rfl
  simp only [e0, b_shifted_max]
  repeat (first | walk_at "ev" | simp only [pairs_zip])
  rw [lc_zw (fun a b => max (a - c) b) x y ?h]
  case h => exact fun a b => ⟨_, rfl, by walk_at "ev"⟩
  repeat (first | walk_at "ev" | simp only [e_kfnR])
end
end Tg
/-! Plain: tables of bounds, closed by rounds over the nodes. -/
namespace Tg
open PySem PySem.Spec PyProof.Rows L2

abbrev Tab := List (List Int)
abbrev ta (T : Tab) (i j : Nat) : Int := pa (T.getD i []) j
/-- a square table -/
structure Sq (n : Nat) (T : Tab) : Prop where
  len : T.length = n
  row : ∀ i, i < n → (T.getD i []).length = n
theorem getD_set {α : Type} {T : List α} {i j : Nat} {r d : α} : (T.set i r).getD j d = if i = j ∧ i < T.length then r else T.getD j d := by
  rw [List.getD_eq_getElem?_getD, List.getD_eq_getElem?_getD, List.getElem?_set]
  by_cases h : i = j
  · subst h
    by_cases hl : i < T.length
    · simp [hl]
    · simp [hl, List.getElem?_eq_none (Nat.le_of_not_lt hl)]
  · simp [h]
/-- one row against one node -/
def rowStep (n k i : Nat) (T : Tab) : Tab := T.set i (vec n fun j => min (ta T i j) (ta T i k + ta T k j))
def rowsStep (n k : Nat) : List Nat → Tab → Tab
  | [], T => T
  | i :: is, T => rowsStep n k is (rowStep n k i T)
def close (n : Nat) : List Nat → Tab → Tab
  | [], T => T
  | k :: ks, T => close n ks (rowsStep n k (List.range n) T)
theorem rowStep_sq {n k i : Nat} {T : Tab} (h : Sq n T) : Sq n (rowStep n k i T) := by
  refine ⟨by unfold rowStep; rw [List.length_set]; exact h.len, fun j hj => ?_⟩
  unfold rowStep
  rw [getD_set]
  split
  · exact vec_len
  · exact h.row j hj
theorem ta_rowStep {n k i a b : Nat} {T : Tab} (h : Sq n T) (ha : a < n) (hb : b < n) : ta (rowStep n k i T) a b = if i = a then min (ta T i b) (ta T i k + ta T k b) else ta T a b := by
  unfold ta rowStep
  rw [getD_set]
  by_cases e : i = a
  · subst e
    rw [if_pos ⟨rfl, by rw [h.len]; exact ha⟩, if_pos rfl, pa_vec hb]
  · rw [if_neg (fun z => e z.1), if_neg e]
/-- all rows against one node, the node's own entry being 0 -/
theorem rows_eq {n k : Nat} (hk : k < n) : ∀ (is : List Nat) (T : Tab), Sq n T → is.Nodup → ta T k k = 0 → Sq n (rowsStep n k is T) ∧ ∀ a b, a < n → b < n → ta (rowsStep n k is T) a b = if a ∈ is then min (ta T a b) (ta T a k + ta T k b) else ta T a b
  | [], T, h, _, _ => ⟨h, fun a b _ _ => by simp [rowsStep]⟩
  | i :: is, T, h, nd, h0 => by
    rw [List.nodup_cons] at nd
    have s1 := rowStep_sq (k := k) (i := i) h
    have e := fun a b (ha : a < n) (hb : b < n) => ta_rowStep (k := k) (i := i) h ha hb
    have hkk : ta (rowStep n k i T) k k = 0 := by
      rw [e k k hk hk]
      split
      · next z => subst z; omega
      · exact h0
    obtain ⟨s2, f⟩ := rows_eq hk is _ s1 nd.2 hkk
    refine ⟨s2, fun a b ha hb => ?_⟩
    show ta (rowsStep n k is (rowStep n k i T)) a b = _
    rw [f a b ha hb]
    have kb : ta (rowStep n k i T) k b = ta T k b := by
      rw [e k b hk hb]
      split
      · next z => subst z; omega
      · rfl
    by_cases hai : a ∈ is
    · have ne : i ≠ a := fun z => nd.1 (by rw [z]; exact hai)
      rw [if_pos hai, if_pos (List.mem_cons_of_mem _ hai), e a b ha hb, e a k ha hk, if_neg ne, if_neg ne, kb]
    · rw [if_neg hai, e a b ha hb]
      by_cases z : i = a
      · subst z
        rw [if_pos rfl, if_pos List.mem_cons_self]
      · rw [if_neg z, if_neg (fun w => by rcases List.mem_cons.mp w with w | w; exact z w.symm; exact hai w)]
theorem nodup_range (n : Nat) : (List.range n).Nodup := List.nodup_range
theorem round_eq {n k : Nat} (hk : k < n) {T : Tab} (h : Sq n T) (h0 : ta T k k = 0) : Sq n (rowsStep n k (List.range n) T) ∧ ∀ a b, a < n → b < n → ta (rowsStep n k (List.range n) T) a b = min (ta T a b) (ta T a k + ta T k b) := by
  obtain ⟨s, f⟩ := rows_eq hk (List.range n) T h (nodup_range n) h0
  exact ⟨s, fun a b ha hb => by rw [f a b ha hb, if_pos (List.mem_range.mpr ha)]⟩
/-- positions that keep a table; x is at each node -/
def Keeps (n : Nat) (T : Tab) (x : Nat → Int) : Prop := ∀ a b, a < n → b < n → x b - x a ≤ ta T a b
def Diag (n : Nat) (T : Tab) : Prop := ∀ a, a < n → ta T a a = 0
/-- closed against the nodes of a list -/
def ClosedAt (n : Nat) (T : Tab) (m : Nat) : Prop := ∀ a b, a < n → b < n → ta T a b ≤ ta T a m + ta T m b
theorem round_keeps {n k : Nat} (hk : k < n) {T : Tab} (h : Sq n T) (d : Diag n T) {x : Nat → Int} : Keeps n (rowsStep n k (List.range n) T) x ↔ Keeps n T x := by
  obtain ⟨_, f⟩ := round_eq hk h (d k hk)
  constructor
  · intro q a b ha hb
    have := q a b ha hb
    rw [f a b ha hb] at this
    omega
  · intro q a b ha hb
    rw [f a b ha hb]
    have h1 := q a b ha hb
    have h2 := q a k ha hk
    have h3 := q k b hk hb
    omega
theorem round_diag {n k : Nat} (hk : k < n) {T : Tab} (h : Sq n T) (d : Diag n T) {x : Nat → Int} (q : Keeps n T x) : Diag n (rowsStep n k (List.range n) T) := by
  obtain ⟨_, f⟩ := round_eq hk h (d k hk)
  intro a ha
  rw [f a a ha ha, d a ha]
  have h2 := q a k ha hk
  have h3 := q k a hk ha
  omega
theorem round_closed {n k : Nat} (hk : k < n) {T : Tab} (h : Sq n T) (d : Diag n T) : ClosedAt n (rowsStep n k (List.range n) T) k := by
  obtain ⟨_, f⟩ := round_eq hk h (d k hk)
  have := d k hk
  intro a b ha hb
  rw [f a b ha hb, f a k ha hk, f k b hk hb]
  omega
theorem round_still {n k m : Nat} (hk : k < n) (hm : m < n) {T : Tab} (h : Sq n T) (d : Diag n T) {x : Nat → Int} (q : Keeps n T x) (c : ClosedAt n T m) : ClosedAt n (rowsStep n k (List.range n) T) m := by
  obtain ⟨_, f⟩ := round_eq hk h (d k hk)
  intro a b ha hb
  rw [f a b ha hb, f a m ha hm, f m b hm hb]
  have h1 := c a b ha hb
  have h2 := c a k ha hk
  have h3 := c k b hk hb
  have h4 := c k k hk hk
  have h5 := d k hk
  omega
/-- the closure -/
theorem close_ok {n : Nat} : ∀ (ks : List Nat) (T : Tab) (ms : List Nat), (∀ k ∈ ks, k < n) → (∀ k ∈ ms, k < n) → Sq n T → Diag n T → (∀ m ∈ ms, ClosedAt n T m) → ∀ x, Keeps n T x →
    Sq n (close n ks T) ∧ Diag n (close n ks T) ∧ (∀ m ∈ ms ++ ks, ClosedAt n (close n ks T) m) ∧ (∀ y, Keeps n (close n ks T) y ↔ Keeps n T y)
  | [], T, ms, _, _, h, d, c, x, q => ⟨h, d, fun m hm => c m (by simpa using hm), fun y => Iff.rfl⟩
  | k :: ks, T, ms, hk, hms, h, d, c, x, q => by
    have k0 := hk k List.mem_cons_self
    have s1 := (round_eq k0 h (d k k0)).1
    have d1 := round_diag k0 h d q
    have q1 := (round_keeps k0 h d (x := x)).mpr q
    obtain ⟨a1, a2, a3, a4⟩ := close_ok ks _ (ms ++ [k]) (fun j hj => hk j (List.mem_cons_of_mem _ hj)) (fun j hj => by
      rcases List.mem_append.mp hj with z | z
      · exact hms j z
      · rw [List.mem_singleton.mp z]; exact k0) s1 d1 (fun m hm => by
      rcases List.mem_append.mp hm with z | z
      · exact round_still k0 (hms m z) h d q (c m z)
      · rw [List.mem_singleton.mp z]; exact round_closed k0 h d) x q1
    refine ⟨a1, a2, fun m hm => a3 m (by simpa using hm), fun y => ?_⟩
    show Keeps n (close n ks (rowsStep n k (List.range n) T)) y ↔ _
    rw [a4 y, round_keeps k0 h d]
def closeT (n : Nat) (T : Tab) : Tab := close n (List.range n) T
structure Closed (n : Nat) (T : Tab) : Prop where
  sq : Sq n T
  diag : Diag n T
  tri : ∀ a b c, a < n → b < n → c < n → ta T a c ≤ ta T a b + ta T b c
theorem closeT_ok {n : Nat} {T : Tab} (h : Sq n T) (d : Diag n T) {x : Nat → Int} (q : Keeps n T x) : Closed n (closeT n T) ∧ ∀ y, Keeps n (closeT n T) y ↔ Keeps n T y := by
  obtain ⟨a1, a2, a3, a4⟩ := close_ok (List.range n) T [] (fun k hk => List.mem_range.mp hk) (fun k hk => by simp at hk) h d (fun m hm => by simp at hm) x q
  exact ⟨⟨a1, a2, fun a b c ha hb hc => a3 b (by simpa using hb) a c ha hc⟩, a4⟩
/-- no entry grows -/
theorem close_le {n : Nat} : ∀ (ks : List Nat) (T : Tab), (∀ k ∈ ks, k < n) → Sq n T → Diag n T → ∀ x, Keeps n T x → ∀ a b, a < n → b < n → ta (close n ks T) a b ≤ ta T a b
  | [], T, _, _, _, _, _, a, b, _, _ => Int.le_refl _
  | k :: ks, T, hk, h, d, x, q, a, b, ha, hb => by
    have k0 := hk k List.mem_cons_self
    obtain ⟨s1, f⟩ := round_eq k0 h (d k k0)
    have := close_le ks _ (fun j hj => hk j (List.mem_cons_of_mem _ hj)) s1 (round_diag k0 h d q) x ((round_keeps k0 h d).mpr q) a b ha hb
    rw [f a b ha hb] at this
    exact Int.le_trans this (by omega)
end Tg
/-! Rigs made of a placement and tensions. -/

namespace Tg
open PySem PySem.Spec PyProof.Rows L2
-- lib _law_spots ff9487 b_l_spots 2 9
noncomputable def b_l_spots_f1 (C : Orc) : DS := (sSeq (sAsg (eOp oAdd (eOp oMul (eVar 3) (eCall C "_law_one" (aCons (eVar 0) (aCons (eLst (aCons (eC (.int 1)) (aCons (eC (.int 1)) (aCons (eUn oNeg (eC (.int 1))) aNil)))) aNil)))) (eCall C "_law_amount" (aCons (eVar 0) (aCons (eVar 2) aNil)))) (gN 6))
    (sSeq (sAsg (eOp oSub (eVar 6) (eCall C "_law_one" (aCons (eVar 0) (aCons (eLst (aCons (eC (.int 0)) (aCons (eCall C "_law_next" (aCons (eVar 0) (aCons (eC (.int 4)) aNil))) (aCons (eVar 2) aNil)))) aNil)))) (gN 7))
    (sSeq (sAsg (eOp oAdd (eVar 6) (eCall C "_law_one" (aCons (eVar 0) (aCons (eLst (aCons (eC (.int 0)) (aCons (eCall C "_law_next" (aCons (eVar 0) (aCons (eC (.int 4)) aNil))) (aCons (eVar 2) aNil)))) aNil)))) (gN 8))
    (sSeq (sExpr (eAppend (eVar 4) (eTup (aCons (eVar 6) (aCons (eBlt gMax2 (aCons (eVar 7) (aCons (eUn oNeg (eOp oPow (eC (.int 10)) (eC (.int 12)))) aNil))) (aCons (eBlt gMin2 (aCons (eVar 8) (aCons (eOp oPow (eC (.int 10)) (eC (.int 12))) aNil))) aNil))))))
    sNil))))
noncomputable def b_l_spots (C : Orc) : DS := (sSeq (sAsg (eCall C "_law_one" (aCons (eVar 0) (aCons (eLst (aCons (eC (.int 3)) (aCons (eC (.int 50)) (aCons (eOp oPow (eC (.int 10)) (eC (.int 9))) aNil)))) aNil))) (gN 2))
    (sSeq (sAsg (eCall C "_law_one" (aCons (eVar 0) (aCons (eLst (aCons (eC (.int 0)) (aCons (eC (.int 0)) (aCons (eOp oSub (eOp oPow (eC (.int 10)) (eC (.int 12))) (eVar 2)) aNil)))) aNil))) (gN 3))
    (sSeq (sAsg (eMLst aNil) (gN 4))
    (sSeq (sFor (iRng (aCons (eOp oAdd (eC (.int 1)) (eCall C "_law_next" (aCons (eVar 0) (aCons (eVar 1) aNil)))) aNil)) (gN 5) (b_l_spots_f1 C))
    (sSeq (sRet (eVar 4))
    sNil)))))
-- lib _law_cord 81dd57 b_l_cord 2 8
noncomputable def b_l_cord (C : Orc) : DS := (sSeq (sAsg (eCall C "_law_pair" (aCons (eVar 0) (aCons (eBlt gLen (aCons (eVar 1) aNil)) aNil))) (gT 2 (gsCons (gN 2) (gsCons (gN 3) gsNil))))
    (sSeq (sAsg (eOp oSub (eOp oIx (eVar 1) (eVar 3)) (eOp oIx (eVar 1) (eVar 2))) (gN 4))
    (sSeq (sAsg (eOp oAdd (eC (.int 1)) (eCall C "_law_amount" (aCons (eVar 0) (aCons (eCall C "_law_one" (aCons (eVar 0) (aCons (eLst (aCons (eC (.int 2)) (aCons (eC (.int 9)) (aCons (eOp oSub (eOp oMul (eC (.int 4)) (eOp oPow (eC (.int 10)) (eC (.int 7)))) (eC (.int 1))) aNil)))) aNil))) aNil)))) (gN 5))
    (sSeq (sAsg (eOp oAdd (eVar 4) (eCall C "_law_one" (aCons (eVar 0) (aCons (eLst (aCons (eC (.int 0)) (aCons (eC (.int 0)) (aCons (eC (.int 1)) (aCons (eUn oNeg (eC (.int 1))) (aCons (eCall C "_law_next" (aCons (eVar 0) (aCons (eC (.int 40)) aNil))) (aCons (eOp oSub (eC (.int 0)) (eCall C "_law_next" (aCons (eVar 0) (aCons (eC (.int 40)) aNil)))) aNil))))))) aNil)))) (gN 6))
    (sSeq (sAsg (eBlt gMax2 (aCons (eOp oMul (eUn oNeg (eC (.int 2))) (eOp oPow (eC (.int 10)) (eC (.int 12)))) (aCons (eBlt gMin2 (aCons (eOp oMul (eC (.int 2)) (eOp oPow (eC (.int 10)) (eC (.int 12)))) (aCons (eVar 6) aNil))) aNil))) (gN 6))
    (sSeq (sAsg (eCall C "_law_one" (aCons (eVar 0) (aCons (eLst (aCons (eC (.int 0)) (aCons (eVar 5) (aCons (eCall C "_law_next" (aCons (eVar 0) (aCons (eOp oAdd (eVar 5) (eC (.int 1))) aNil))) aNil)))) aNil))) (gN 7))
    (sSeq (sIf (bVal (eOp oNe (eVar 4) (eVar 6))) (sSeq (sAsg (eOp oMul (eVar 5) (eBlt gInt (aCons (eOp oGt (eVar 4) (eVar 6)) aNil))) (gN 7))
    sNil) sNil)
    (sSeq (sRet (eTup (aCons (eTup (aCons (eVar 2) (aCons (eVar 3) (aCons (eVar 6) (aCons (eVar 5) aNil))))) (aCons (eVar 7) aNil))))
    sNil))))))))
-- lib _law_bar d0dd27 b_l_bar 2 7
noncomputable def b_l_bar (C : Orc) : DS := (sSeq (sAsg (eCall C "_law_pair" (aCons (eVar 0) (aCons (eBlt gLen (aCons (eVar 1) aNil)) aNil))) (gT 2 (gsCons (gN 2) (gsCons (gN 3) gsNil))))
    (sSeq (sAsg (eOp oSub (eOp oIx (eVar 1) (eVar 3)) (eOp oIx (eVar 1) (eVar 2))) (gN 4))
    (sSeq (sAsg (eBlt gMin2 (aCons (eOp oMul (eC (.int 2)) (eOp oPow (eC (.int 10)) (eC (.int 12)))) (aCons (eOp oAdd (eVar 4) (eCall C "_law_one" (aCons (eVar 0) (aCons (eLst (aCons (eC (.int 0)) (aCons (eC (.int 0)) (aCons (eCall C "_law_next" (aCons (eVar 0) (aCons (eC (.int 5)) aNil))) aNil)))) aNil)))) aNil))) (gN 5))
    (sSeq (sAsg (eCall C "_law_one" (aCons (eVar 0) (aCons (eLst (aCons (eC (.int 0)) (aCons (eCall C "_law_next" (aCons (eVar 0) (aCons (eC (.int 3)) aNil))) (aCons (eCall C "_law_next" (aCons (eVar 0) (aCons (eOp oPow (eC (.int 10)) (eC (.int 7))) aNil))) aNil)))) aNil))) (gN 6))
    (sSeq (sRet (eTup (aCons (eTup (aCons (eVar 2) (aCons (eVar 3) (aCons (eVar 5) aNil)))) (aCons (eOp oMul (eVar 6) (eBlt gInt (aCons (eOp oEq (eVar 4) (eVar 5)) aNil))) aNil))))
    sNil)))))
-- lib _law_balanced f95edc b_l_balanced 2 20
noncomputable def b_l_balanced_f1 (C : Orc) : DS := (sSeq (sExpr (eAppend (eVar 5) (eCall C "_law_cord" (aCons (eVar 0) (aCons (eVar 3) aNil)))))
    sNil)
noncomputable def b_l_balanced_f2 (C : Orc) : DS := (sSeq (sExpr (eAppend (eVar 6) (eCall C "_law_bar" (aCons (eVar 0) (aCons (eVar 3) aNil)))))
    sNil)
noncomputable def b_l_balanced_f3 (C : Orc) : DS := (sSeq (sAsg (eOp oMul (eCall C "_law_amount" (aCons (eVar 0) (aCons (eOp oPow (eC (.int 10)) (eC (.int 6))) aNil))) (eBlt gInt (aCons (eOp oEq (eCall C "_law_next" (aCons (eVar 0) (aCons (eC (.int 2)) aNil))) (eC (.int 0))) aNil))) (gN 12))
    (sSeq (sAsg (eOp oSub (eOp oMul (eVar 12) (eBlt gInt (aCons (eOp oEq (eVar 9) (eVar 11)) aNil))) (eOp oMul (eVar 12) (eBlt gInt (aCons (eOp oEq (eVar 9) (eVar 10)) aNil)))) (gN 13))
    (sSeq (sAsg (eBlt gSum (aCons (eLc [15, 16] (iSeq (eOp oAdd (eVar 5) (eVar 6))) (gT 2 (gsCons (gN 15) (gsCons (gN 16) gsNil))) (bVal (eOp oEq (eOp oIx (eVar 15) (eC (.int 0))) (eVar 7))) (eVar 16)) aNil)) (gN 14))
    (sSeq (sAsg (eOp oSub (eVar 14) (eBlt gSum (aCons (eLc [15, 16] (iSeq (eOp oAdd (eVar 5) (eVar 6))) (gT 2 (gsCons (gN 15) (gsCons (gN 16) gsNil))) (bVal (eOp oEq (eOp oIx (eVar 15) (eC (.int 1))) (eVar 7))) (eVar 16)) aNil))) (gN 14))
    (sSeq (sExpr (eAppend (eVar 8) (eTup (aCons (eVar 10) (aCons (eVar 11) (aCons (eOp oSub (eVar 13) (eVar 14)) aNil))))))
    sNil)))))
noncomputable def b_l_balanced (C : Orc) : DS := (sSeq (sAsg (eCall C "_law_spots" (aCons (eVar 0) (aCons (eVar 1) aNil))) (gN 2))
    (sSeq (sAsg (eBlt gTuple (aCons (eLc [4] (iSeq (eVar 2)) (gN 4) bYes (eOp oIx (eVar 4) (eC (.int 0)))) aNil)) (gN 3))
    (sSeq (sPar2 5 6 (aCons (eMLst aNil) (aCons (eMLst aNil) aNil)))
    (sSeq (sIf (bVal (eOp oGt (eBlt gLen (aCons (eVar 3) aNil)) (eC (.int 1)))) (sSeq (sFor (iRng (aCons (eOp oIx (eLst (aCons (eC (.int 0)) (aCons (eC (.int 1)) (aCons (eC (.int 2)) (aCons (eC (.int 4)) (aCons (eC (.int 7)) (aCons (eC (.int 12)) aNil))))))) (eCall C "_law_next" (aCons (eVar 0) (aCons (eC (.int 6)) aNil)))) aNil)) (gN 7) (b_l_balanced_f1 C))
    (sSeq (sFor (iRng (aCons (eOp oIx (eLst (aCons (eC (.int 0)) (aCons (eC (.int 0)) (aCons (eC (.int 1)) (aCons (eC (.int 2)) (aCons (eC (.int 8)) aNil)))))) (eCall C "_law_next" (aCons (eVar 0) (aCons (eC (.int 5)) aNil)))) aNil)) (gN 7) (b_l_balanced_f2 C))
    sNil)) sNil)
    (sSeq (sAsg (eMLst aNil) (gN 8))
    (sSeq (sFor (iEn (eVar 2)) (gT 2 (gsCons (gN 7) (gsCons (gT 3 (gsCons (gN 9) (gsCons (gN 10) (gsCons (gN 11) gsNil)))) gsNil))) (b_l_balanced_f3 C))
    (sSeq (sAsg (eTup (aCons (eBlt gTuple (aCons (eVar 8) aNil)) (aCons (eBlt gTuple (aCons (eLc [18, 16] (iSeq (eVar 5)) (gT 2 (gsCons (gN 18) (gsCons (gN 16) gsNil))) bYes (eVar 18)) aNil)) (aCons (eBlt gTuple (aCons (eLc [19, 16] (iSeq (eVar 6)) (gT 2 (gsCons (gN 19) (gsCons (gN 16) gsNil))) bYes (eVar 19)) aNil)) aNil)))) (gN 17))
    (sSeq (sRet (eLst (aCons (eVar 17) (aCons (eVar 3) (aCons (eTup (aCons (eBlt gTuple (aCons (eLc [18, 16] (iSeq (eVar 5)) (gT 2 (gsCons (gN 18) (gsCons (gN 16) gsNil))) bYes (eVar 16)) aNil)) (aCons (eBlt gTuple (aCons (eLc [19, 16] (iSeq (eVar 6)) (gT 2 (gsCons (gN 19) (gsCons (gN 16) gsNil))) bYes (eVar 16)) aNil)) aNil))) aNil)))))
    sNil))))))))
/-! ### loops over a cell that stays -/
theorem for_relC {α : Type} {chk : Sto → Bool} {tg : DG} {body : DS} (f : α → D) (P : List α → En → Sto → Prop) (hc : ∀ xs env st, P xs env st → chk st = true)
    (step : ∀ x xs env st, P (x :: xs) env st → ∃ e s, tg (f x) env st = some (e, s) ∧ ∃ e2 s2, body e s = some (.nx e2, s2) ∧ P xs e2 s2) :
    ∀ xs env st, P xs env st → ∃ env' st', forL chk tg body (xs.map f) env st = some (.nx env', st') ∧ P [] env' st'
  | [], env, st, h => ⟨env, st, by
      unfold forL
      rw [List.map_nil]
      simp only [hc _ _ _ h, if_true], h⟩
  | x :: xs, env, st, h => by
    obtain ⟨e, s, h1, e2, s2, h2, h3⟩ := step x xs env st h
    obtain ⟨env', st', h4, h5⟩ := for_relC f P hc step xs e2 s2 h3
    refine ⟨env', st', ?_, h5⟩
    rw [List.map_cons]
    unfold forL
    simp only [hc _ _ _ h, if_true, h1, Option.bind_some, h2, h4]
theorem lc_mapC {α : Type} {chk : Sto → Bool} {tg : DG} {ifs : DB} {elt : DE} {env : En} {s : Sto} (f g : α → D) (hc : chk s = true) : ∀ (xs : List α), (∀ x ∈ xs, ∃ e, tg (f x) env s = some (e, s) ∧ ifs e s = some (true, s) ∧ elt e s = some (g x, s)) → lcL chk tg ifs elt env (xs.map f) s = some (xs.map g, s)
  | [], _ => by simp [lcL, hc]
  | x :: xs, h => by
    obtain ⟨e, h1, h2, h3⟩ := h x List.mem_cons_self
    have ih := lc_mapC f g hc xs fun y hy => h y (List.mem_cons_of_mem _ hy)
    rw [List.map_cons]
    unfold lcL
    simp only [hc, if_true, h1, Option.bind_some, h2, h3, ih, Option.map_some, List.map_cons]
theorem p9 {t : Sto} : oPow t (.int 10) (.int 9) = some (.int 1000000000) := rfl
theorem p12 {t : Sto} : oPow t (.int 10) (.int 12) = some (.int 1000000000000) := rfl
theorem p6 {t : Sto} : oPow t (.int 10) (.int 6) = some (.int 1000000) := rfl
theorem p7 {t : Sto} : oPow t (.int 10) (.int 7) = some (.int 10000000) := rfl
theorem p14 {t : Sto} : oPow t (.int 10) (.int 14) = some (.int 100000000000000) := rfl
/-! ### spots -/
structure Spot where
  p : Int
  lo : Int
  hi : Int
def spotD (q : Spot) : D := .tup [.int q.p, .int q.lo, .int q.hi]
def SpOk (q : Spot) : Prop := -1000000000000 ≤ q.lo ∧ q.lo ≤ q.p ∧ q.p ≤ q.hi ∧ q.hi ≤ 1000000000000
section
variable {F : String → Option Fn}
theorem ints_mem {x : D} {xs : List Int} (h : x ∈ xs.map D.int) : ∃ z ∈ xs, x = .int z := by
  obtain ⟨z, hz, e⟩ := List.mem_map.mp h
  exact ⟨z, hz, e.symm⟩
theorem spots_spec (hN : F "_law_next" = some ⟨2, 9, b_l_next⟩ := by first | assumption | rfl) (hA : F "_law_amount" = some ⟨2, 3, b_l_amount⟩ := by first | assumption | rfl) (hO : F "_law_one" = some ⟨2, 2, b_l_one⟩ := by first | assumption | rfl) (hS : F "_law_spots" = some ⟨2, 9, b_l_spots⟩ := by first | assumption | rfl)
    (n : Nat) {s : Dr} {b : Int} (hs : DOk s b) (hb : 100 ≤ b) (o : Sto) {most : Int} (m1 : 1 ≤ most) (m2 : most ≤ 8) :
    ∃ (qs : List Spot) (s' : Dr), callN F (n + 3) "_law_spots" [.loc 1, .int most] (mkSt s o) = some (.loc (o.length + 2), mkSt s' (o ++ [qs.map spotD])) ∧ (1 ≤ qs.length ∧ qs.length ≤ 8 ∧ (qs.length : Int) ≤ most) ∧ (∀ q ∈ qs, SpOk q) ∧ DOk s' (b - 100) := by
  have dr := draws_of hN (n + 1)
  have on := ones_of hN hO n
  have am := amounts_of hN hA n
  obtain ⟨x, s1, k1, hx, d1⟩ := on.l hs o [.int 3, .int 50, .int 1000000000] (by omega) (by simp) (by simp)
  obtain ⟨size, rfl, z0, z1⟩ : ∃ t : Int, x = .int t ∧ 3 ≤ t ∧ t ≤ 1000000000 := by
    simp only [List.mem_cons, List.not_mem_nil, or_false] at hx
    rcases hx with rfl | rfl | rfl <;> exact ⟨_, rfl, by omega, by omega⟩
  obtain ⟨x, s2, k2, hx, d2⟩ := on.l d1 o [.int 0, .int 0, .int (1000000000000 - size)] (by omega) (by simp) (by simp)
  obtain ⟨far, rfl, f0, f1⟩ : ∃ t : Int, x = .int t ∧ 0 ≤ t ∧ t ≤ 1000000000000 - size := by
    simp only [List.mem_cons, List.not_mem_nil, or_false] at hx
    rcases hx with rfl | rfl | rfl <;> exact ⟨_, rfl, by omega, by omega⟩
  obtain ⟨c, s3, k3, c0, c1, d3⟩ := dr.n d2 (o ++ [[]]) most (by omega) (by omega) (by omega)
  have rg := e_krng1 (s := mkSt s3 (o ++ [[]])) (j := 1 + c) (by omega) (by omega)
  obtain ⟨env', st', k4, s4, qs, v5, v6, v7, v8, rfl, rfl, hq, ok, d4⟩ := for_rel (tg := gN 5) (body := b_l_spots_f1 (callN F (n + 2))) (fun i : Nat => D.int (0 + (i : Int)))
    (fun ys env st => ∃ (s : Dr) (qs : List Spot) (v5 v6 v7 v8 : Option D), env = [some (.loc 1), some (.int most), some (.int size), some (.int far), some (.loc (o.length + 2)), v5, v6, v7, v8] ∧ st = mkSt s (o ++ [qs.map spotD]) ∧ qs.length + ys.length = (1 + c).toNat ∧ (∀ q ∈ qs, SpOk q) ∧ DOk s (b - 97 + 9 * ys.length))
    (by
      rintro i ys env st ⟨s, qs, v5, v6, v7, v8, rfl, rfl, hl, ok, d⟩
      refine ⟨_, _, rfl, ?_⟩
      rw [List.length_cons] at hl d
      obtain ⟨x, s1, k1, hx, d1⟩ := on.l d (o ++ [qs.map spotD]) [.int 1, .int 1, .int (-1)] (by omega) (by simp) (by simp)
      obtain ⟨sg, rfl, hsg⟩ : ∃ t : Int, x = .int t ∧ (t = 1 ∨ t = -1) := by
        simp only [List.mem_cons, List.not_mem_nil, or_false] at hx
        rcases hx with rfl | rfl | rfl <;> exact ⟨_, rfl, by omega⟩
      obtain ⟨am1, s2, k2, a0, a1, d2⟩ := am.n d1 (o ++ [qs.map spotD]) size (by omega) (by omega) (by omega)
      obtain ⟨r1, s3, k3, r10, r11, d3⟩ := dr.n d2 (o ++ [qs.map spotD]) 4 (by omega) (by omega) (by omega)
      obtain ⟨x, s4, k4, hx, d4⟩ := on.l d3 (o ++ [qs.map spotD]) [.int 0, .int r1, .int size] (by omega) (by simp) (by simp)
      obtain ⟨lw, rfl, lw0⟩ : ∃ t : Int, x = .int t ∧ 0 ≤ t := by
        simp only [List.mem_cons, List.not_mem_nil, or_false] at hx
        rcases hx with rfl | rfl | rfl <;> exact ⟨_, rfl, by omega⟩
      obtain ⟨r2, s5, k5, r20, r21, d5⟩ := dr.n d4 (o ++ [qs.map spotD]) 4 (by omega) (by omega) (by omega)
      obtain ⟨x, s6, k6, hx, d6⟩ := on.l d5 (o ++ [qs.map spotD]) [.int 0, .int r2, .int size] (by omega) (by simp) (by simp)
      obtain ⟨hw, rfl, hw0⟩ : ∃ t : Int, x = .int t ∧ 0 ≤ t := by
        simp only [List.mem_cons, List.not_mem_nil, or_false] at hx
        rcases hx with rfl | rfl | rfl <;> exact ⟨_, rfl, by omega⟩
      have m1 := o_mul (s := mkSt s1 (o ++ [qs.map spotD])) (mulOk_l (a := far) (b := sg) (by omega) (by omega))
      have ap := app_at (s := s6) (o := o) (l := [qs.map spotD]) (d := .tup [.int (far * sg + am1), .int (max (far * sg + am1 - lw) (-1000000000000)), .int (min (far * sg + am1 + hw) 1000000000000)]) (n := o.length + 2) (k := 0) (a := qs.map spotD) rfl rfl (fits_small (by rw [List.length_map]; omega))
      simp only [b_l_spots_f1]
      repeat (first | walk_at "ev" | simp only [k1, k2, k3, k4, k5, k6, m1, p12, ap])
      refine ⟨_, _, rfl, s6, qs ++ [⟨far * sg + am1, max (far * sg + am1 - lw) (-1000000000000), min (far * sg + am1 + hw) 1000000000000⟩], _, _, _, _, rfl, ?_, by rw [List.length_append]; simp; omega, ?_, d6.mono (by omega)⟩
      · rw [List.map_append]
        rfl
      · intro q hq
        rcases List.mem_append.mp hq with z | z
        · exact ok q z
        · rw [List.mem_singleton.mp z]
          have : far * sg = far ∨ far * sg = -far := by rcases hsg with rfl | rfl <;> omega
          unfold SpOk
          simp only []
          omega)
    (List.range (1 + c).toNat) [some (.loc 1), some (.int most), some (.int size), some (.int far), some (.loc (o.length + 2)), none, none, none, none] (mkSt s3 (o ++ [[]])) ⟨s3, [], none, none, none, none, rfl, rfl, by rw [List.length_range]; simp, fun q h => by simp at h, d3.mono (by rw [List.length_range]; omega)⟩
  rw [List.length_nil] at hq d4
  refine ⟨qs, s4, ?_, ⟨by omega, by omega, by omega⟩, ok, d4.mono (by omega)⟩
  have k4 : forL always (gN 5) (b_l_spots_f1 (callN F (n + 2))) (rangeD 0 (1 + c).toNat) _ _ = _ := k4
  rw [call_eq hS rfl]
  have e0 : startE 9 [.loc 1, .int most] = [some (.loc 1), some (.int most), none, none, none, none, none, none, none] := rfl
  have ml : (mkSt s2 o).length = o.length + 2 := rfl
  simp only [e0, b_l_spots]
  repeat (first | walk_at "ev" | simp only [k1, k2, p9, p12, ml, mk_ap, k3, rg, k4, e_kfnR])
/-! ### cords and bars with their tensions -/
/-- a tension that fits a cord -/
def TC (ps : List Int) (c : Cord) (t : Int) : Prop := 0 ≤ t ∧ t ≤ c.w ∧ (gap ps c.a c.b < c.len → t = 0) ∧ (c.len < gap ps c.a c.b → t = c.w)
def TB (ps : List Int) (c : Bar) (t : Int) : Prop := 0 ≤ t ∧ t ≤ 10000000 ∧ gap ps c.a c.b ≤ c.len ∧ (gap ps c.a c.b < c.len → t = 0)
def CVal (n : Nat) (c : Cord) : Prop := CIx n c ∧ c.a ≠ c.b ∧ -2000000000000 ≤ c.len ∧ c.len ≤ 2000000000000 ∧ 1 ≤ c.w ∧ c.w ≤ 40000000
def BVal (n : Nat) (c : Bar) : Prop := BIx n c ∧ c.a ≠ c.b ∧ -2000000000000 ≤ c.len ∧ c.len ≤ 2000000000000
def PsIn (ps : List Int) : Prop := ∀ p ∈ ps, -1000000000000 ≤ p ∧ p ≤ 1000000000000
theorem gap_in {ps : List Int} {i j : Int} (h : PsIn ps) (i0 : 0 ≤ i) (i1 : i < ps.length) (j0 : 0 ≤ j) (j1 : j < ps.length) : -2000000000000 ≤ gap ps i j ∧ gap ps i j ≤ 2000000000000 := by
  have a := h _ (pat_mem i0 i1)
  have b := h _ (pat_mem j0 j1)
  unfold gap
  omega
theorem cordT_spec (hN : F "_law_next" = some ⟨2, 9, b_l_next⟩ := by first | assumption | rfl) (hA : F "_law_amount" = some ⟨2, 3, b_l_amount⟩ := by first | assumption | rfl) (hP : F "_law_pair" = some ⟨2, 3, b_l_pair⟩ := by first | assumption | rfl) (hO : F "_law_one" = some ⟨2, 2, b_l_one⟩ := by first | assumption | rfl) (hS : F "_law_cord" = some ⟨2, 8, b_l_cord⟩ := by first | assumption | rfl)
    (n : Nat) {s : Dr} {b : Int} (hs : DOk s b) (hb : 12 ≤ b) (o : Sto) {ps : List Int} (l1 : 1 < ps.length) (l2 : ps.length ≤ 8) (hp : PsIn ps) :
    ∃ (c : Cord) (t : Int) (s' : Dr), callN F (n + 3) "_law_cord" [.loc 1, plcD ps] (mkSt s o) = some (.tup [cordD c, .int t], mkSt s' o) ∧ CVal ps.length c ∧ TC ps c t ∧ DOk s' (b - 12) := by
  have dr := draws_of hN (n + 1)
  have on := ones_of hN hO n
  have am := amounts_of hN hA n
  have pr := pairs_of hN hP n
  obtain ⟨i, j, s1, k1, i0, i1, j0, j1, ij, d1⟩ := pr.n hs o (ps.length : Int) (by omega) (by omega) (by omega)
  have ei := pat_at (ps := ps) i0 i1
  have ej := pat_at (ps := ps) j0 j1
  obtain ⟨g0, g1⟩ := gap_in hp i0 i1 j0 j1
  obtain ⟨x, s2, k2, hx, d2⟩ := on.l d1 o [.int 2, .int 9, .int 39999999] (by omega) (by simp) (by simp)
  obtain ⟨sz, rfl, z0, z1⟩ : ∃ t : Int, x = .int t ∧ 0 ≤ t ∧ t ≤ 39999999 := by
    simp only [List.mem_cons, List.not_mem_nil, or_false] at hx
    rcases hx with rfl | rfl | rfl <;> exact ⟨_, rfl, by omega, by omega⟩
  obtain ⟨w, s3, k3, w0, w1, d3⟩ := am.n d2 o sz (by omega) z0 (by omega)
  obtain ⟨r1, s4, k4, r10, r11, d4⟩ := dr.n d3 o 40 (by omega) (by omega) (by omega)
  obtain ⟨r2, s5, k5, r20, r21, d5⟩ := dr.n d4 o 40 (by omega) (by omega) (by omega)
  obtain ⟨x, s6, k6, hx, d6⟩ := on.l d5 o [.int 0, .int 0, .int 1, .int (-1), .int r1, .int (0 - r2)] (by omega) (by simp) (by simp)
  obtain ⟨df, rfl, f0, f1⟩ : ∃ t : Int, x = .int t ∧ -40 ≤ t ∧ t ≤ 40 := by
    simp only [List.mem_cons, List.not_mem_nil, or_false] at hx
    rcases hx with rfl | rfl | rfl | rfl | rfl | rfl <;> exact ⟨_, rfl, by omega, by omega⟩
  obtain ⟨r3, s7, k7, r30, r31, d7⟩ := dr.n d6 o (1 + w + 1) (by omega) (by omega) (by omega)
  obtain ⟨x, s8, k8, hx, d8⟩ := on.l d7 o [.int 0, .int (1 + w), .int r3] (by omega) (by simp) (by simp)
  obtain ⟨tn, rfl, t0, t1⟩ : ∃ t : Int, x = .int t ∧ 0 ≤ t ∧ t ≤ 1 + w := by
    simp only [List.mem_cons, List.not_mem_nil, or_false] at hx
    rcases hx with rfl | rfl | rfl <;> exact ⟨_, rfl, by omega, by omega⟩
  have m1 : ∀ t, oMul t (.int 4) (.int 10000000) = some (.int 40000000) := fun t => o_mul (mulOk_l (by decide) (by decide))
  have m2 : ∀ t, oMul t (.int (-2)) (.int 1000000000000) = some (.int (-2000000000000)) := fun t => o_mul (mulOk_l (by decide) (by decide))
  have m3 : ∀ t, oMul t (.int 2) (.int 1000000000000) = some (.int 2000000000000) := fun t => o_mul (mulOk_l (by decide) (by decide))
  have hG : pAt ps j - pAt ps i = gap ps i j := rfl
  have h4 : (40000000 : Int) - 1 = 39999999 := by decide
  generalize hlen : max (-2000000000000) (min 2000000000000 (gap ps i j + df)) = ln
  have ln0 : -2000000000000 ≤ ln ∧ ln ≤ 2000000000000 := by omega
  rw [call_eq hS rfl]
  have e0 : startE 8 [.loc 1, plcD ps] = [some (.loc 1), some (plcD ps), none, none, none, none, none, none] := rfl
  simp only [e0, b_l_cord]
  repeat (first | walk_at "ev" | simp only [k1, e_gtT, if_true, reduceIte, Nat.reduceAdd, ei, ej, hG, p7, m1, h4, k2, k3, k4, k5, k6, p12, m2, m3, hlen, k7, k8])
  by_cases he : gap ps i j = ln
  · repeat (first | walk_at "ev" | simp only [decide_eq_true he, Bool.not_true, e_kfnR])
    exact ⟨⟨i, j, ln, 1 + w⟩, tn, s8, rfl, ⟨⟨i0, i1, j0, j1⟩, ij, ln0.1, ln0.2, by simp only []; omega, by simp only []; omega⟩, ⟨t0, t1, fun h => by simp only [] at h; omega, fun h => by simp only [] at h; omega⟩, d8.mono (by omega)⟩
  · by_cases hg : ln < gap ps i j
    · have m4 := o_mul (s := mkSt s8 o) (mulOk_l (a := 1 + w) (b := 1) (by omega) (by omega))
      repeat (first | walk_at "ev" | simp only [decide_eq_false he, Bool.not_false, decide_eq_true hg, if_true, m4, e_kfnR])
      exact ⟨⟨i, j, ln, 1 + w⟩, (1 + w) * 1, s8, rfl, ⟨⟨i0, i1, j0, j1⟩, ij, ln0.1, ln0.2, by simp only []; omega, by simp only []; omega⟩, ⟨by omega, by simp only []; omega, fun h => by simp only [] at h; omega, fun h => by simp only []; omega⟩, d8.mono (by omega)⟩
    · have m4 := o_mul (s := mkSt s8 o) (mulOk_l (a := 1 + w) (b := 0) (by omega) (by omega))
      repeat (first | walk_at "ev" | simp only [decide_eq_false he, Bool.not_false, decide_eq_false hg, if_false, Bool.false_eq_true, m4, e_kfnR])
      exact ⟨⟨i, j, ln, 1 + w⟩, (1 + w) * 0, s8, rfl, ⟨⟨i0, i1, j0, j1⟩, ij, ln0.1, ln0.2, by simp only []; omega, by simp only []; omega⟩, ⟨by omega, by simp only []; omega, fun h => by omega, fun h => by simp only [] at h; omega⟩, d8.mono (by omega)⟩
theorem barT_spec (hN : F "_law_next" = some ⟨2, 9, b_l_next⟩ := by first | assumption | rfl) (hP : F "_law_pair" = some ⟨2, 3, b_l_pair⟩ := by first | assumption | rfl) (hO : F "_law_one" = some ⟨2, 2, b_l_one⟩ := by first | assumption | rfl) (hS : F "_law_bar" = some ⟨2, 7, b_l_bar⟩ := by first | assumption | rfl)
    (n : Nat) {s : Dr} {b : Int} (hs : DOk s b) (hb : 12 ≤ b) (o : Sto) {ps : List Int} (l1 : 1 < ps.length) (l2 : ps.length ≤ 8) (hp : PsIn ps) :
    ∃ (c : Bar) (t : Int) (s' : Dr), callN F (n + 3) "_law_bar" [.loc 1, plcD ps] (mkSt s o) = some (.tup [barD c, .int t], mkSt s' o) ∧ BVal ps.length c ∧ TB ps c t ∧ DOk s' (b - 12) := by
  have dr := draws_of hN (n + 1)
  have on := ones_of hN hO n
  have pr := pairs_of hN hP n
  obtain ⟨i, j, s1, k1, i0, i1, j0, j1, ij, d1⟩ := pr.n hs o (ps.length : Int) (by omega) (by omega) (by omega)
  have ei := pat_at (ps := ps) i0 i1
  have ej := pat_at (ps := ps) j0 j1
  obtain ⟨g0, g1⟩ := gap_in hp i0 i1 j0 j1
  obtain ⟨r1, s2, k2, r10, r11, d2⟩ := dr.n d1 o 5 (by omega) (by omega) (by omega)
  obtain ⟨x, s3, k3, hx, d3⟩ := on.l d2 o [.int 0, .int 0, .int r1] (by omega) (by simp) (by simp)
  obtain ⟨df, rfl, f0, f1⟩ : ∃ t : Int, x = .int t ∧ 0 ≤ t ∧ t ≤ 5 := by
    simp only [List.mem_cons, List.not_mem_nil, or_false] at hx
    rcases hx with rfl | rfl | rfl <;> exact ⟨_, rfl, by omega, by omega⟩
  obtain ⟨r2, s4, k4, r20, r21, d4⟩ := dr.n d3 o 3 (by omega) (by omega) (by omega)
  obtain ⟨r3, s5, k5, r30, r31, d5⟩ := dr.n d4 o 10000000 (by omega) (by omega) (by omega)
  obtain ⟨x, s6, k6, hx, d6⟩ := on.l d5 o [.int 0, .int r2, .int r3] (by omega) (by simp) (by simp)
  obtain ⟨tn, rfl, t0, t1⟩ : ∃ t : Int, x = .int t ∧ 0 ≤ t ∧ t ≤ 10000000 := by
    simp only [List.mem_cons, List.not_mem_nil, or_false] at hx
    rcases hx with rfl | rfl | rfl <;> exact ⟨_, rfl, by omega, by omega⟩
  have m3 : ∀ t, oMul t (.int 2) (.int 1000000000000) = some (.int 2000000000000) := fun t => o_mul (mulOk_l (by decide) (by decide))
  have hG : pAt ps j - pAt ps i = gap ps i j := rfl
  generalize hlen : min 2000000000000 (gap ps i j + df) = ln
  have ln0 : -2000000000000 ≤ ln ∧ ln ≤ 2000000000000 ∧ gap ps i j ≤ ln := by omega
  rw [call_eq hS rfl]
  have e0 : startE 7 [.loc 1, plcD ps] = [some (.loc 1), some (plcD ps), none, none, none, none, none] := rfl
  simp only [e0, b_l_bar]
  by_cases he : gap ps i j = ln
  · have m4 := o_mul (s := mkSt s6 o) (mulOk_l (a := tn) (b := 1) (by omega) (by omega))
    repeat (first | walk_at "ev" | simp only [k1, e_gtT, if_true, reduceIte, Nat.reduceAdd, ei, ej, hG, p12, m3, k2, k3, hlen, k4, p7, k5, k6, decide_eq_true he, m4, e_kfnR])
    exact ⟨⟨i, j, ln⟩, tn * 1, s6, rfl, ⟨⟨i0, i1, j0, j1⟩, ij, ln0.1, ln0.2.1⟩, ⟨by omega, by omega, ln0.2.2, fun h => by simp only [] at h; omega⟩, d6.mono (by omega)⟩
  · have m4 := o_mul (s := mkSt s6 o) (mulOk_l (a := tn) (b := 0) (by omega) (by omega))
    repeat (first | walk_at "ev" | simp only [k1, e_gtT, if_true, reduceIte, Nat.reduceAdd, ei, ej, hG, p12, m3, k2, k3, hlen, k4, p7, k5, k6, decide_eq_false he, if_false, Bool.false_eq_true, m4, e_kfnR])
    exact ⟨⟨i, j, ln⟩, tn * 0, s6, rfl, ⟨⟨i0, i1, j0, j1⟩, ij, ln0.1, ln0.2.1⟩, ⟨by omega, by omega, ln0.2.2, fun h => by omega⟩, d6.mono (by omega)⟩
/-! ### cells read -/
section
variable {s : Dr} {o l : Sto} {n k : Nat} {a : List D}
theorem un_at (hn : n = o.length + 2 + k) (ha : l[k]? = some a) : unchanged n a (mkSt s (o ++ l)) = true := unchanged_iff.mpr (by rw [mk_get hn, ha])
theorem src_at (hn : n = o.length + 2 + k) (ha : l[k]? = some a) : srcOf (mkSt s (o ++ l)) (.loc n) = some (unchanged n a, a) := by
  show ((mkSt s (o ++ l))[n]?).map _ = _
  rw [mk_get hn, ha]
  rfl
theorem en_at (hn : n = o.length + 2 + k) (ha : l[k]? = some a) : enSrc (mkSt s (o ++ l)) (.loc n) = some (unchanged n a, enD 0 a) := by
  unfold enSrc
  show (((mkSt s (o ++ l))[n]?).map _).map _ = _
  rw [mk_get hn, ha]
  rfl
theorem add_at {n2 k2 : Nat} {a2 : List D} (hn : n = o.length + 2 + k) (ha : l[k]? = some a) (hn2 : n2 = o.length + 2 + k2) (ha2 : l[k2]? = some a2) (hf : fits (a.length + a2.length) = true) : oAdd (mkSt s (o ++ l)) (.loc n) (.loc n2) = some (.lst (a ++ a2)) := by
  show ((mkSt s (o ++ l))[n]?).bind (fun xs => ((mkSt s (o ++ l))[n2]?).bind fun ys => if fits (xs.length + ys.length) then some (D.lst (xs ++ ys)) else none) = _
  rw [mk_get hn, ha, mk_get hn2, ha2]
  show (if fits (a.length + a2.length) then _ else _) = _
  rw [hf]
  rfl
end
theorem en_zip {α : Type} (f : α → D) : ∀ (xs : List α) (k : Nat), enD k (xs.map f) = (xs.zipIdx k).map fun p => .tup [.int (p.2 : Nat), f p.1]
  | [], _ => rfl
  | x :: xs, k => by
    rw [List.map_cons, List.zipIdx_cons, List.map_cons, ← en_zip f xs (k + 1)]
    rfl
/-! ### the balanced rig -/
inductive Ln where
  | c (x : Cord) (t : Int)
  | b (x : Bar) (t : Int)
def Ln.d : Ln → D
  | .c x t => .tup [cordD x, .int t]
  | .b x t => .tup [barD x, .int t]
def Ln.p : Ln → D
  | .c x _ => cordD x
  | .b x _ => barD x
def Ln.a : Ln → Int
  | .c x _ => x.a
  | .b x _ => x.a
def Ln.z : Ln → Int
  | .c x _ => x.b
  | .b x _ => x.b
def Ln.t : Ln → Int
  | .c _ t => t
  | .b _ t => t
theorem Ln.d_eq (l : Ln) : l.d = .tup [l.p, .int l.t] := by cases l <;> rfl
theorem Ln.ix0 (l : Ln) (s : Sto) : oIx s l.p (.int 0) = some (.int l.a) := by cases l <;> rfl
theorem Ln.ix1 (l : Ln) (s : Sto) : oIx s l.p (.int 1) = some (.int l.z) := by cases l <;> rfl
def lnL (cs : List (Cord × Int)) (bs : List (Bar × Int)) : List Ln := cs.map (fun q => .c q.1 q.2) ++ bs.map fun q => .b q.1 q.2
def ctD (q : Cord × Int) : D := .tup [cordD q.1, .int q.2]
def btD (q : Bar × Int) : D := .tup [barD q.1, .int q.2]
theorem lnL_d (cs : List (Cord × Int)) (bs : List (Bar × Int)) : cs.map ctD ++ bs.map btD = (lnL cs bs).map Ln.d := by
  unfold lnL
  rw [List.map_append, List.map_map, List.map_map]
  rfl
def pullA (ls : List Ln) (k : Int) : Int := ((ls.filter fun l => decide (l.a = k)).map Ln.t).sum
def pullB (ls : List Ln) (k : Int) : Int := ((ls.filter fun l => decide (l.z = k)).map Ln.t).sum
theorem sum_filter {ls : List Ln} (p : Ln → Bool) (h : ∀ l ∈ ls, 0 ≤ l.t ∧ l.t ≤ 40000000) : 0 ≤ ((ls.filter p).map Ln.t).sum ∧ ((ls.filter p).map Ln.t).sum ≤ 40000000 * ls.length := by
  induction ls with
  | nil => simp
  | cons x ls ih =>
    obtain ⟨a, b⟩ := ih fun l hl => h l (List.mem_cons_of_mem _ hl)
    have := h x List.mem_cons_self
    rw [List.filter_cons]
    rw [List.length_cons]
    split
    · rw [List.map_cons, List.sum_cons]
      omega
    · omega
/-- a ring of the balanced rig -/
def RingAt (ls : List Ln) (i : Nat) (q : Spot) (r : Ring) : Prop := r.lo = q.lo ∧ r.hi = q.hi ∧ ∃ x : Int, -1000000 ≤ x ∧ x ≤ 1000000 ∧ r.ld = x - (pullA ls i - pullB ls i) ∧ (0 < x → q.p = q.hi) ∧ (x < 0 → q.p = q.lo)
structure Bal (most : Int) (qs : List Spot) (rs : List Ring) (cs : List (Cord × Int)) (bs : List (Bar × Int)) : Prop where
  q1 : 1 ≤ qs.length
  q2 : qs.length ≤ 8
  q3 : (qs.length : Int) ≤ most
  ok : ∀ q ∈ qs, SpOk q
  c1 : cs.length ≤ 12
  b1 : bs.length ≤ 8
  cord : ∀ q ∈ cs, CVal qs.length q.1 ∧ TC (qs.map Spot.p) q.1 q.2
  bar : ∀ q ∈ bs, BVal qs.length q.1 ∧ TB (qs.map Spot.p) q.1 q.2
  rl : rs.length = qs.length
  ring : ∀ i (h1 : i < qs.length) (h2 : i < rs.length), RingAt (lnL cs bs) i qs[i] rs[i]
theorem psIn {qs : List Spot} (h : ∀ q ∈ qs, SpOk q) : PsIn (qs.map Spot.p) := fun p hp => by
  obtain ⟨q, hq, rfl⟩ := List.mem_map.mp hp
  have := h q hq
  unfold SpOk at this
  omega
set_option maxHeartbeats 16000000 in
theorem rings_loop (hN : F "_law_next" = some ⟨2, 9, b_l_next⟩) (hA : F "_law_amount" = some ⟨2, 3, b_l_amount⟩) (n : Nat) {s : Dr} {b : Int} (hs : DOk s b) (hb : 40 ≤ b) (o : Sto) {qs : List Spot} {cs : List (Cord × Int)} {bs : List (Bar × Int)} (most : D) (ps : D) (v7 : Option D)
    (q2 : qs.length ≤ 8) (c1 : cs.length ≤ 12) (b1 : bs.length ≤ 8) (ht : ∀ l ∈ lnL cs bs, 0 ≤ l.t ∧ l.t ≤ 40000000) :
    ∃ (rs : List Ring) (s' : Dr) (v7' v9 v10 v11 v12 v13 v14 : Option D), forL (unchanged (o.length + 2) (qs.map spotD)) (gT 2 (gsCons (gN 7) (gsCons (gT 3 (gsCons (gN 9) (gsCons (gN 10) (gsCons (gN 11) gsNil)))) gsNil))) (b_l_balanced_f3 (callN F (n + 3))) (enD 0 (qs.map spotD))
      [some (.loc 1), some most, some (.loc (o.length + 2)), some ps, none, some (.loc (o.length + 3)), some (.loc (o.length + 4)), v7, some (.loc (o.length + 5)), none, none, none, none, none, none, none, none, none, none, none] (mkSt s (o ++ [qs.map spotD, cs.map ctD, bs.map btD, []])) =
      some (.nx [some (.loc 1), some most, some (.loc (o.length + 2)), some ps, none, some (.loc (o.length + 3)), some (.loc (o.length + 4)), v7', some (.loc (o.length + 5)), v9, v10, v11, v12, v13, v14, none, none, none, none, none], mkSt s' (o ++ [qs.map spotD, cs.map ctD, bs.map btD, rs.map ringD])) ∧
      rs.length = qs.length ∧ (∀ i (h1 : i < qs.length) (h2 : i < rs.length), RingAt (lnL cs bs) i qs[i] rs[i]) ∧ DOk s' (b - 40) := by
  have dr := draws_of hN (n + 2)
  have am := amounts_of hN hA (n + 1)
  rw [en_zip]
  obtain ⟨env', st', k, s', rs, v7', v9, v10, v11, v12, v13, v14, rfl, rfl, hy, hl, hr, d⟩ := for_relC (chk := unchanged (o.length + 2) (qs.map spotD)) (tg := gT 2 (gsCons (gN 7) (gsCons (gT 3 (gsCons (gN 9) (gsCons (gN 10) (gsCons (gN 11) gsNil)))) gsNil))) (body := b_l_balanced_f3 (callN F (n + 3))) (fun p : Spot × Nat => D.tup [.int (p.2 : Nat), spotD p.1])
    (fun ys env st => ∃ (s : Dr) (rs : List Ring) (v7 v9 v10 v11 v12 v13 v14 : Option D), env = [some (.loc 1), some most, some (.loc (o.length + 2)), some ps, none, some (.loc (o.length + 3)), some (.loc (o.length + 4)), v7, some (.loc (o.length + 5)), v9, v10, v11, v12, v13, v14, none, none, none, none, none] ∧
      st = mkSt s (o ++ [qs.map spotD, cs.map ctD, bs.map btD, rs.map ringD]) ∧ ys = qs.zipIdx.drop rs.length ∧ rs.length ≤ qs.length ∧ (∀ i (h1 : i < qs.length) (h2 : i < rs.length), RingAt (lnL cs bs) i qs[i] rs[i]) ∧ DOk s (b - 40 + 5 * ys.length))
    (by
      rintro ys env st ⟨s, rs, v7, v9, v10, v11, v12, v13, v14, rfl, rfl, _⟩
      exact un_at (k := 0) rfl rfl)
    (by
      rintro p ys env st ⟨s, rs, v7, v9, v10, v11, v12, v13, v14, rfl, rfl, hy, hl, hr, d⟩
      refine ⟨_, _, rfl, ?_⟩
      have hlt : rs.length < qs.zipIdx.length := by
        apply Classical.byContradiction
        intro hn
        rw [List.drop_eq_nil_of_le (by omega)] at hy
        cases hy
      rw [List.drop_eq_getElem_cons hlt] at hy
      obtain ⟨hp, hys⟩ := List.cons.inj hy
      have hlq : rs.length < qs.length := by simpa using hlt
      rw [List.getElem_zipIdx] at hp
      subst hp
      rw [List.length_cons] at d
      obtain ⟨e, s1, k1, e0, e1, d1⟩ := am.n d (o ++ [qs.map spotD, cs.map ctD, bs.map btD, rs.map ringD]) 1000000 (by omega) (by omega) (by omega)
      obtain ⟨r, s2, k2, r0, r1, d2⟩ := dr.n d1 (o ++ [qs.map spotD, cs.map ctD, bs.map btD, rs.map ringD]) 2 (by omega) (by omega) (by omega)
      generalize hst : mkSt s2 (o ++ [qs.map spotD, cs.map ctD, bs.map btD, rs.map ringD]) = st at k2
      have m1 : ∀ b : Bool, oMul st (.int e) (.int (if b = true then 1 else 0)) = some (.int (e * (if b = true then 1 else 0))) := fun b => o_mul (mulOk_l (by omega) (by omega))
      obtain ⟨ex, hex, x0, x1⟩ : ∃ ex : Int, e * (if decide (r = 0) = true then 1 else 0) = ex ∧ 0 ≤ ex ∧ ex ≤ 1000000 := by
        refine ⟨_, rfl, ?_, ?_⟩ <;> split <;> omega
      have m2 : ∀ b : Bool, oMul st (.int ex) (.int (if b = true then 1 else 0)) = some (.int (ex * (if b = true then 1 else 0))) := fun b => o_mul (mulOk_l (by omega) (by omega))
      have ad : oAdd st (.loc (o.length + 3)) (.loc (o.length + 4)) = some (.lst ((lnL cs bs).map Ln.d)) := by
        rw [← hst, ← lnL_d]
        exact add_at (k := 1) (k2 := 2) rfl rfl rfl rfl (fits_small (by rw [List.length_map, List.length_map]; omega))
      have lc : ∀ (env : En), env.length = 20 → ∀ (w : Int), env[7]? = some (some (.int w)) →
          lcL always (gT 2 (gsCons (gN 15) (gsCons (gN 16) gsNil))) (bVal (eOp oEq (eOp oIx (eVar 15) (eC (.int 0))) (eVar 7))) (eVar 16) env ((lnL cs bs).map Ln.d) st = some ((((lnL cs bs).filter fun l => decide (l.a = w)).map Ln.t).map D.int, st) := by
        intro env he w hw
        rw [List.map_map]
        refine lc_filter Ln.d (fun l => D.int l.t) (fun l => decide (l.a = w)) _ fun l _ => ?_
        have g15 : ((env.set 15 (some l.p)).set 16 (some (.int l.t)))[15]? = some (some l.p) := by
          rw [List.getElem?_set_ne (by decide), List.getElem?_set_self (by omega)]
        have g16 : ((env.set 15 (some l.p)).set 16 (some (.int l.t)))[16]? = some (some (.int l.t)) := List.getElem?_set_self (by rw [List.length_set]; omega)
        have g7 : ((env.set 15 (some l.p)).set 16 (some (.int l.t)))[7]? = some (some (.int w)) := by
          rw [List.getElem?_set_ne (by decide), List.getElem?_set_ne (by decide)]
          exact hw
        refine ⟨(env.set 15 (some l.p)).set 16 (some (.int l.t)), by rw [Ln.d_eq]; rfl, ?_, fun _ => ?_⟩
        · repeat (first | walk_at "ev" | simp only [g15, g7, Ln.ix0])
        · repeat (first | walk_at "ev" | simp only [g16])
      have lc2 : ∀ (env : En), env.length = 20 → ∀ (w : Int), env[7]? = some (some (.int w)) →
          lcL always (gT 2 (gsCons (gN 15) (gsCons (gN 16) gsNil))) (bVal (eOp oEq (eOp oIx (eVar 15) (eC (.int 1))) (eVar 7))) (eVar 16) env ((lnL cs bs).map Ln.d) st = some ((((lnL cs bs).filter fun l => decide (l.z = w)).map Ln.t).map D.int, st) := by
        intro env he w hw
        rw [List.map_map]
        refine lc_filter Ln.d (fun l => D.int l.t) (fun l => decide (l.z = w)) _ fun l _ => ?_
        have g15 : ((env.set 15 (some l.p)).set 16 (some (.int l.t)))[15]? = some (some l.p) := by
          rw [List.getElem?_set_ne (by decide), List.getElem?_set_self (by omega)]
        have g16 : ((env.set 15 (some l.p)).set 16 (some (.int l.t)))[16]? = some (some (.int l.t)) := List.getElem?_set_self (by rw [List.length_set]; omega)
        have g7 : ((env.set 15 (some l.p)).set 16 (some (.int l.t)))[7]? = some (some (.int w)) := by
          rw [List.getElem?_set_ne (by decide), List.getElem?_set_ne (by decide)]
          exact hw
        refine ⟨(env.set 15 (some l.p)).set 16 (some (.int l.t)), by rw [Ln.d_eq]; rfl, ?_, fun _ => ?_⟩
        · repeat (first | walk_at "ev" | simp only [g15, g7, Ln.ix1])
        · repeat (first | walk_at "ev" | simp only [g16])
      have ap : ∀ d : D, kApp2 (.loc (o.length + 5)) (d, st) = some (.non, mkSt s2 (o ++ [qs.map spotD, cs.map ctD, bs.map btD, rs.map ringD ++ [d]])) := fun d => by
        rw [← hst]
        exact app_at (k := 3) rfl rfl (fits_small (by rw [List.length_map]; omega))
      have sA : (((lnL cs bs).filter fun l => decide (l.a = ((rs.length : Nat) : Int))).map Ln.t).sum = pullA (lnL cs bs) (rs.length : Nat) := rfl
      have sB : (((lnL cs bs).filter fun l => decide (l.z = ((rs.length : Nat) : Int))).map Ln.t).sum = pullB (lnL cs bs) (rs.length : Nat) := rfl
      simp only [spotD, b_l_balanced_f3, Nat.zero_add]
      repeat (first | walk_at "ev" | simp only [p6, k1, k2, m1, hex, m2, ad])
      rw [lc _ rfl _ rfl]
      repeat (first | walk_at "ev" | simp only [sA, ad])
      rw [lc2 _ rfl _ rfl]
      repeat (first | walk_at "ev" | simp only [sB, ap])
      have rz : ∃ x : Int, ex * (if decide (qs[rs.length].p = qs[rs.length].hi) = true then 1 else 0) - ex * (if decide (qs[rs.length].p = qs[rs.length].lo) = true then 1 else 0) = x ∧ -1000000 ≤ x ∧ x ≤ 1000000 ∧ (0 < x → qs[rs.length].p = qs[rs.length].hi) ∧ (x < 0 → qs[rs.length].p = qs[rs.length].lo) := by
        refine ⟨_, rfl, ?_⟩
        by_cases h1 : qs[rs.length].p = qs[rs.length].hi <;> by_cases h2 : qs[rs.length].p = qs[rs.length].lo
        · rw [decide_eq_true h1, decide_eq_true h2, if_pos rfl]
          exact ⟨by omega, by omega, fun _ => h1, fun _ => h2⟩
        · rw [decide_eq_true h1, decide_eq_false h2, if_pos rfl, if_neg Bool.false_ne_true]
          exact ⟨by omega, by omega, fun _ => h1, fun h => by omega⟩
        · rw [decide_eq_false h1, decide_eq_true h2, if_pos rfl, if_neg Bool.false_ne_true]
          exact ⟨by omega, by omega, fun h => by omega, fun _ => h2⟩
        · rw [decide_eq_false h1, decide_eq_false h2, if_neg Bool.false_ne_true]
          exact ⟨by omega, by omega, fun h => by omega, fun h => by omega⟩
      obtain ⟨x, hx, x2, x3, x4, x5⟩ := rz
      refine ⟨_, _, rfl, s2, rs ++ [⟨qs[rs.length].lo, qs[rs.length].hi, x - (pullA (lnL cs bs) (rs.length : Nat) - pullB (lnL cs bs) (rs.length : Nat))⟩], _, _, _, _, _, _, _, rfl, ?_, ?_, by rw [List.length_append]; simp; omega, ?_, d2.mono (by omega)⟩
      · rw [List.map_append, ← hx]
        rfl
      · rw [hys, List.length_append]
        rfl
      · intro i h1 h2
        by_cases hi : i < rs.length
        · rw [List.getElem_append_left hi]
          exact hr i h1 hi
        · have hi2 : i = rs.length := by
            rw [List.length_append] at h2
            simp at h2
            omega
          subst hi2
          rw [List.getElem_append_right (Nat.le_refl _)]
          simp only [Nat.sub_self, List.getElem_cons_zero]
          exact ⟨rfl, rfl, x, x2, x3, rfl, x4, x5⟩)
    qs.zipIdx [some (.loc 1), some most, some (.loc (o.length + 2)), some ps, none, some (.loc (o.length + 3)), some (.loc (o.length + 4)), v7, some (.loc (o.length + 5)), none, none, none, none, none, none, none, none, none, none, none] (mkSt s (o ++ [qs.map spotD, cs.map ctD, bs.map btD, []]))
    ⟨s, [], v7, none, none, none, none, none, none, rfl, rfl, rfl, Nat.zero_le _, fun i h1 h2 => by simp at h2, hs.mono (by rw [List.length_zipIdx]; omega)⟩
  have hlen : rs.length = qs.length := by
    apply Classical.byContradiction
    intro hn
    rw [List.drop_eq_getElem_cons (by rw [List.length_zipIdx]; omega)] at hy
    cases hy
  exact ⟨rs, s', v7', v9, v10, v11, v12, v13, v14, k, hlen, hr, d.mono (by simp)⟩
def balD (qs : List Spot) (rs : List Ring) (cs : List (Cord × Int)) (bs : List (Bar × Int)) : D :=
  .lst [rigD rs (cs.map (·.1)) (bs.map (·.1)), plcD (qs.map Spot.p), .tup [plcD (cs.map (·.2)), plcD (bs.map (·.2))]]
set_option maxHeartbeats 16000000 in
theorem parts_loop (hN : F "_law_next" = some ⟨2, 9, b_l_next⟩) (hA : F "_law_amount" = some ⟨2, 3, b_l_amount⟩) (hP : F "_law_pair" = some ⟨2, 3, b_l_pair⟩) (hO : F "_law_one" = some ⟨2, 2, b_l_one⟩) (hC : F "_law_cord" = some ⟨2, 8, b_l_cord⟩) (hB : F "_law_bar" = some ⟨2, 7, b_l_bar⟩)
    (n : Nat) {s : Dr} {b : Int} (hs : DOk s b) (hb : 250 ≤ b) (o : Sto) {qs : List Spot} (most : D) (q2 : qs.length ≤ 8) (ok : ∀ q ∈ qs, SpOk q) :
    ∃ (cs : List (Cord × Int)) (bs : List (Bar × Int)) (s' : Dr) (v7 : Option D), sIf (bVal (eOp oGt (eBlt gLen (aCons (eVar 3) aNil)) (eC (.int 1)))) (sSeq (sFor (iRng (aCons (eOp oIx (eLst (aCons (eC (.int 0)) (aCons (eC (.int 1)) (aCons (eC (.int 2)) (aCons (eC (.int 4)) (aCons (eC (.int 7)) (aCons (eC (.int 12)) aNil))))))) (eCall (callN F (n + 3)) "_law_next" (aCons (eVar 0) (aCons (eC (.int 6)) aNil)))) aNil)) (gN 7) (b_l_balanced_f1 (callN F (n + 3))))
      (sSeq (sFor (iRng (aCons (eOp oIx (eLst (aCons (eC (.int 0)) (aCons (eC (.int 0)) (aCons (eC (.int 1)) (aCons (eC (.int 2)) (aCons (eC (.int 8)) aNil)))))) (eCall (callN F (n + 3)) "_law_next" (aCons (eVar 0) (aCons (eC (.int 5)) aNil)))) aNil)) (gN 7) (b_l_balanced_f2 (callN F (n + 3)))) sNil)) sNil
      [some (.loc 1), some most, some (.loc (o.length + 2)), some (plcD (qs.map Spot.p)), none, some (.loc (o.length + 3)), some (.loc (o.length + 4)), none, none, none, none, none, none, none, none, none, none, none, none, none] (mkSt s (o ++ [qs.map spotD, [], []])) =
      some (.nx [some (.loc 1), some most, some (.loc (o.length + 2)), some (plcD (qs.map Spot.p)), none, some (.loc (o.length + 3)), some (.loc (o.length + 4)), v7, none, none, none, none, none, none, none, none, none, none, none, none], mkSt s' (o ++ [qs.map spotD, cs.map ctD, bs.map btD])) ∧
      cs.length ≤ 12 ∧ bs.length ≤ 8 ∧ (∀ q ∈ cs, CVal qs.length q.1 ∧ TC (qs.map Spot.p) q.1 q.2) ∧ (∀ q ∈ bs, BVal qs.length q.1 ∧ TB (qs.map Spot.p) q.1 q.2) ∧ DOk s' (b - 250) := by
  have dr := draws_of hN (n + 2)
  have pl : (qs.map Spot.p).length = qs.length := List.length_map ..
  by_cases h1 : 1 < qs.length
  · obtain ⟨r, x, s1, k1, ex, hx, d1⟩ := dr.pick hs (o ++ [qs.map spotD, [], []]) [.int 0, .int 1, .int 2, .int 4, .int 7, .int 12] (n := 6) rfl (by omega) (by omega) (by omega)
    obtain ⟨c, rfl, c0, c1⟩ : ∃ t : Int, x = .int t ∧ 0 ≤ t ∧ t ≤ 12 := by
      simp only [List.mem_cons, List.not_mem_nil, or_false] at hx
      rcases hx with rfl | rfl | rfl | rfl | rfl | rfl <;> exact ⟨_, rfl, by omega, by omega⟩
    have rg1 := e_krng1 (s := mkSt s1 (o ++ [qs.map spotD, [], []])) (j := c) (by omega) (by omega)
    obtain ⟨env', st', k2, s2, cs, v7, rfl, rfl, hl, hc, d2⟩ := for_rel (tg := gN 7) (body := b_l_balanced_f1 (callN F (n + 3))) (fun i : Nat => D.int (0 + (i : Int)))
      (fun ys env st => ∃ (s : Dr) (cs : List (Cord × Int)) (v7 : Option D), env = [some (.loc 1), some most, some (.loc (o.length + 2)), some (plcD (qs.map Spot.p)), none, some (.loc (o.length + 3)), some (.loc (o.length + 4)), v7, none, none, none, none, none, none, none, none, none, none, none, none] ∧
        st = mkSt s (o ++ [qs.map spotD, cs.map ctD, []]) ∧ cs.length + ys.length = c.toNat ∧ (∀ q ∈ cs, CVal qs.length q.1 ∧ TC (qs.map Spot.p) q.1 q.2) ∧ DOk s (b - 145 + 12 * ys.length))
      (by
        rintro i ys env st ⟨s, cs, v7, rfl, rfl, hl, hc, d⟩
        refine ⟨_, _, rfl, ?_⟩
        rw [List.length_cons] at hl d
        obtain ⟨cd, t, s', k, v1, v2, d'⟩ := cordT_spec hN hA hP hO hC n d (by omega) (o ++ [qs.map spotD, cs.map ctD, []]) (ps := qs.map Spot.p) (by omega) (by omega) (psIn ok)
        rw [pl] at v1
        have ap := app_at (s := s') (o := o) (l := [qs.map spotD, cs.map ctD, []]) (d := .tup [cordD cd, .int t]) (n := o.length + 3) (k := 1) (a := cs.map ctD) rfl rfl (fits_small (by rw [List.length_map]; omega))
        simp only [b_l_balanced_f1]
        repeat (first | walk_at "ev" | simp only [k, ap])
        refine ⟨_, _, rfl, s', cs ++ [(cd, t)], _, rfl, by rw [List.map_append]; rfl, by rw [List.length_append]; simp; omega, ?_, d'.mono (by omega)⟩
        intro q hq
        rcases List.mem_append.mp hq with z | z
        · exact hc q z
        · rw [List.mem_singleton.mp z]
          exact ⟨v1, v2⟩)
      (List.range c.toNat) [some (.loc 1), some most, some (.loc (o.length + 2)), some (plcD (qs.map Spot.p)), none, some (.loc (o.length + 3)), some (.loc (o.length + 4)), none, none, none, none, none, none, none, none, none, none, none, none, none] (mkSt s1 (o ++ [qs.map spotD, [], []])) ⟨s1, [], none, rfl, rfl, by rw [List.length_range]; simp, fun q h => by simp at h, d1.mono (by rw [List.length_range]; omega)⟩
    have k2 : forL always (gN 7) (b_l_balanced_f1 (callN F (n + 3))) (rangeD 0 c.toNat) _ _ = _ := k2
    rw [List.length_nil] at hl d2
    obtain ⟨r3, x, s3, k3, ex3, hx, d3⟩ := dr.pick d2 (o ++ [qs.map spotD, cs.map ctD, []]) [.int 0, .int 0, .int 1, .int 2, .int 8] (n := 5) rfl (by omega) (by omega) (by omega)
    obtain ⟨c', rfl, c0', c1'⟩ : ∃ t : Int, x = .int t ∧ 0 ≤ t ∧ t ≤ 8 := by
      simp only [List.mem_cons, List.not_mem_nil, or_false] at hx
      rcases hx with rfl | rfl | rfl | rfl | rfl <;> exact ⟨_, rfl, by omega, by omega⟩
    have rg2 := e_krng1 (s := mkSt s3 (o ++ [qs.map spotD, cs.map ctD, []])) (j := c') (by omega) (by omega)
    obtain ⟨env', st', k4, s4, bs, v7', rfl, rfl, hl2, hb2, d4⟩ := for_rel (tg := gN 7) (body := b_l_balanced_f2 (callN F (n + 3))) (fun i : Nat => D.int (0 + (i : Int)))
      (fun ys env st => ∃ (s : Dr) (bs : List (Bar × Int)) (v7 : Option D), env = [some (.loc 1), some most, some (.loc (o.length + 2)), some (plcD (qs.map Spot.p)), none, some (.loc (o.length + 3)), some (.loc (o.length + 4)), v7, none, none, none, none, none, none, none, none, none, none, none, none] ∧
        st = mkSt s (o ++ [qs.map spotD, cs.map ctD, bs.map btD]) ∧ bs.length + ys.length = c'.toNat ∧ (∀ q ∈ bs, BVal qs.length q.1 ∧ TB (qs.map Spot.p) q.1 q.2) ∧ DOk s (b - 250 + 12 * ys.length))
      (by
        rintro i ys env st ⟨s, bs, v7, rfl, rfl, hl, hc, d⟩
        refine ⟨_, _, rfl, ?_⟩
        rw [List.length_cons] at hl d
        obtain ⟨cd, t, s', k, v1, v2, d'⟩ := barT_spec hN hP hO hB n d (by omega) (o ++ [qs.map spotD, cs.map ctD, bs.map btD]) (ps := qs.map Spot.p) (by omega) (by omega) (psIn ok)
        rw [pl] at v1
        have ap := app_at (s := s') (o := o) (l := [qs.map spotD, cs.map ctD, bs.map btD]) (d := .tup [barD cd, .int t]) (n := o.length + 4) (k := 2) (a := bs.map btD) rfl rfl (fits_small (by rw [List.length_map]; omega))
        simp only [b_l_balanced_f2]
        repeat (first | walk_at "ev" | simp only [k, ap])
        refine ⟨_, _, rfl, s', bs ++ [(cd, t)], _, rfl, by rw [List.map_append]; rfl, by rw [List.length_append]; simp; omega, ?_, d'.mono (by omega)⟩
        intro q hq
        rcases List.mem_append.mp hq with z | z
        · exact hc q z
        · rw [List.mem_singleton.mp z]
          exact ⟨v1, v2⟩)
      (List.range c'.toNat) [some (.loc 1), some most, some (.loc (o.length + 2)), some (plcD (qs.map Spot.p)), none, some (.loc (o.length + 3)), some (.loc (o.length + 4)), v7, none, none, none, none, none, none, none, none, none, none, none, none] (mkSt s3 (o ++ [qs.map spotD, cs.map ctD, []])) ⟨s3, [], v7, rfl, rfl, by rw [List.length_range]; simp, fun q h => by simp at h, d3.mono (by rw [List.length_range]; omega)⟩
    have k4 : forL always (gN 7) (b_l_balanced_f2 (callN F (n + 3))) (rangeD 0 c'.toNat) _ _ = _ := k4
    rw [List.length_nil] at hl2 d4
    refine ⟨cs, bs, s4, v7', ?_, by omega, by omega, hc, hb2, d4.mono (by omega)⟩
    repeat (first | walk_at "ev" | simp only [pl, decide_eq_true (show (1 : Int) < (qs.length : Int) by omega), k1, ex, rg1, k2, k3, ex3, rg2, k4])
  · refine ⟨[], [], s, none, ?_, by simp, by simp, fun q h => by simp at h, fun q h => by simp at h, hs.mono (by omega)⟩
    repeat (first | walk_at "ev" | simp only [pl, decide_eq_false (show ¬ ((1 : Int) < (qs.length : Int)) by omega)])
    rfl
set_option maxHeartbeats 16000000 in
theorem balanced_spec (hN : F "_law_next" = some ⟨2, 9, b_l_next⟩ := by first | assumption | rfl) (hA : F "_law_amount" = some ⟨2, 3, b_l_amount⟩ := by first | assumption | rfl) (hP : F "_law_pair" = some ⟨2, 3, b_l_pair⟩ := by first | assumption | rfl) (hO : F "_law_one" = some ⟨2, 2, b_l_one⟩ := by first | assumption | rfl)
    (hS : F "_law_spots" = some ⟨2, 9, b_l_spots⟩ := by first | assumption | rfl) (hC : F "_law_cord" = some ⟨2, 8, b_l_cord⟩ := by first | assumption | rfl) (hB : F "_law_bar" = some ⟨2, 7, b_l_bar⟩ := by first | assumption | rfl) (hL : F "_law_balanced" = some ⟨2, 20, b_l_balanced⟩ := by first | assumption | rfl)
    (n : Nat) {s : Dr} {b : Int} (hs : DOk s b) (hb : 400 ≤ b) (o : Sto) {most : Int} (m1 : 1 ≤ most) (m2 : most ≤ 8) :
    ∃ (qs : List Spot) (rs : List Ring) (cs : List (Cord × Int)) (bs : List (Bar × Int)) (s' : Dr) (g : Sto), callN F (n + 4) "_law_balanced" [.loc 1, .int most] (mkSt s o) = some (balD qs rs cs bs, mkSt s' (o ++ g)) ∧ Bal most qs rs cs bs ∧ DOk s' (b - 400) := by
  obtain ⟨qs, s1, k1, ⟨l1, l2, l3⟩, ok, d1⟩ := spots_spec hN hA hO hS n hs (by omega) o m1 m2
  obtain ⟨cs, bs, s2, v7, k2, c1, b1, hc, hbar, d2⟩ := parts_loop hN hA hP hO hC hB n d1 (by omega) o (.int most) l2 ok
  have ht : ∀ l ∈ lnL cs bs, 0 ≤ l.t ∧ l.t ≤ 40000000 := by
    intro l hl
    rcases List.mem_append.mp hl with z | z
    · obtain ⟨q, hq, rfl⟩ := List.mem_map.mp z
      obtain ⟨a1, a2⟩ := hc q hq
      exact ⟨a2.1, by have := a2.2.1; have := a1.2.2.2.2.2; show q.2 ≤ _; omega⟩
    · obtain ⟨q, hq, rfl⟩ := List.mem_map.mp z
      obtain ⟨a1, a2⟩ := hbar q hq
      exact ⟨a2.1, by have := a2.2.1; show q.2 ≤ _; omega⟩
  obtain ⟨rs, s3, w7, w9, w10, w11, w12, w13, w14, k3, rl, hr, d3⟩ := rings_loop hN hA n d2 (by omega) o (.int most) (plcD (qs.map Spot.p)) v7 l2 c1 b1 ht
  refine ⟨qs, rs, cs, bs, s3, [qs.map spotD, cs.map ctD, bs.map btD, rs.map ringD], ?_, ⟨l1, l2, l3, ok, c1, b1, hc, hbar, rl, hr⟩, d3.mono (by omega)⟩
  rw [call_eq hL rfl]
  have e0 : startE 20 [.loc 1, .int most] = [some (.loc 1), some (.int most), none, none, none, none, none, none, none, none, none, none, none, none, none, none, none, none, none, none] := rfl
  have sp := src_at (s := s1) (o := o) (l := [qs.map spotD]) (n := o.length + 2) (k := 0) rfl rfl
  have ml1 : (mkSt s1 (o ++ [qs.map spotD])).length = o.length + 3 := by simp [mkSt]
  have ml2 : (mkSt s1 (o ++ [qs.map spotD, []])).length = o.length + 4 := by simp [mkSt]
  have ml3 : (mkSt s2 (o ++ [qs.map spotD, cs.map ctD, bs.map btD])).length = o.length + 5 := by simp [mkSt]
  have a1 : mkSt s1 (o ++ [qs.map spotD]) ++ [[]] = mkSt s1 (o ++ [qs.map spotD, []]) := by rw [mk_ap, List.append_assoc]; rfl
  have a2 : mkSt s1 (o ++ [qs.map spotD, []]) ++ [[]] = mkSt s1 (o ++ [qs.map spotD, [], []]) := by rw [mk_ap, List.append_assoc]; rfl
  have a3 : mkSt s2 (o ++ [qs.map spotD, cs.map ctD, bs.map btD]) ++ [[]] = mkSt s2 (o ++ [qs.map spotD, cs.map ctD, bs.map btD, []]) := by rw [mk_ap, List.append_assoc]; rfl
  have en := en_at (s := s2) (o := o) (l := [qs.map spotD, cs.map ctD, bs.map btD, []]) (n := o.length + 2) (k := 0) rfl rfl
  have tr := tup_at (s := s3) (o := o) (l := [qs.map spotD, cs.map ctD, bs.map btD, rs.map ringD]) (n := o.length + 5) (k := 3) rfl rfl
  have sc := src_at (s := s3) (o := o) (l := [qs.map spotD, cs.map ctD, bs.map btD, rs.map ringD]) (n := o.length + 3) (k := 1) rfl rfl
  have sb := src_at (s := s3) (o := o) (l := [qs.map spotD, cs.map ctD, bs.map btD, rs.map ringD]) (n := o.length + 4) (k := 2) rfl rfl
  simp only [e0, b_l_balanced]
  repeat (first | walk_at "ev" | simp only [k1, sp])
  rw [lc_mapC spotD (fun q => .int q.p) (un_at (k := 0) rfl rfl) qs ?h1]
  case h1 => exact fun q _ => ⟨_, rfl, rfl, by simp only [spotD]; walk_at "ev"⟩
  have em : D.tup (qs.map fun q => D.int q.p) = plcD (qs.map Spot.p) := by simp only [plcD, List.map_map, Function.comp_def]
  revert k2
  repeat (first | walk_at "ev" | simp only [em, ml1, a1, ml2, a2])
  intro k2
  rw [k2]
  repeat (first | walk_at "ev" | simp only [ml3, a3, en])
  rw [k3]
  repeat (first | walk_at "ev" | simp only [tr, sc])
  rw [lc_mapC ctD (fun q => cordD q.1) (un_at (k := 1) rfl rfl) cs ?h2]
  case h2 => exact fun q _ => ⟨_, rfl, rfl, by walk_at "ev"⟩
  repeat (first | walk_at "ev" | simp only [sb])
  rw [lc_mapC btD (fun q => barD q.1) (un_at (k := 2) rfl rfl) bs ?h3]
  case h3 => exact fun q _ => ⟨_, rfl, rfl, by walk_at "ev"⟩
  repeat (first | walk_at "ev" | simp only [sc])
  rw [lc_mapC ctD (fun q => .int q.2) (un_at (k := 1) rfl rfl) cs ?h4]
  case h4 => exact fun q _ => ⟨_, rfl, rfl, by walk_at "ev"⟩
  repeat (first | walk_at "ev" | simp only [sb])
  rw [lc_mapC btD (fun q => .int q.2) (un_at (k := 2) rfl rfl) bs ?h5]
  case h5 => exact fun q _ => ⟨_, rfl, rfl, by walk_at "ev"⟩
  repeat (first | walk_at "ev" | simp only [e_kfnR])
  simp only [balD, rigD, plcD, List.map_map, Function.comp_def]
/-! ### what a balanced rig is -/
theorem Bal.v {most : Int} {qs : List Spot} {rs : List Ring} {cs : List (Cord × Int)} {bs : List (Bar × Int)} (h : Bal most qs rs cs bs) : VRig rs (cs.map (·.1)) (bs.map (·.1)) := by
  have rl := h.rl
  refine ⟨by rw [rl]; exact h.q1, by rw [rl]; exact h.q2, by rw [List.length_map]; exact h.c1, by rw [List.length_map]; exact h.b1, fun r hr => ?_, fun c hc => ?_, fun c hc => ?_⟩
  · obtain ⟨i, hi, rfl⟩ := List.mem_iff_getElem.mp hr
    obtain ⟨e1, e2, x, x0, x1, e3, _⟩ := h.ring i (by omega) hi
    have ok := h.ok qs[i] (List.getElem_mem (by omega))
    unfold SpOk at ok
    have ht : ∀ l ∈ lnL cs bs, 0 ≤ l.t ∧ l.t ≤ 40000000 := by
      intro l hl
      rcases List.mem_append.mp hl with z | z
      · obtain ⟨q, hq, rfl⟩ := List.mem_map.mp z
        obtain ⟨a1, a2⟩ := h.cord q hq
        exact ⟨a2.1, by have := a2.2.1; have := a1.2.2.2.2.2; show q.2 ≤ _; omega⟩
      · obtain ⟨q, hq, rfl⟩ := List.mem_map.mp z
        obtain ⟨a1, a2⟩ := h.bar q hq
        exact ⟨a2.1, by have := a2.2.1; show q.2 ≤ _; omega⟩
    have ll : (lnL cs bs).length ≤ 20 := by
      unfold lnL
      rw [List.length_append, List.length_map, List.length_map]
      have := h.c1
      have := h.b1
      omega
    have sa := sum_filter (fun l => decide (l.a = ((i : Nat) : Int))) ht
    have sb := sum_filter (fun l => decide (l.z = ((i : Nat) : Int))) ht
    have pa0 : 0 ≤ pullA (lnL cs bs) (i : Nat) ∧ pullA (lnL cs bs) (i : Nat) ≤ 800000000 := ⟨sa.1, Int.le_trans sa.2 (by omega)⟩
    have pb0 : 0 ≤ pullB (lnL cs bs) (i : Nat) ∧ pullB (lnL cs bs) (i : Nat) ≤ 800000000 := ⟨sb.1, Int.le_trans sb.2 (by omega)⟩
    rw [e1, e2, e3]
    omega
  · obtain ⟨q, hq, rfl⟩ := List.mem_map.mp hc
    obtain ⟨a, b, c, d, e, f⟩ := (h.cord q hq).1
    rw [rl]
    exact ⟨a, b, c, d, e, by omega⟩
  · obtain ⟨q, hq, rfl⟩ := List.mem_map.mp hc
    rw [rl]
    exact (h.bar q hq).1
theorem Bal.plc {most : Int} {qs : List Spot} {rs : List Ring} {cs : List (Cord × Int)} {bs : List (Bar × Int)} (h : Bal most qs rs cs bs) : Plc rs (bs.map (·.1)) (qs.map Spot.p) := by
  have rl := h.rl
  refine ⟨by rw [List.length_map, rl], fun i hi => ?_, fun i hi => ?_, fun c hc => ?_⟩
  · unfold losL
    obtain ⟨e1, e2, _⟩ := h.ring i (by omega) hi
    have ok := h.ok qs[i] (List.getElem_mem (by omega))
    unfold SpOk at ok
    rw [pa_map hi, pa_map (by omega), e1]
    omega
  · unfold hisL
    obtain ⟨e1, e2, _⟩ := h.ring i (by omega) hi
    have ok := h.ok qs[i] (List.getElem_mem (by omega))
    unfold SpOk at ok
    rw [pa_map hi, pa_map (by omega), e2]
    omega
  · obtain ⟨q, hq, rfl⟩ := List.mem_map.mp hc
    exact (h.bar q hq).2.2.2.1
end
end Tg
/-! Tables in cells: limits, closure, points of a closed table. -/

namespace Tg
open PySem PySem.Spec PyProof.Rows L2
-- lib _law_limits a14249 b_l_limits 1 12
noncomputable def b_l_limits_f1 (C : Orc) : DS := (sSeq (sAsg (eTup (aCons (eVar 7) (aCons (eOp oSub (eC (.int 0)) (eVar 6)) aNil))) (gT 2 (gsCons (gSb (eOp oIx (eVar 2) (eVar 1)) (eVar 5)) (gsCons (gSb (eOp oIx (eVar 2) (eVar 5)) (eVar 1)) gsNil))))
    sNil)
noncomputable def b_l_limits_f2 (C : Orc) : DS := (sSeq (sAsg (eBlt gMin2 (aCons (eOp oIx (eOp oIx (eVar 2) (eVar 9)) (eVar 10)) (aCons (eVar 11) aNil))) (gSb (eOp oIx (eVar 2) (eVar 9)) (eVar 10)))
    sNil)
noncomputable def b_l_limits (C : Orc) : DS := (sSeq (sAsg (eBlt gLen (aCons (eOp oIx (eVar 0) (eC (.int 0))) aNil)) (gN 1))
    (sSeq (sAsg (eMLc [4] (iRng (aCons (eOp oAdd (eVar 1) (eC (.int 1))) aNil)) (gN 4) bYes (eMLc [3] (iRng (aCons (eOp oAdd (eVar 1) (eC (.int 1))) aNil)) (gN 3) bYes (eOp oMul (eOp oPow (eC (.int 10)) (eC (.int 14))) (eBlt gInt (aCons (eOp oNe (eVar 4) (eVar 3)) aNil))))) (gN 2))
    (sSeq (sFor (iEn (eOp oIx (eVar 0) (eC (.int 0)))) (gT 2 (gsCons (gN 5) (gsCons (gT 3 (gsCons (gN 6) (gsCons (gN 7) (gsCons (gN 8) gsNil)))) gsNil))) (b_l_limits_f1 C))
    (sSeq (sFor (iSeq (eOp oIx (eVar 0) (eC (.int 2)))) (gT 3 (gsCons (gN 9) (gsCons (gN 10) (gsCons (gN 11) gsNil)))) (b_l_limits_f2 C))
    (sSeq (sRet (eVar 2))
    sNil)))))
-- lib _law_closure 7e43b0 b_l_closure 1 7
noncomputable def b_l_closure_f1 (C : Orc) : DS := (sSeq (sAsg (eLc [6] (iRng (aCons (eVar 1) aNil)) (gN 6) bYes (eBlt gMin2 (aCons (eOp oIx (eOp oIx (eVar 2) (eVar 5)) (eVar 6)) (aCons (eOp oAdd (eOp oIx (eOp oIx (eVar 2) (eVar 5)) (eVar 4)) (eOp oIx (eOp oIx (eVar 2) (eVar 4)) (eVar 6))) aNil)))) (gSb (eVar 2) (eVar 5)))
    sNil)
noncomputable def b_l_closure_f2 (C : Orc) : DS := (sSeq (sFor (iRng (aCons (eVar 1) aNil)) (gN 5) (b_l_closure_f1 C))
    sNil)
noncomputable def b_l_closure (C : Orc) : DS := (sSeq (sAsg (eBlt gLen (aCons (eVar 0) aNil)) (gN 1))
    (sSeq (sAsg (eMLc [3] (iSeq (eVar 0)) (gN 3) bYes (eBlt gList (aCons (eVar 3) aNil))) (gN 2))
    (sSeq (sFor (iRng (aCons (eVar 1) aNil)) (gN 4) (b_l_closure_f2 C))
    (sSeq (sRet (eBlt gTuple (aCons (eLc [3] (iSeq (eVar 2)) (gN 3) bYes (eBlt gTuple (aCons (eVar 3) aNil))) aNil)))
    sNil))))
-- lib _law_point 9e5a1a b_l_point 2 9
noncomputable def b_l_point_f1 (C : Orc) : DS := (sSeq (sAsg (eBlt gMaxL (aCons (eLc [6, 7] (iSeq (eVar 3)) (gT 2 (gsCons (gN 6) (gsCons (gN 7) gsNil))) bYes (eOp oSub (eVar 7) (eOp oIx (eOp oIx (eVar 1) (eVar 4)) (eVar 6)))) aNil)) (gN 5))
    (sSeq (sAsg (eBlt gMinL (aCons (eLc [6, 7] (iSeq (eVar 3)) (gT 2 (gsCons (gN 6) (gsCons (gN 7) gsNil))) bYes (eOp oAdd (eVar 7) (eOp oIx (eOp oIx (eVar 1) (eVar 6)) (eVar 4)))) aNil)) (gN 8))
    (sSeq (sExpr (eAppend (eVar 3) (eTup (aCons (eVar 4) (aCons (eOp oAdd (eVar 5) (eCall C "_law_amount" (aCons (eVar 0) (aCons (eOp oSub (eVar 8) (eVar 5)) aNil)))) aNil)))))
    sNil)))
noncomputable def b_l_point (C : Orc) : DS := (sSeq (sAsg (eOp oSub (eBlt gLen (aCons (eVar 1) aNil)) (eC (.int 1))) (gN 2))
    (sSeq (sAsg (eMLst (aCons (eTup (aCons (eVar 2) (aCons (eC (.int 0)) aNil))) aNil)) (gN 3))
    (sSeq (sFor (iRng (aCons (eVar 2) aNil)) (gN 4) (b_l_point_f1 C))
    (sSeq (sRet (eBlt gTuple (aCons (eLc [4, 7] (iSeq (eSl (eVar 3) (oSo (eC (.int 1))) oNo)) (gT 2 (gsCons (gN 4) (gsCons (gN 7) gsNil))) bYes (eVar 7)) aNil)))
    sNil))))
def locsD (b : Nat) : Nat → List D
  | 0 => []
  | n + 1 => .loc b :: locsD (b + 1) n
theorem locs_map : ∀ (n b : Nat), locsD b n = (List.range n).map fun i => D.loc (b + i)
  | 0, _ => rfl
  | n + 1, b => by
    rw [List.range_succ_eq_map, List.map_cons, List.map_map]
    show D.loc b :: locsD (b + 1) n = _
    rw [locs_map n (b + 1)]
    congr 1
    apply List.map_congr_left
    intro i _
    show D.loc (b + 1 + i) = D.loc (b + (i + 1))
    congr 1
    omega
/-- a comprehension that makes a cell for each item -/
theorem lc_cells {α : Type} {tg : DG} {elt : DE} {env : En} (f : α → D) (row : α → List D) : ∀ (xs : List α) (st : Sto), (∀ x ∈ xs, ∀ s, ∃ e, tg (f x) env s = some (e, s) ∧ elt e s = some (.loc s.length, s ++ [row x])) → lcL always tg bYes elt env (xs.map f) st = some (locsD st.length xs.length, st ++ xs.map row)
  | [], st, _ => by simp [lcL, always, locsD]
  | x :: xs, st, h => by
    obtain ⟨e, h1, h2⟩ := h x List.mem_cons_self st
    have ih := lc_cells f row xs (st ++ [row x]) fun y hy => h y (List.mem_cons_of_mem _ hy)
    rw [List.map_cons]
    unfold lcL
    simp only [show always st = true from rfl, if_true, h1, Option.bind_some, bYes, h2, ih, Option.map_some]
    simp only [List.length_append, List.length_cons, List.length_nil, List.append_assoc, List.map_cons, List.cons_append, List.nil_append]
    rfl
abbrev rowsC (T : Tab) : Sto := T.map fun r => r.map D.int
def tabSt (st : Sto) (N : Nat) (T : Tab) : Sto := st ++ rowsC T ++ [locsD st.length N]
def setT (T : Tab) (i j : Nat) (v : Int) : Tab := T.set i ((T.getD i []).set j v)
theorem setT_sq {N i j : Nat} {v : Int} {T : Tab} (h : Sq N T) (hi : i < N) : Sq N (setT T i j v) := by
  refine ⟨by unfold setT; rw [List.length_set]; exact h.len, fun a ha => ?_⟩
  unfold setT
  rw [getD_set]
  split
  · rw [List.length_set]; exact h.row i hi
  · exact h.row a ha
theorem ta_setT {N i j a b : Nat} {v : Int} {T : Tab} (h : Sq N T) (hi : i < N) (hj : j < N) : ta (setT T i j v) a b = if i = a ∧ j = b then v else ta T a b := by
  unfold ta setT
  rw [getD_set]
  by_cases e : i = a
  · subst e
    rw [if_pos ⟨rfl, by rw [h.len]; exact hi⟩, pa_set, h.row i hi]
    by_cases e2 : j = b
    · subst e2
      simp [hj]
    · simp [e2]
  · rw [if_neg (fun z => e z.1), if_neg (fun z => e z.1)]
section
variable {st : Sto} {N : Nat} {T : Tab}
theorem tab_row {i : Nat} (hT : Sq N T) (hi : i < N) : (tabSt st N T)[st.length + i]? = some ((T.getD i []).map D.int) := by
  unfold tabSt
  rw [List.append_assoc, List.getElem?_append_right (by omega), Nat.add_sub_cancel_left, List.getElem?_append_left (by rw [List.length_map, hT.len]; exact hi), List.getElem?_map, List.getD_eq_getElem?_getD, List.getElem?_eq_getElem (by rw [hT.len]; exact hi)]
  rfl
theorem tab_top (hT : Sq N T) : (tabSt st N T)[st.length + N]? = some (locsD st.length N) := by
  unfold tabSt
  rw [List.getElem?_append_right (by rw [List.length_append, List.length_map, hT.len]; omega), List.length_append, List.length_map, hT.len, Nat.sub_self]
  rfl
theorem at_nat {α : Type} {xs : List α} {i : Nat} (h : i < xs.length) : atI xs (i : Int) = some xs[i] := by
  exact atI_nat (List.getElem?_eq_getElem h)
theorem locs_at {b i : Nat} (h : i < N) : atI (locsD b N) (i : Int) = some (.loc (b + i)) := by
  rw [locs_map, at_nat (by simpa using h)]
  simp
theorem ix_tab {i : Nat} (hT : Sq N T) (hi : i < N) : oIx (tabSt st N T) (.loc (st.length + N)) (.int (i : Nat)) = some (.loc (st.length + i)) := by
  show ((tabSt st N T)[st.length + N]?).bind _ = _
  rw [tab_top hT]
  exact locs_at hi
theorem row_at {r : List Int} {j : Nat} (h : j < r.length) : atI (r.map D.int) (j : Int) = some (.int (pa r j)) := by
  rw [at_nat (by simpa using h), pa_get h]
  simp
theorem ix_row {i j : Nat} (hT : Sq N T) (hi : i < N) (hj : j < N) : oIx (tabSt st N T) (.loc (st.length + i)) (.int (j : Nat)) = some (.int (ta T i j)) := by
  show ((tabSt st N T)[st.length + i]?).bind _ = _
  rw [tab_row hT hi]
  exact row_at (by rw [hT.row i hi]; exact hj)
theorem set_tab {i j : Nat} {v : Int} (hT : Sq N T) (hi : i < N) (hj : j < N) : setC (tabSt st N T) (.loc (st.length + i)) (.int (j : Nat)) (.int v) = some (tabSt st N (setT T i j v)) := by
  show ((tabSt st N T)[st.length + i]?).bind _ = _
  rw [tab_row hT hi]
  show (ixN ((T.getD i []).map D.int).length (j : Nat)).map _ = _
  unfold ixN
  rw [if_pos (by omega), if_pos (by rw [List.length_map, hT.row i hi]; omega)]
  simp only [Option.map_some, Int.toNat_natCast]
  congr 1
  unfold tabSt setT
  rw [List.append_assoc, List.set_append_right _ _ (by omega), Nat.add_sub_cancel_left, List.set_append_left _ _ (by rw [List.length_map, hT.len]; exact hi), ← List.map_set, ← List.map_set, ← List.append_assoc]
end
/-! ### the table of limits and bars -/
def big : Int := 100000000000000
/-- the entries when the first m rings have been read -/
def limE (rs : List Ring) (m a b : Nat) : Int := if a = rs.length ∧ b < m then pa (hisL rs) b else if b = rs.length ∧ a < m then 0 - pa (losL rs) a else if a = b then 0 else big
def nodes (x : List Int) (i : Nat) : Int := pa x i
theorem nodes_end {x : List Int} {n : Nat} (h : x.length = n) : nodes x n = 0 := by
  unfold nodes pa
  rw [List.getD_eq_getElem?_getD, List.getElem?_eq_none (by omega)]
  rfl
/-- a table of limits and bars -/
structure LimT (rs : List Ring) (bs : List Bar) (T : Tab) : Prop where
  sq : Sq (rs.length + 1) T
  diag : Diag (rs.length + 1) T
  rail : ∀ k, k < rs.length → ta T rs.length k = pa (hisL rs) k ∧ ta T k rs.length = 0 - pa (losL rs) k
  keeps : ∀ x : List Int, x.length = rs.length → (Keeps (rs.length + 1) T (nodes x) ↔ (∀ i, i < rs.length → pa (losL rs) i ≤ pa x i ∧ pa x i ≤ pa (hisL rs) i) ∧ (∀ a b, a < rs.length → b < rs.length → a ≠ b → pa x b - pa x a ≤ big) ∧ Holds bs x)
theorem LimT.plc {rs : List Ring} {cs : List Cord} {bs : List Bar} {T : Tab} (v : VRig rs cs bs) (h : LimT rs bs T) {x : List Int} (hl : x.length = rs.length) : Keeps (rs.length + 1) T (nodes x) ↔ Plc rs bs x := by
  rw [h.keeps x hl]
  constructor
  · rintro ⟨h1, _, h3⟩
    exact ⟨hl, fun i hi => (h1 i hi).1, fun i hi => (h1 i hi).2, h3⟩
  · intro p
    have bd : ∀ i, i < rs.length → -1000000000000 ≤ pa x i ∧ pa x i ≤ 1000000000000 := by
      intro i hi
      have a := p.lo i hi
      have b := p.hi i hi
      unfold losL at a
      unfold hisL at b
      rw [pa_map hi] at a b
      have := v.ring rs[i] (List.getElem_mem hi)
      omega
    refine ⟨fun i hi => ⟨p.lo i hi, p.hi i hi⟩, fun a b ha hb _ => ?_, p.bar⟩
    have := bd a ha
    have := bd b hb
    unfold big
    omega
section
variable {F : String → Option Fn}
theorem rangeD_nat (n : Nat) : rangeD 0 n = (List.range n).map fun i : Nat => D.int (i : Int) := by
  unfold rangeD
  apply List.map_congr_left
  intro i _
  rw [Int.zero_add]
set_option maxHeartbeats 16000000 in
theorem limits_spec (hL : F "_law_limits" = some ⟨1, 12, b_l_limits⟩ := by first | assumption | rfl) (n : Nat) {rs : List Ring} {cs : D} {bs : List Bar} (r2 : rs.length ≤ 8) (hb : ∀ c ∈ bs, BIx rs.length c ∧ c.a ≠ c.b) (st : Sto) :
    ∃ T, callN F (n + 1) "_law_limits" [.tup [.tup (rs.map ringD), cs, .tup (bs.map barD)]] st = some (.loc (st.length + (rs.length + 1)), tabSt st (rs.length + 1) T) ∧ LimT rs bs T := by
  generalize hR : D.tup [.tup (rs.map ringD), cs, .tup (bs.map barD)] = R
  have u : ∀ (s : Sto) i, oIx s R (.int i) = atI [.tup (rs.map ringD), cs, .tup (bs.map barD)] i := fun s i => by rw [← hR]; rfl
  have e0 : startE 12 [R] = [some R, none, none, none, none, none, none, none, none, none, none, none] := rfl
  generalize hN : rs.length + 1 = N
  have rg := fun s : Sto => e_krng1 (s := s) (j := ((rs.length : Nat) : Int) + 1) (by omega) (by omega)
  have tn : (((rs.length : Nat) : Int) + 1).toNat = N := by omega
  let T0 : Tab := (List.range N).map fun i : Nat => vec N fun j : Nat => 100000000000000 * (if (!decide ((i : Int) = (j : Int))) = true then 1 else 0)
  have hT0 : Sq N T0 := by
    refine ⟨by simp [T0], fun i hi => ?_⟩
    simp only [T0]
    rw [List.getD_eq_getElem?_getD, List.getElem?_map, List.getElem?_range hi]
    exact vec_len
  have ta0 : ∀ a b, a < N → b < N → ta T0 a b = limE rs 0 a b := by
    intro a b ha hb'
    unfold ta
    simp only [T0]
    rw [List.getD_eq_getElem?_getD, List.getElem?_map, List.getElem?_range ha]
    show pa (vec N _) b = _
    rw [pa_vec hb']
    unfold limE
    rw [if_neg (show ¬ (a = rs.length ∧ b < 0) by omega), if_neg (show ¬ (b = rs.length ∧ a < 0) by omega)]
    by_cases e : a = b
    · subst e; simp
    · rw [if_neg e, decide_eq_false (show ¬ ((a : Int) = (b : Int)) by omega)]
      rfl
  have c1 : lcL always (gN 4) bYes (eMLc [3] (iRng (aCons (eOp oAdd (eVar 1) (eC (.int 1))) aNil)) (gN 3) bYes (eOp oMul (eOp oPow (eC (.int 10)) (eC (.int 14))) (eBlt gInt (aCons (eOp oNe (eVar 4) (eVar 3)) aNil)))) [some R, some (.int (rs.length : Nat)), none, none, none, none, none, none, none, none, none, none] (rangeD 0 N) st = some (locsD st.length N, st ++ rowsC T0) := by
    rw [rangeD_nat]
    have := lc_cells (tg := gN 4) (elt := eMLc [3] (iRng (aCons (eOp oAdd (eVar 1) (eC (.int 1))) aNil)) (gN 3) bYes (eOp oMul (eOp oPow (eC (.int 10)) (eC (.int 14))) (eBlt gInt (aCons (eOp oNe (eVar 4) (eVar 3)) aNil)))) (env := [some R, some (.int (rs.length : Nat)), none, none, none, none, none, none, none, none, none, none]) (fun i : Nat => D.int (i : Int)) (fun i : Nat => (vec N fun j => 100000000000000 * (if (!decide ((i : Int) = (j : Int))) = true then 1 else 0)).map D.int) (List.range N) st (by
      intro i _ s
      refine ⟨_, rfl, ?_⟩
      repeat (first | walk_at "ev" | simp only [rg, tn, rangeD_nat])
      rw [lc_map (fun j : Nat => D.int (j : Int)) (fun j : Nat => D.int (100000000000000 * (if (!decide ((i : Int) = (j : Int))) = true then 1 else 0))) (List.range N) ?h]
      case h =>
        intro j _
        refine ⟨_, rfl, rfl, ?_⟩
        have m := fun b : Bool => o_mul (s := s) (mulOk_l (a := 100000000000000) (b := if b = true then 1 else 0) (by decide) (by decide))
        repeat (first | walk_at "ev" | simp only [p14, m])
      walk_at "ev"
      unfold vec
      rw [List.map_map]
      rfl)
    rw [this, List.length_range]
    simp only [rowsC, T0, List.map_map, Function.comp_def]
  -- the rings
  obtain ⟨env', st', k1, T1, m1, w5, w6, w7, w8, rfl, rfl, hy1, hm1, hT1, ta1⟩ := for_rel (tg := gT 2 (gsCons (gN 5) (gsCons (gT 3 (gsCons (gN 6) (gsCons (gN 7) (gsCons (gN 8) gsNil)))) gsNil))) (body := b_l_limits_f1 (callN F n)) (fun p : Ring × Nat => D.tup [.int (p.2 : Nat), ringD p.1])
    (fun ys env s => ∃ (T : Tab) (m : Nat) (v5 v6 v7 v8 : Option D), env = [some R, some (.int (rs.length : Nat)), some (.loc (st.length + N)), none, none, v5, v6, v7, v8, none, none, none] ∧ s = tabSt st N T ∧ ys = rs.zipIdx.drop m ∧ m ≤ rs.length ∧ Sq N T ∧ ∀ a b, a < N → b < N → ta T a b = limE rs m a b)
    (by
      rintro p ys env s ⟨T, m, v5, v6, v7, v8, rfl, rfl, hy, hm, hT, he⟩
      refine ⟨_, _, rfl, ?_⟩
      have hlt : m < rs.zipIdx.length := by
        apply Classical.byContradiction
        intro hn
        rw [List.drop_eq_nil_of_le (by omega)] at hy
        cases hy
      rw [List.drop_eq_getElem_cons hlt] at hy
      obtain ⟨hp, hys⟩ := List.cons.inj hy
      have hlq : m < rs.length := by simpa using hlt
      rw [List.getElem_zipIdx] at hp
      subst hp
      have i1 := ix_tab (st := st) hT (show rs.length < N by omega)
      have s1 := set_tab (st := st) (v := rs[m].hi) hT (show rs.length < N by omega) (show m < N by omega)
      have hT2 := setT_sq (j := m) (v := rs[m].hi) hT (show rs.length < N by omega)
      have i2 := ix_tab (st := st) hT2 (show m < N by omega)
      have s2 := set_tab (st := st) (v := 0 - rs[m].lo) hT2 (show m < N by omega) (show rs.length < N by omega)
      simp only [ringD, b_l_limits_f1, Nat.zero_add]
      repeat (first | walk_at "ev" | simp only [e_gtT, if_true, reduceIte, Nat.reduceAdd, i1, s1, i2, s2])
      refine ⟨_, _, rfl, _, m + 1, _, _, _, _, rfl, rfl, hys, by omega, setT_sq hT2 (by omega), fun a b ha hb' => ?_⟩
      rw [ta_setT hT2 (by omega) (by omega), ta_setT hT (by omega) (by omega), he a b ha hb']
      unfold limE
      have e1 : pa (hisL rs) m = rs[m].hi := by unfold hisL; rw [pa_map hlq]
      have e2 : pa (losL rs) m = rs[m].lo := by unfold losL; rw [pa_map hlq]
      by_cases x1 : m = a ∧ rs.length = b
      · obtain ⟨rfl, rfl⟩ := x1
        rw [if_pos ⟨rfl, rfl⟩, if_neg (by omega), if_pos ⟨rfl, by omega⟩, e2]
      · rw [if_neg x1]
        by_cases x2 : rs.length = a ∧ m = b
        · obtain ⟨rfl, rfl⟩ := x2
          rw [if_pos ⟨rfl, rfl⟩, if_pos ⟨rfl, by omega⟩, e1]
        · rw [if_neg x2]
          by_cases y1 : a = rs.length ∧ b < m
          · rw [if_pos y1, if_pos ⟨y1.1, by omega⟩]
          · rw [if_neg y1, if_neg (show ¬ (a = rs.length ∧ b < m + 1) by omega)]
            by_cases y2 : b = rs.length ∧ a < m
            · rw [if_pos y2, if_pos ⟨y2.1, by omega⟩]
            · rw [if_neg y2, if_neg (show ¬ (b = rs.length ∧ a < m + 1) by omega)])
    rs.zipIdx [some R, some (.int (rs.length : Nat)), some (.loc (st.length + N)), none, none, none, none, none, none, none, none, none] (tabSt st N T0) ⟨T0, 0, none, none, none, none, rfl, rfl, rfl, Nat.zero_le _, hT0, ta0⟩
  have hm : m1 = rs.length := by
    apply Classical.byContradiction
    intro hn
    rw [List.drop_eq_getElem_cons (by rw [List.length_zipIdx]; omega)] at hy1
    cases hy1
  subst hm
  -- the bars
  obtain ⟨env', st', k2, T2, w9, w10, w11, rfl, rfl, hT2, dg2, rl2, kp2⟩ := for_rel (tg := gT 3 (gsCons (gN 9) (gsCons (gN 10) (gsCons (gN 11) gsNil)))) (body := b_l_limits_f2 (callN F n)) barD
    (fun ys env s => ∃ (T : Tab) (v9 v10 v11 : Option D), env = [some R, some (.int (rs.length : Nat)), some (.loc (st.length + N)), none, none, w5, w6, w7, w8, v9, v10, v11] ∧ s = tabSt st N T ∧ Sq N T ∧ Diag N T ∧ (∀ k, k < rs.length → ta T rs.length k = pa (hisL rs) k ∧ ta T k rs.length = 0 - pa (losL rs) k) ∧
      ∃ ds, ds ++ ys = bs ∧ ∀ x : Nat → Int, Keeps N T x ↔ Keeps N T1 x ∧ ∀ c ∈ ds, x c.b.toNat - x c.a.toNat ≤ c.len)
    (by
      rintro c ys env s ⟨T, v9, v10, v11, rfl, rfl, hT, dg, rl, ds, hds, kp⟩
      refine ⟨_, _, rfl, ?_⟩
      obtain ⟨⟨a0, a1, b0, b1⟩, ne⟩ := hb c (by rw [← hds]; simp)
      obtain ⟨A, eA⟩ : ∃ A : Nat, c.a = A := ⟨c.a.toNat, by omega⟩
      obtain ⟨B, eB⟩ : ∃ B : Nat, c.b = B := ⟨c.b.toNat, by omega⟩
      have i1 := ix_tab (st := st) hT (show A < N by omega)
      have i2 := ix_row (st := st) hT (show A < N by omega) (show B < N by omega)
      have s1 := set_tab (st := st) (v := min (ta T A B) c.len) hT (show A < N by omega) (show B < N by omega)
      simp only [barD, b_l_limits_f2, eA, eB]
      repeat (first | walk_at "ev" | simp only [e_gtT, if_true, reduceIte, Nat.reduceAdd, i1, i2, s1])
      refine ⟨_, _, rfl, _, _, _, _, rfl, rfl, setT_sq hT (by omega), fun a ha => ?_, fun k hk => ?_, ds ++ [c], by rw [List.append_assoc]; exact hds, fun x => ?_⟩
      · rw [ta_setT hT (by omega) (by omega), if_neg (by omega)]
        exact dg a ha
      · rw [ta_setT hT (by omega) (by omega), ta_setT hT (by omega) (by omega), if_neg (by omega), if_neg (by omega)]
        exact rl k hk
      · have eq : Keeps N (setT T A B (min (ta T A B) c.len)) x ↔ Keeps N T x ∧ x B - x A ≤ c.len := by
          constructor
          · intro q
            have qq : ∀ a b, a < N → b < N → x b - x a ≤ if A = a ∧ B = b then min (ta T A B) c.len else ta T a b := fun a b ha hb' => by
              have := q a b ha hb'
              rwa [ta_setT hT (by omega) (by omega)] at this
            refine ⟨fun a b ha hb' => ?_, ?_⟩
            · have := qq a b ha hb'
              split at this
              · next e => obtain ⟨rfl, rfl⟩ := e; omega
              · exact this
            · have := qq A B (by omega) (by omega)
              rw [if_pos ⟨rfl, rfl⟩] at this
              omega
          · rintro ⟨q1, q2⟩ a b ha hb'
            rw [ta_setT hT (by omega) (by omega)]
            split
            · next e =>
              obtain ⟨rfl, rfl⟩ := e
              have := q1 A B ha hb'
              omega
            · exact q1 a b ha hb'
        rw [eq, kp x]
        have eAB : c.a.toNat = A ∧ c.b.toNat = B := by omega
        constructor
        · rintro ⟨⟨q1, q2⟩, q3⟩
          refine ⟨q1, fun d hd => ?_⟩
          rcases List.mem_append.mp hd with z | z
          · exact q2 d z
          · rw [List.mem_singleton.mp z, eAB.1, eAB.2]; exact q3
        · rintro ⟨q1, q2⟩
          refine ⟨⟨q1, fun d hd => q2 d (List.mem_append_left _ hd)⟩, ?_⟩
          have := q2 c (by simp)
          rwa [eAB.1, eAB.2] at this)
    bs [some R, some (.int (rs.length : Nat)), some (.loc (st.length + N)), none, none, w5, w6, w7, w8, none, none, none] (tabSt st N T1) ⟨T1, none, none, none, rfl, rfl, hT1, fun a ha => by
      rw [ta1 a a ha ha]
      unfold limE
      rw [if_neg (by omega), if_neg (by omega), if_pos rfl], fun k hk => by
      rw [ta1 _ _ (by omega) (by omega), ta1 _ _ (by omega) (by omega)]
      unfold limE
      rw [if_pos ⟨rfl, hk⟩, if_neg (by omega), if_pos ⟨rfl, hk⟩]
      exact ⟨rfl, rfl⟩, [], rfl, fun x => ⟨fun h => ⟨h, fun c hc => by simp at hc⟩, fun h => h.1⟩⟩
  obtain ⟨ds, hds, kp2⟩ := kp2
  rw [List.append_nil] at hds
  subst hds
  refine ⟨T2, ?_, ?_⟩
  · rw [call_eq hL rfl]
    have en := en_zip ringD rs 0
    simp only [e0, b_l_limits]
    repeat (first | walk_at "ev" | simp only [u, rg, tn, c1])
    have l1 : (st ++ rowsC T0).length = st.length + N := by rw [List.length_append, List.length_map, hT0.len]
    have l2 : st ++ rowsC T0 ++ [locsD st.length N] = tabSt st N T0 := rfl
    repeat (first | walk_at "ev" | simp only [l1, l2, u, en, k1])
    repeat (first | walk_at "ev" | simp only [u, k2, e_kfnR])
  · subst hN
    refine ⟨hT2, dg2, rl2, fun x hx => ?_⟩
    rw [kp2]
    have ne := nodes_end hx
    constructor
    · rintro ⟨h1, h2⟩
      have h3 : ∀ a b, a < rs.length + 1 → b < rs.length + 1 → nodes x b - nodes x a ≤ limE rs rs.length a b := fun a b ha hb' => by
        rw [← ta1 a b ha hb']
        exact h1 a b ha hb'
      refine ⟨fun i hi => ?_, fun a b ha hb' hab => ?_, h2⟩
      · have q1 := h3 rs.length i (by omega) (by omega)
        have q2 := h3 i rs.length (by omega) (by omega)
        unfold limE at q1 q2
        rw [if_pos ⟨rfl, hi⟩, ne] at q1
        rw [if_neg (by omega), if_pos ⟨rfl, hi⟩, ne] at q2
        unfold nodes at q1 q2
        omega
      · have q1 := h3 a b (by omega) (by omega)
        unfold limE at q1
        rw [if_neg (by omega), if_neg (by omega), if_neg hab] at q1
        exact q1
    · rintro ⟨h1, h2, h3⟩
      refine ⟨fun a b ha hb' => ?_, h3⟩
      rw [ta1 a b ha hb']
      unfold limE
      by_cases y1 : a = rs.length ∧ b < rs.length
      · rw [if_pos y1, y1.1, ne]
        have := (h1 b y1.2).2
        unfold nodes
        omega
      · rw [if_neg y1]
        by_cases y2 : b = rs.length ∧ a < rs.length
        · rw [if_pos y2, y2.1, ne]
          have := (h1 a y2.2).1
          unfold nodes
          omega
        · rw [if_neg y2]
          by_cases y3 : a = b
          · subst y3
            rw [if_pos rfl]
            omega
          · rw [if_neg y3]
            exact h2 a b (by omega) (by omega) y3
/-! ### closure -/
def rowsL (T : Tab) : List D := T.map fun r => .lst (r.map D.int)
theorem rowsL_at {N i : Nat} {T : Tab} (hT : Sq N T) (hi : i < N) : atI (rowsL T) (i : Int) = some (.lst ((T.getD i []).map D.int)) := by
  unfold rowsL
  rw [at_nat (by rw [List.length_map, hT.len]; exact hi), List.getElem_map, List.getD_eq_getElem?_getD, List.getElem?_eq_getElem (by rw [hT.len]; exact hi)]
  rfl
theorem rowsL_set {N i : Nat} {T : Tab} {r : List Int} {st : Sto} (hT : Sq N T) (hi : i < N) : setC (st ++ [rowsL T]) (.loc st.length) (.int (i : Nat)) (.lst (r.map D.int)) = some (st ++ [rowsL (T.set i r)]) := by
  show ((st ++ [rowsL T])[st.length]?).bind _ = _
  rw [List.getElem?_append_right (Nat.le_refl _), Nat.sub_self]
  show (ixN (rowsL T).length (i : Nat)).map _ = _
  unfold ixN
  rw [if_pos (by omega), if_pos (by unfold rowsL; rw [List.length_map, hT.len]; omega)]
  simp only [Option.map_some, Int.toNat_natCast]
  rw [List.set_append_right _ _ (Nat.le_refl _), Nat.sub_self, List.set_cons_zero]
  unfold rowsL
  rw [List.map_set]
set_option maxHeartbeats 16000000 in
theorem get_app {S g : Sto} {n : Nat} {c : List D} (h : S[n]? = some c) : (S ++ g)[n]? = some c := by
  have hl : n < S.length := by
    apply Classical.byContradiction
    intro hn
    rw [List.getElem?_eq_none (by omega)] at h
    cases h
  rw [List.getElem?_append_left hl]
  exact h
set_option maxHeartbeats 16000000 in
theorem closure_specG (hC : F "_law_closure" = some ⟨1, 7, b_l_closure⟩ := by first | assumption | rfl) (n : Nat) {N : Nat} {T : Tab} (hT : Sq N T) (hN : N ≤ 1000) (st g0 : Sto) :
    ∃ g, callN F (n + 1) "_law_closure" [.loc (st.length + N)] (tabSt st N T ++ g0) = some (.tup ((closeT N T).map plcD), tabSt st N T ++ g0 ++ g) := by
  generalize hS : tabSt st N T ++ g0 = S0
  have top : S0[st.length + N]? = some (locsD st.length N) := by rw [← hS]; exact get_app (tab_top hT)
  have gl : gLen S0 [.loc (st.length + N)] = some (.int (N : Nat)) := by
    show ((S0[st.length + N]?).map _) = _
    rw [top]
    show some (D.int ((locsD st.length N).length : Nat)) = _
    rw [locs_map, List.length_map, List.length_range]
  have sr : srcOf S0 (.loc (st.length + N)) = some (unchanged (st.length + N) (locsD st.length N), locsD st.length N) := by
    show ((S0[st.length + N]?).map _) = _
    rw [top]
    rfl
  have gr : ∀ i, i < N → gList S0 [.loc (st.length + i)] = some (.lst ((T.getD i []).map D.int)) := fun i hi => by
    show ((S0[st.length + i]?).map _) = _
    rw [← hS, get_app (tab_row hT hi)]
    rfl
  have c1 : lcL (unchanged (st.length + N) (locsD st.length N)) (gN 3) bYes (eBlt gList (aCons (eVar 3) aNil)) [some (.loc (st.length + N)), some (.int (N : Nat)), none, none, none, none, none] (locsD st.length N) S0 = some (rowsL T, S0) := by
    have h := lc_mapC (chk := unchanged (st.length + N) (locsD st.length N)) (tg := gN 3) (ifs := bYes) (elt := eBlt gList (aCons (eVar 3) aNil)) (env := [some (.loc (st.length + N)), some (.int (N : Nat)), none, none, none, none, none]) (s := S0) (fun i : Nat => D.loc (st.length + i)) (fun i : Nat => D.lst ((T.getD i []).map D.int)) (unchanged_iff.mpr top) (List.range N) (by
      intro i hi
      refine ⟨_, rfl, rfl, ?_⟩
      have k := gr i (List.mem_range.mp hi)
      repeat (first | walk_at "ev" | simp only [k]))
    rw [← locs_map] at h
    rw [h]
    congr 2
    unfold rowsL
    apply List.ext_getElem
    · simp [hT.len]
    · intro i h1 h2
      have hi : i < N := by simpa using h1
      simp only [List.getElem_map, List.getElem_range]
      rw [List.getD_eq_getElem?_getD, List.getElem?_eq_getElem (by rw [hT.len]; exact hi)]
      rfl
  have rg := fun s : Sto => e_krng1 (s := s) (j := ((N : Nat) : Int)) (by omega) (by omega)
  -- one row
  have row : ∀ (k i : Nat) (T : Tab) (v6 : Option D), Sq N T → k < N → i < N → b_l_closure_f1 (callN F n) [some (.loc (st.length + N)), some (.int (N : Nat)), some (.loc S0.length), none, some (.int (k : Nat)), some (.int (i : Nat)), v6] (S0 ++ [rowsL T]) =
      some (.nx [some (.loc (st.length + N)), some (.int (N : Nat)), some (.loc S0.length), none, some (.int (k : Nat)), some (.int (i : Nat)), v6], S0 ++ [rowsL (rowStep N k i T)]) := by
    intro k i T v6 hT hk hi
    have ri := rowsL_at hT hi
    have rk := rowsL_at hT hk
    have st1 := rowsL_set (st := S0) (r := vec N fun j => min (ta T i j) (ta T i k + ta T k j)) hT hi
    simp only [b_l_closure_f1]
    repeat (first | walk_at "ev" | simp only [rg, Int.toNat_natCast, rangeD_nat])
    rw [lc_map (fun j : Nat => D.int (j : Int)) (fun j : Nat => D.int (min (ta T i j) (ta T i k + ta T k j))) (List.range N) ?h]
    case h =>
      intro j hj
      have hj := List.mem_range.mp hj
      refine ⟨_, rfl, rfl, ?_⟩
      have a1 := row_at (r := T.getD i []) (j := j) (by rw [hT.row i hi]; exact hj)
      have a2 := row_at (r := T.getD i []) (j := k) (by rw [hT.row i hi]; exact hk)
      have a3 := row_at (r := T.getD k []) (j := j) (by rw [hT.row k hk]; exact hj)
      repeat (first | walk_at "ev" | simp only [ix_last, ri, rk, a1, a2, a3])
    have em : ((List.range N).map fun j : Nat => D.int (min (ta T i j) (ta T i k + ta T k j))) = (vec N fun j => min (ta T i j) (ta T i k + ta T k j)).map D.int := by
      unfold vec
      rw [List.map_map]
      rfl
    simp only [em]
    repeat (first | walk_at "ev" | simp only [st1])
    rfl
  obtain ⟨env', st', k1, T', v4, v5, v6, rfl, rfl, hT', hc⟩ := for_rel (tg := gN 4) (body := b_l_closure_f2 (callN F n)) (fun i : Nat => D.int (i : Int))
    (fun ks env s => ∃ (T' : Tab) (v4 v5 v6 : Option D), env = [some (.loc (st.length + N)), some (.int (N : Nat)), some (.loc S0.length), none, v4, v5, v6] ∧ s = S0 ++ [rowsL T'] ∧ (Sq N T' ∧ ∀ k ∈ ks, k < N) ∧ close N ks T' = closeT N T)
    (by
      rintro k ks env s ⟨T', v4, v5, v6, rfl, rfl, ⟨hT', hks⟩, hc⟩
      refine ⟨_, _, rfl, ?_⟩
      have hk := hks k List.mem_cons_self
      obtain ⟨env', st', k2, T2, w5, rfl, rfl, ⟨hT2, _⟩, hr⟩ := for_rel (tg := gN 5) (body := b_l_closure_f1 (callN F n)) (fun i : Nat => D.int (i : Int))
        (fun is env s => ∃ (T2 : Tab) (v5 : Option D), env = [some (.loc (st.length + N)), some (.int (N : Nat)), some (.loc S0.length), none, some (.int (k : Nat)), v5, v6] ∧ s = S0 ++ [rowsL T2] ∧ (Sq N T2 ∧ ∀ i ∈ is, i < N) ∧ rowsStep N k is T2 = rowsStep N k (List.range N) T')
        (by
          rintro i is env s ⟨T2, v5, rfl, rfl, ⟨hT2, his⟩, hr⟩
          refine ⟨_, _, rfl, ?_⟩
          have hi := his i List.mem_cons_self
          exact ⟨_, _, row k i T2 v6 hT2 hk hi, rowStep N k i T2, _, rfl, rfl, ⟨rowStep_sq hT2, fun j hj => his j (List.mem_cons_of_mem _ hj)⟩, hr⟩)
        (List.range N) [some (.loc (st.length + N)), some (.int (N : Nat)), some (.loc S0.length), none, some (.int (k : Nat)), v5, v6] (S0 ++ [rowsL T']) ⟨T', v5, rfl, rfl, ⟨hT', fun i hi => List.mem_range.mp hi⟩, rfl⟩
      have hr : T2 = rowsStep N k (List.range N) T' := hr
      simp only [b_l_closure_f2]
      repeat (first | walk_at "ev" | simp only [rg, Int.toNat_natCast, rangeD_nat, k2])
      exact ⟨_, _, rfl, T2, _, _, _, rfl, rfl, ⟨hT2, fun j hj => hks j (List.mem_cons_of_mem _ hj)⟩, by rw [hr]; exact hc⟩)
    (List.range N) [some (.loc (st.length + N)), some (.int (N : Nat)), some (.loc S0.length), none, none, none, none] (S0 ++ [rowsL T]) ⟨T, none, none, none, rfl, rfl, ⟨hT, fun i hi => List.mem_range.mp hi⟩, rfl⟩
  have hc : T' = closeT N T := hc
  subst hc
  have sr2 : srcOf (S0 ++ [rowsL (closeT N T)]) (.loc S0.length) = some (unchanged S0.length (rowsL (closeT N T)), rowsL (closeT N T)) := by
    show (((S0 ++ [rowsL (closeT N T)])[S0.length]?).map _) = _
    rw [List.getElem?_append_right (Nat.le_refl _), Nat.sub_self]
    rfl
  have un2 : unchanged S0.length (rowsL (closeT N T)) (S0 ++ [rowsL (closeT N T)]) = true := unchanged_iff.mpr (by
    rw [List.getElem?_append_right (Nat.le_refl _), Nat.sub_self]
    rfl)
  refine ⟨[rowsL (closeT N T)], ?_⟩
  rw [call_eq hC rfl]
  have e0 : startE 7 [.loc (st.length + N)] = [some (.loc (st.length + N)), none, none, none, none, none, none] := rfl
  simp only [e0, b_l_closure]
  repeat (first | walk_at "ev" | simp only [gl, sr, c1, rg, Int.toNat_natCast, rangeD_nat, k1, sr2])
  have fin : ∀ env : En, env.length = 7 → lcL (unchanged S0.length (rowsL (closeT N T))) (gN 3) bYes (eBlt gTuple (aCons (eVar 3) aNil)) env (rowsL (closeT N T)) (S0 ++ [rowsL (closeT N T)]) = some ((closeT N T).map plcD, S0 ++ [rowsL (closeT N T)]) := by
    intro env he
    refine lc_mapC (fun r : List Int => D.lst (r.map D.int)) plcD un2 (closeT N T) fun r _ => ⟨_, rfl, rfl, ?_⟩
    have g3 : (env.set 3 (some (D.lst (r.map D.int))))[3]? = some (some (D.lst (r.map D.int))) := List.getElem?_set_self (by omega)
    repeat (first | walk_at "ev" | simp only [g3])
  rw [fin _ rfl]
  repeat (first | walk_at "ev" | simp only [e_kfnR])
theorem closure_spec (hC : F "_law_closure" = some ⟨1, 7, b_l_closure⟩ := by first | assumption | rfl) (n : Nat) {N : Nat} {T : Tab} (hT : Sq N T) (hN : N ≤ 1000) (st : Sto) :
    ∃ g, callN F (n + 1) "_law_closure" [.loc (st.length + N)] (tabSt st N T) = some (.tup ((closeT N T).map plcD), tabSt st N T ++ g) := by
  have h := closure_specG hC n hT hN st []
  rwa [List.append_nil] at h
/-! ### points of a closed table -/
theorem o_maxL {s : Sto} {ns : List Int} (h : 0 < ns.length) : gMaxL s [.lst (ns.map D.int)] = some (.int (maxOf ns)) := by
  show (intsOf (ns.map D.int)).bind _ = _
  rw [intsOf_map]
  cases ns with
  | nil => simp at h
  | cons _ _ => rfl
theorem o_minL {s : Sto} {ns : List Int} (h : 0 < ns.length) : gMinL s [.lst (ns.map D.int)] = some (.int (minOf ns)) := by
  show (intsOf (ns.map D.int)).bind _ = _
  rw [intsOf_map]
  cases ns with
  | nil => simp at h
  | cons _ _ => rfl
def nds (n : Nat) (x : List Int) : List (Nat × Int) := (n, 0) :: x.zipIdx.map fun p => (p.2, p.1)
def ndD (p : Nat × Int) : D := .tup [.int (p.1 : Nat), .int p.2]
theorem nds_snoc (n : Nat) (x : List Int) (z : Int) : nds n (x ++ [z]) = nds n x ++ [(x.length, z)] := by
  unfold nds
  rw [List.zipIdx_append, List.map_append]
  simp
theorem nds_mem {n : Nat} {x : List Int} {p : Nat × Int} (h : p ∈ nds n x) : p = (n, 0) ∨ ∃ hi : p.1 < x.length, p.2 = x[p.1] := by
  rcases List.mem_cons.mp h with e | h
  · exact .inl e
  · obtain ⟨q, hq, rfl⟩ := List.mem_map.mp h
    have := List.mem_zipIdx hq
    exact .inr ⟨by simpa using this.2.1, by simpa using this.2.2⟩
theorem nds_in {n : Nat} {x : List Int} {i : Nat} (h : i < x.length) : (i, x[i]) ∈ nds n x := by
  refine List.mem_cons_of_mem _ (List.mem_map.mpr ⟨(x[i], i), ?_, rfl⟩)
  rw [List.mem_zipIdx_iff_getElem?]
  simpa using List.getElem?_eq_getElem h
def Fit (n : Nat) (T : Tab) (x : List Int) : Prop := ∀ p ∈ nds n x, ∀ q ∈ nds n x, q.2 - p.2 ≤ ta T p.1 q.1
theorem Fit.keeps {n : Nat} {T : Tab} {x : List Int} (hl : x.length = n) (h : Fit n T x) : Keeps (n + 1) T (nodes x) := by
  have mem : ∀ a, a < n + 1 → (a, nodes x a) ∈ nds n x := by
    intro a ha
    by_cases e : a = n
    · subst e
      rw [nodes_end hl]
      exact List.mem_cons_self
    · have := nds_in (n := n) (x := x) (i := a) (by omega)
      unfold nodes
      rwa [pa_get (by omega)]
  intro a b ha hb
  exact h _ (mem a ha) _ (mem b hb)
set_option maxHeartbeats 16000000 in
theorem point_spec (hN : F "_law_next" = some ⟨2, 9, b_l_next⟩ := by first | assumption | rfl) (hA : F "_law_amount" = some ⟨2, 3, b_l_amount⟩ := by first | assumption | rfl) (hP : F "_law_point" = some ⟨2, 9, b_l_point⟩ := by first | assumption | rfl)
    (k0 : Nat) {s : Dr} {b : Int} (hs : DOk s b) (hb : 30 ≤ b) (o : Sto) {n : Nat} (n8 : n ≤ 8) {T : Tab} (hT : Closed (n + 1) T) (hB : ∀ k, k < n → ta T n k + ta T k n < 10000000000000) :
    ∃ (x : List Int) (s' : Dr) (g : Sto), callN F (k0 + 3) "_law_point" [.loc 1, .tup (T.map plcD)] (mkSt s o) = some (plcD x, mkSt s' (o ++ g)) ∧ x.length = n ∧ Keeps (n + 1) T (nodes x) ∧ DOk s' (b - 30) := by
  have am := amounts_of hN hA k0
  have tl : (T.map plcD).length = n + 1 := by rw [List.length_map, hT.sq.len]
  have tr : ∀ i, i < n + 1 → atI (T.map plcD) (i : Int) = some (plcD (T.getD i [])) := fun i hi => by
    rw [at_nat (by rw [tl]; exact hi), List.getElem_map, List.getD_eq_getElem?_getD, List.getElem?_eq_getElem (by rw [hT.sq.len]; exact hi)]
    rfl
  have te : ∀ i j, i < n + 1 → j < n + 1 → atI ((T.getD i []).map D.int) (j : Int) = some (.int (ta T i j)) := fun i j hi hj => row_at (by rw [hT.sq.row i hi]; exact hj)
  obtain ⟨env', st', k1, s', x, v4, v5, v6, v7, v8, rfl, rfl, hl, hf, d'⟩ := for_rel (tg := gN 4) (body := b_l_point_f1 (callN F (k0 + 2))) (fun i : Nat => D.int (i : Int))
    (fun ys env st => ∃ (s : Dr) (x : List Int) (v4 v5 v6 v7 v8 : Option D), env = [some (.loc 1), some (.tup (T.map plcD)), some (.int (n : Nat)), some (.loc (o.length + 2)), v4, v5, v6, v7, v8] ∧ st = mkSt s (o ++ [(nds n x).map ndD]) ∧ ys = (List.range n).drop x.length ∧ (x.length ≤ n ∧ Fit n T x) ∧ DOk s (b - 30 + 3 * ys.length))
    (by
      rintro k ys env st ⟨s, x, v4, v5, v6, v7, v8, rfl, rfl, hy, ⟨hx, hf⟩, d⟩
      refine ⟨_, _, rfl, ?_⟩
      have hlt : x.length < n := by
        apply Classical.byContradiction
        intro hn
        rw [List.drop_eq_nil_of_le (by rw [List.length_range]; omega)] at hy
        cases hy
      rw [List.drop_eq_getElem_cons (by rw [List.length_range]; exact hlt)] at hy
      obtain ⟨hk, hys⟩ := List.cons.inj hy
      rw [List.getElem_range] at hk
      subst hk
      rw [List.length_cons] at d
      have nl : ∀ p ∈ nds n x, p.1 < n + 1 := by
        intro p hp
        rcases nds_mem hp with e | ⟨hi, _⟩
        · rw [e]; simp
        · omega
      have sr := src_at (s := s) (o := o) (l := [(nds n x).map ndD]) (n := o.length + 2) (k := 0) rfl rfl
      have un := un_at (s := s) (o := o) (l := [(nds n x).map ndD]) (n := o.length + 2) (k := 0) rfl rfl
      have len0 : ∀ f : Nat × Int → Int, 0 < ((nds n x).map f).length := fun f => by simp [nds]
      have mx := o_maxL (s := mkSt s (o ++ [(nds n x).map ndD])) (len0 fun p => p.2 - ta T x.length p.1)
      have mn := o_minL (s := mkSt s (o ++ [(nds n x).map ndD])) (len0 fun p => p.2 + ta T p.1 x.length)
      obtain ⟨mx1, mx2⟩ := maxOf_spec _ (len0 fun p => p.2 - ta T x.length p.1)
      obtain ⟨mn1, mn2⟩ := minOf_spec _ (len0 fun p => p.2 + ta T p.1 x.length)
      generalize maxOf ((nds n x).map fun p => p.2 - ta T x.length p.1) = lo at mx mx1 mx2
      generalize minOf ((nds n x).map fun p => p.2 + ta T p.1 x.length) = hi at mn mn1 mn2
      have lohi : lo ≤ hi := by
        obtain ⟨p, hp, ep⟩ := List.mem_map.mp mx1
        obtain ⟨q, hq, eq⟩ := List.mem_map.mp mn1
        have h1 := hf q hq p hp
        have h2 := hT.tri q.1 x.length p.1 (nl q hq) (by omega) (nl p hp)
        omega
      have w : hi - lo < 10000000000000 := by
        have h1 := mx2 _ (List.mem_map.mpr ⟨(n, 0), List.mem_cons_self, rfl⟩)
        have h2 := mn2 _ (List.mem_map.mpr ⟨(n, 0), List.mem_cons_self, rfl⟩)
        have := hB x.length hlt
        simp only [] at h1 h2
        omega
      obtain ⟨r, s1, ka, r0, r1, d1⟩ := am.n d (o ++ [(nds n x).map ndD]) (hi - lo) (by omega) (by omega) w
      have ap := app_at (s := s1) (o := o) (l := [(nds n x).map ndD]) (d := ndD (x.length, lo + r)) (n := o.length + 2) (k := 0) (a := (nds n x).map ndD) rfl rfl (fits_small (by rw [List.length_map]; simp [nds]; omega))
      have ap : kApp2 (.loc (o.length + 2)) (.tup [.int (x.length : Nat), .int (lo + r)], mkSt s1 (o ++ [(nds n x).map ndD])) = _ := ap
      have t1 := tr x.length (by omega)
      simp only [b_l_point_f1]
      repeat (first | walk_at "ev" | simp only [sr])
      rw [lc_mapC ndD (fun p => .int (p.2 - ta T x.length p.1)) un (nds n x) ?h1]
      case h1 =>
        intro p hp
        refine ⟨_, rfl, rfl, ?_⟩
        have t2 := te x.length p.1 (by omega) (nl p hp)
        repeat (first | walk_at "ev" | simp only [t1, t2])
      have em1 : ((nds n x).map fun p => D.int (p.2 - ta T x.length p.1)) = ((nds n x).map fun p => p.2 - ta T x.length p.1).map D.int := by rw [List.map_map]; rfl
      simp only [em1]
      repeat (first | walk_at "ev" | simp only [mx, sr])
      rw [lc_mapC ndD (fun p => .int (p.2 + ta T p.1 x.length)) un (nds n x) ?h2]
      case h2 =>
        intro p hp
        refine ⟨_, rfl, rfl, ?_⟩
        have t2 := te p.1 x.length (nl p hp) (by omega)
        have t3 := tr p.1 (nl p hp)
        repeat (first | walk_at "ev" | simp only [t3, t2])
      have em2 : ((nds n x).map fun p => D.int (p.2 + ta T p.1 x.length)) = ((nds n x).map fun p => p.2 + ta T p.1 x.length).map D.int := by rw [List.map_map]; rfl
      simp only [em2]
      repeat (first | walk_at "ev" | simp only [mn, ka, ap])
      refine ⟨_, _, rfl, s1, x ++ [lo + r], _, _, _, _, _, rfl, ?_, ?_, ⟨by rw [List.length_append]; simp; omega, ?_⟩, d1.mono (by omega)⟩
      · rw [nds_snoc, List.map_append]
        rfl
      · rw [hys, List.length_append]
        rfl
      · intro p hp q hq
        rw [nds_snoc] at hp hq
        rcases List.mem_append.mp hp with zp | zp <;> rcases List.mem_append.mp hq with zq | zq
        · exact hf p zp q zq
        · rw [List.mem_singleton.mp zq]
          have := mn2 _ (List.mem_map.mpr ⟨p, zp, rfl⟩)
          simp only []
          omega
        · rw [List.mem_singleton.mp zp]
          have := mx2 _ (List.mem_map.mpr ⟨q, zq, rfl⟩)
          simp only []
          omega
        · rw [List.mem_singleton.mp zp, List.mem_singleton.mp zq]
          have := hT.diag x.length (by omega)
          simp only []
          omega)
    (List.range n) [some (.loc 1), some (.tup (T.map plcD)), some (.int (n : Nat)), some (.loc (o.length + 2)), none, none, none, none, none] (mkSt s (o ++ [(nds n []).map ndD])) ⟨s, [], none, none, none, none, none, rfl, rfl, rfl, ⟨Nat.zero_le _, by
      intro p hp q hq
      have e1 : p = (n, 0) := List.mem_singleton.mp hp
      have e2 : q = (n, 0) := List.mem_singleton.mp hq
      rw [e1, e2]
      have := hT.diag n (by omega)
      simp only []
      omega⟩, hs.mono (by rw [List.length_range]; omega)⟩
  have hlen : x.length = n := by
    apply Classical.byContradiction
    intro hn
    rw [List.drop_eq_getElem_cons (by rw [List.length_range]; have := hf.1; omega)] at hl
    cases hl
  refine ⟨x, s', [(nds n x).map ndD], ?_, hlen, hf.2.keeps hlen, d'.mono (by simp)⟩
  rw [call_eq hP rfl]
  have e0 : startE 9 [.loc 1, .tup (T.map plcD)] = [some (.loc 1), some (.tup (T.map plcD)), none, none, none, none, none, none, none] := rfl
  have hr : (((T.map plcD).length : Nat) : Int) - 1 = (n : Nat) := by rw [tl]; omega
  have hr2 : ((T.length : Nat) : Int) - 1 = (n : Nat) := by rw [hT.sq.len]; omega
  have ml : (mkSt s o).length = o.length + 2 := rfl
  have rg := e_krng1 (s := mkSt s (o ++ [(nds n []).map ndD])) (j := ((n : Nat) : Int)) (by omega) (by omega)
  have nd0 : mkSt s o ++ [[.tup [.int (n : Nat), .int 0]]] = mkSt s (o ++ [(nds n []).map ndD]) := rfl
  have sl : sliceD (mkSt s' (o ++ [(nds n x).map ndD])) (some 1) none (.loc (o.length + 2)) = some (.lst ((x.zipIdx.map fun p => (p.2, p.1)).map ndD)) := by
    show ((mkSt s' (o ++ [(nds n x).map ndD]))[o.length + 2]?).map _ = _
    rw [mk_get (k := 0) rfl]
    show some (D.lst (cutD ((nds n x).map ndD) (some 1) none)) = _
    rw [cut_from (by decide)]
    rfl
  simp only [e0, b_l_point]
  repeat (first | walk_at "ev" | simp only [hr, hr2, ml, nd0, rg, Int.toNat_natCast, rangeD_nat, k1, sl])
  rw [lc_map ndD (fun p => .int p.2) (x.zipIdx.map fun p => (p.2, p.1)) ?h]
  case h => exact fun p _ => ⟨_, rfl, rfl, by walk_at "ev"⟩
  repeat (first | walk_at "ev" | simp only [e_kfnR])
  have : (x.zipIdx.map fun p => (p.2, p.1)).map (fun p : Nat × Int => D.int p.2) = x.map D.int := by
    rw [List.map_map]
    conv => rhs; rw [← List.zipIdx_map_fst 0 x]
    rw [List.map_map]
    rfl
  rw [this]
end
end Tg
/-! The energy: what is computed, and that it is convex. -/

namespace Tg
open PySem PySem.Spec PyProof.Rows L2
-- lib _law_energy 785212 b_l_energy 2 7
noncomputable def b_l_energy_f1 (C : Orc) : DS := (sSeq (sAsg (eOp oAdd (eVar 2) (eOp oMul (eOp oIx (eVar 4) (eC (.int 3))) (eBlt gMax2 (aCons (eC (.int 0)) (aCons (eOp oSub (eVar 3) (eOp oIx (eVar 4) (eC (.int 2)))) aNil))))) (gN 2))
    sNil)
noncomputable def b_l_energy (C : Orc) : DS := (sSeq (sAsg (eC (.int 0)) (gN 2))
    (sSeq (sFor (iZip (eCall C "_law_stretches" (aCons (eOp oIx (eVar 0) (eC (.int 1))) (aCons (eVar 1) aNil))) (eOp oIx (eVar 0) (eC (.int 1)))) (gT 2 (gsCons (gN 3) (gsCons (gN 4) gsNil))) (b_l_energy_f1 C))
    (sSeq (sRet (eOp oSub (eVar 2) (eBlt gSum (aCons (eLc [5, 6] (iZip (eOp oIx (eVar 0) (eC (.int 0))) (eVar 1)) (gT 2 (gsCons (gN 5) (gsCons (gN 6) gsNil))) bYes (eOp oMul (eOp oIx (eVar 5) (eC (.int 2))) (eVar 6))) aNil))))
    sNil)))
-- lib part_stretches 31f336 b_part_stretches 2 5
noncomputable def b_part_stretches (C : Orc) : DS := (sSeq (sAsg (eBlt gTuple (aCons (eLc [3] (iSeq (eOp oIx (eVar 0) (eC (.int 1)))) (gN 3) bYes (eCall C "stretch_of" (aCons (eVar 3) (aCons (eVar 1) aNil)))) aNil)) (gN 2))
    (sSeq (sRet (eTup (aCons (eVar 2) (aCons (eBlt gTuple (aCons (eLc [4] (iSeq (eOp oIx (eVar 0) (eC (.int 2)))) (gN 4) bYes (eCall C "stretch_of" (aCons (eVar 4) (aCons (eVar 1) aNil)))) aNil)) aNil))))
    sNil))
-- lib energy_of d4f7ba b_energy_of 2 6
noncomputable def b_energy_of (C : Orc) : DS := (sSeq (sAsg (eBlt gSum (aCons (eLc [3] (iSeq (eOp oIx (eVar 0) (eC (.int 1)))) (gN 3) bYes (eOp oMul (eOp oIx (eVar 3) (eC (.int 3))) (eBlt gMax2 (aCons (eC (.int 0)) (aCons (eOp oSub (eCall C "stretch_of" (aCons (eVar 3) (aCons (eVar 1) aNil))) (eOp oIx (eVar 3) (eC (.int 2)))) aNil))))) aNil)) (gN 2))
    (sSeq (sRet (eOp oSub (eVar 2) (eBlt gSum (aCons (eLc [4, 5] (iZip (eOp oIx (eVar 0) (eC (.int 0))) (eVar 1)) (gT 2 (gsCons (gN 4) (gsCons (gN 5) gsNil))) bYes (eOp oMul (eOp oIx (eVar 4) (eC (.int 2))) (eVar 5))) aNil))))
    sNil))
def drawnE (y : List Int) (c : Cord) : Int := c.w * max 0 (gap y c.a c.b - c.len)
def loadE (q : Ring × Int) : Int := q.1.ld * q.2
def enL (rs : List Ring) (cs : List Cord) (y : List Int) : Int := (cs.map (drawnE y)).sum - ((rs.zip y).map loadE).sum
structure EOk (rs : List Ring) (cs : List Cord) (y : List Int) : Prop where
  ix : ∀ c ∈ cs, CIx y.length c ∧ 1 ≤ c.w ∧ c.w ≤ 1000000000000
  ld : ∀ r ∈ rs, -1000000000000 ≤ r.ld ∧ r.ld ≤ 1000000000000
theorem VRig.e {rs : List Ring} {cs : List Cord} {bs : List Bar} (v : VRig rs cs bs) {y : List Int} (h : y.length = rs.length) : EOk rs cs y :=
  ⟨fun c hc => by
    obtain ⟨a, _, _, _, b, d⟩ := v.cord c hc
    rw [h]
    exact ⟨a, b, by omega⟩, fun r hr => by
    have := v.ring r hr
    omega⟩
section
variable {F : String → Option Fn}
theorem load_sum {st : Sto} {rs : List Ring} {cs : List Cord} {y : List Int} (h : EOk rs cs y) {i j : Nat} (ij : i ≠ j) {env : En} (hi : i < env.length) (hj : j < env.length) :
    lcL always (gT 2 (gsCons (gN i) (gsCons (gN j) gsNil))) bYes (eOp oMul (eOp oIx (eVar i) (eC (.int 2))) (eVar j)) env ((rs.zip y).map fun q => .tup [ringD q.1, .int q.2]) st = some (((rs.zip y).map loadE).map D.int, st) := by
  rw [List.map_map]
  refine lc_map (fun q : Ring × Int => D.tup [ringD q.1, .int q.2]) (fun q => D.int (loadE q)) _ fun q hq => ⟨_, rfl, rfl, ?_⟩
  have hr := h.ld q.1 (List.of_mem_zip hq).1
  have m := o_mul (s := st) (mulOk_l (a := q.1.ld) (b := q.2) (by omega) (by omega))
  have gi : ((env.set i (some (ringD q.1))).set j (some (.int q.2)))[i]? = some (some (ringD q.1)) := by
    rw [List.getElem?_set_ne (Ne.symm ij), List.getElem?_set_self hi]
  have gj : ((env.set i (some (ringD q.1))).set j (some (.int q.2)))[j]? = some (some (.int q.2)) := List.getElem?_set_self (by rw [List.length_set]; exact hj)
  have u : ∀ i, oIx st (ringD q.1) (.int i) = atI [.int q.1.lo, .int q.1.hi, .int q.1.ld] i := fun i => rfl
  repeat (first | walk_at "ev" | simp only [gi, gj, u, m])
  rfl
theorem energy_spec (h1 : F "stretch_of" = some ⟨2, 2, b_stretch_of⟩ := by first | assumption | rfl) (h2 : F "energy_of" = some ⟨2, 6, b_energy_of⟩ := by first | assumption | rfl) (n : Nat) {rs : List Ring} {cs : List Cord} {bs : D} {y : List Int} (h : EOk rs cs y) (st : Sto) :
    callN F (n + 2) "energy_of" [.tup [.tup (rs.map ringD), .tup (cs.map cordD), bs], plcD y] st = some (.int (enL rs cs y), st) := by
  rw [call_eq h2 rfl]
  generalize hR : D.tup [.tup (rs.map ringD), .tup (cs.map cordD), bs] = R
  have u : ∀ (s : Sto) i, oIx s R (.int i) = atI [.tup (rs.map ringD), .tup (cs.map cordD), bs] i := fun s i => by rw [← hR]; rfl
  have e0 : startE 6 [R, plcD y] = [some R, some (plcD y), none, none, none, none] := rfl
  simp only [e0, b_energy_of]
  repeat (first | walk_at "ev" | simp only [u])
  rw [lc_map cordD (fun c => .int (drawnE y c)) cs ?h]
  case h =>
    intro c hc
    refine ⟨_, rfl, rfl, ?_⟩
    obtain ⟨ix, w0, w1⟩ := h.ix c hc
    have k := stretch_cord_spec h1 n ix st
    have m := o_mul (s := st) (mulOk_l (a := c.w) (b := max 0 (gap y c.a c.b - c.len)) (by omega) (by omega))
    have uc : ∀ i, oIx st (cordD c) (.int i) = atI [.int c.a, .int c.b, .int c.len, .int c.w] i := fun i => rfl
    repeat (first | walk_at "ev" | simp only [k, uc, m])
    rfl
  have em : (cs.map fun c => D.int (drawnE y c)) = (cs.map (drawnE y)).map D.int := by rw [List.map_map]; rfl
  simp only [em]
  repeat (first | walk_at "ev" | simp only [u, pairs_zip])
  rw [load_sum h (by decide) (by simp) (by simp)]
  repeat (first | walk_at "ev" | simp only [e_kfnR])
  rfl
theorem lenergy_spec (h1 : F "_law_stretches" = some ⟨2, 3, b_l_stretches⟩ := by first | assumption | rfl) (h2 : F "_law_energy" = some ⟨2, 7, b_l_energy⟩ := by first | assumption | rfl) (n : Nat) {rs : List Ring} {cs : List Cord} {bs : D} {y : List Int} (h : EOk rs cs y) (st : Sto) :
    callN F (n + 2) "_law_energy" [.tup [.tup (rs.map ringD), .tup (cs.map cordD), bs], plcD y] st = some (.int (enL rs cs y), st) := by
  rw [call_eq h2 rfl]
  generalize hR : D.tup [.tup (rs.map ringD), .tup (cs.map cordD), bs] = R
  have u : ∀ (s : Sto) i, oIx s R (.int i) = atI [.tup (rs.map ringD), .tup (cs.map cordD), bs] i := fun s i => by rw [← hR]; rfl
  have e0 : startE 7 [R, plcD y] = [some R, some (plcD y), none, none, none, none, none] := rfl
  have k := lstretches_cords h1 n (y := y) (bs := cs) (fun c hc => (h.ix c hc).1) st
  have zp : pairsD ((cs.map fun c => gap y c.a c.b).map D.int) (cs.map cordD) = cs.map fun c => .tup [.int (gap y c.a c.b), cordD c] := by
    rw [List.map_map]
    exact pairs_map _ _ cs
  obtain ⟨env', st', f1, i, v3, v4, rfl, rfl, hi, _⟩ := for_rel (tg := gT 2 (gsCons (gN 3) (gsCons (gN 4) gsNil))) (body := b_l_energy_f1 (callN F (n + 1))) (fun c : Cord => D.tup [.int (gap y c.a c.b), cordD c])
    (fun ys env s => ∃ (i : Int) (v3 v4 : Option D), env = [some R, some (plcD y), some (.int i), v3, v4, none, none] ∧ s = st ∧ i + (ys.map (drawnE y)).sum = (cs.map (drawnE y)).sum ∧ ∀ c ∈ ys, c ∈ cs)
    (by
      rintro c ys env s ⟨i, v3, v4, rfl, rfl, hi, hm⟩
      refine ⟨_, _, rfl, ?_⟩
      obtain ⟨ix, w0, w1⟩ := h.ix c (hm c List.mem_cons_self)
      have m := o_mul (s := s) (mulOk_l (a := c.w) (b := max 0 (gap y c.a c.b - c.len)) (by omega) (by omega))
      have uc : ∀ i, oIx s (cordD c) (.int i) = atI [.int c.a, .int c.b, .int c.len, .int c.w] i := fun i => rfl
      simp only [b_l_energy_f1]
      repeat (first | walk_at "ev" | simp only [uc, m])
      rw [List.map_cons, List.sum_cons] at hi
      exact ⟨_, _, rfl, i + drawnE y c, _, _, rfl, rfl, by rw [Int.add_assoc]; exact hi, fun d hd => hm d (List.mem_cons_of_mem _ hd)⟩)
    cs [some R, some (plcD y), some (.int 0), none, none, none, none] st ⟨0, none, none, rfl, rfl, by rw [Int.zero_add], fun c hc => hc⟩
  rw [List.map_nil, List.sum_nil, Int.add_zero] at hi
  subst hi
  simp only [e0, b_l_energy]
  repeat (first | walk_at "ev" | simp only [u, k, zp, f1, pairs_zip])
  rw [load_sum h (by decide) (by simp) (by simp)]
  repeat (first | walk_at "ev" | simp only [e_kfnR])
  rfl
theorem parts_spec (h1 : F "stretch_of" = some ⟨2, 2, b_stretch_of⟩ := by first | assumption | rfl) (h2 : F "part_stretches" = some ⟨2, 5, b_part_stretches⟩ := by first | assumption | rfl) (n : Nat) {rs : D} {cs : List Cord} {bs : List Bar} {y : List Int} (hc : ∀ c ∈ cs, CIx y.length c) (hb : ∀ c ∈ bs, BIx y.length c) (st : Sto) :
    callN F (n + 2) "part_stretches" [.tup [rs, .tup (cs.map cordD), .tup (bs.map barD)], plcD y] st = some (.tup [plcD (cs.map fun c => gap y c.a c.b), plcD (bs.map fun c => gap y c.a c.b)], st) := by
  rw [call_eq h2 rfl]
  generalize hR : D.tup [rs, .tup (cs.map cordD), .tup (bs.map barD)] = R
  have u : ∀ (s : Sto) i, oIx s R (.int i) = atI [rs, .tup (cs.map cordD), .tup (bs.map barD)] i := fun s i => by rw [← hR]; rfl
  have e0 : startE 5 [R, plcD y] = [some R, some (plcD y), none, none, none] := rfl
  simp only [e0, b_part_stretches]
  repeat (first | walk_at "ev" | simp only [u])
  rw [lc_map cordD (fun c => .int (gap y c.a c.b)) cs ?h]
  case h =>
    intro c hcm
    have k := stretch_cord_spec h1 n (hc c hcm) st
    exact ⟨_, rfl, rfl, by repeat (first | walk_at "ev" | simp only [k])⟩
  repeat (first | walk_at "ev" | simp only [u])
  rw [lc_map barD (fun c => .int (gap y c.a c.b)) bs ?h2]
  case h2 =>
    intro c hcm
    have k := stretch_bar_spec h1 n (hb c hcm) st
    exact ⟨_, rfl, rfl, by repeat (first | walk_at "ev" | simp only [k])⟩
  repeat (first | walk_at "ev" | simp only [e_kfnR])
  simp only [plcD, List.map_map, Function.comp_def]
end
/-! ### two placements -/
/-- a pair of pointwise operations that keeps sums, and does not grow a stretch beyond both -/
structure Pw (f g : Int → Int → Int) : Prop where
  sum : ∀ a b, f a b + g a b = a + b
  cvx : ∀ a a' b b' l, max 0 (f b b' - f a a' - l) + max 0 (g b b' - g a a' - l) ≤ max 0 (b - a - l) + max 0 (b' - a' - l)
theorem pw_mm : Pw min max := ⟨fun a b => by omega, fun a a' b b' l => by omega⟩
theorem pw_mid : Pw downF upF := ⟨fun a b => by unfold downF upF; omega, fun a a' b b' l => by unfold downF upF; omega⟩
theorem sum_le2 {α : Type} (f g h k : α → Int) : ∀ xs : List α, (∀ x ∈ xs, f x + g x ≤ h x + k x) → (xs.map f).sum + (xs.map g).sum ≤ (xs.map h).sum + (xs.map k).sum
  | [], _ => by simp
  | x :: xs, hx => by
    have := sum_le2 f g h k xs fun y hy => hx y (List.mem_cons_of_mem _ hy)
    have := hx x List.mem_cons_self
    simp only [List.map_cons, List.sum_cons]
    omega
theorem load_lin {f g : Int → Int → Int} (hs : ∀ a b, f a b + g a b = a + b) : ∀ (rs : List Ring) (x y : List Int), x.length = y.length → ((rs.zip (zw f x y)).map loadE).sum + ((rs.zip (zw g x y)).map loadE).sum = ((rs.zip x).map loadE).sum + ((rs.zip y).map loadE).sum
  | [], _, _, _ => by simp
  | _ :: _, [], [], _ => by simp [zw]
  | r :: rs, a :: x, b :: y, h => by
    have ih := load_lin hs rs x y (by simpa using h)
    have e : ∀ f : Int → Int → Int, zw f (a :: x) (b :: y) = f a b :: zw f x y := fun f => rfl
    simp only [e, List.zip_cons_cons, List.map_cons, List.sum_cons]
    have : loadE (r, f a b) + loadE (r, g a b) = loadE (r, a) + loadE (r, b) := by
      unfold loadE
      simp only []
      rw [← Int.mul_add, ← Int.mul_add, hs]
    omega
  | _ :: _, [], _ :: _, h => by simp at h
  | _ :: _, _ :: _, [], h => by simp at h
theorem gap_pa {y : List Int} {a b : Int} : gap y a b = pa y b.toNat - pa y a.toNat := rfl
theorem en_cvx {f g : Int → Int → Int} (P : Pw f g) {rs : List Ring} {cs : List Cord} {x y : List Int} (hl : x.length = y.length) (hx : EOk rs cs x) : enL rs cs (zw f x y) + enL rs cs (zw g x y) ≤ enL rs cs x + enL rs cs y := by
  unfold enL
  have h1 := load_lin P.sum rs x y hl
  have h2 := sum_le2 (drawnE (zw f x y)) (drawnE (zw g x y)) (drawnE x) (drawnE y) cs (by
    intro c hc
    obtain ⟨⟨a0, a1, b0, b1⟩, w0, _⟩ := hx.ix c hc
    unfold drawnE
    rw [gap_pa, gap_pa, gap_pa, gap_pa, pa_zw (by omega) (by omega), pa_zw (by omega) (by omega), pa_zw (by omega) (by omega), pa_zw (by omega) (by omega), ← Int.mul_add, ← Int.mul_add]
    exact Int.mul_le_mul_of_nonneg_left (P.cvx _ _ _ _ _) (by omega))
  omega
theorem plc_zw {f : Int → Int → Int} {rs : List Ring} {bs : List Bar} {x y : List Int} (hx : Plc rs bs x) (hy : Plc rs bs y) (hb : ∀ c ∈ bs, BIx rs.length c)
    (h1 : ∀ l a b, l ≤ a → l ≤ b → l ≤ f a b) (h2 : ∀ l a b, a ≤ l → b ≤ l → f a b ≤ l) (h3 : ∀ a a' b b' l, b - a ≤ l → b' - a' ≤ l → f b b' - f a a' ≤ l) : Plc rs bs (zw f x y) := by
  have xl := hx.len
  have yl := hy.len
  refine ⟨by rw [zw_len (by omega)]; exact xl, fun i hi => ?_, fun i hi => ?_, fun c hc => ?_⟩
  · rw [pa_zw (by omega) (by omega)]
    exact h1 _ _ _ (hx.lo i hi) (hy.lo i hi)
  · rw [pa_zw (by omega) (by omega)]
    exact h2 _ _ _ (hx.hi i hi) (hy.hi i hi)
  · obtain ⟨a0, a1, b0, b1⟩ := hb c hc
    rw [pa_zw (by omega) (by omega), pa_zw (by omega) (by omega)]
    exact h3 _ _ _ _ _ (hx.bar c hc) (hy.bar c hc)
end Tg
/-! Moves of groups. -/

namespace Tg
open PySem PySem.Spec PyProof.Rows L2
-- lib after_moves e4630c b_after_moves 4 7
noncomputable def b_after_moves (C : Orc) : DS := (sSeq (sAsg (eIf (bVal (eOp oEq (eVar 2) (eC (.str (Str.ofString "right"))))) (eVar 3) (eOp oSub (eC (.int 0)) (eVar 3))) (gN 4))
    (sSeq (sRet (eBlt gTuple (aCons (eLc [5, 6] (iEn (eVar 0)) (gT 2 (gsCons (gN 5) (gsCons (gN 6) gsNil))) bYes (eIf (bVal (eOp (oInS false) (eVar 5) (eVar 1))) (eOp oAdd (eVar 6) (eVar 4)) (eVar 6))) aNil)))
    sNil))
-- lib count_moves 87a78a b_count_moves 1 4
noncomputable def b_count_moves (C : Orc) : DS := (sSeq (sRet (eBlt gSum (aCons (eLc [1, 2, 3] (iSeq (eVar 0)) (gT 3 (gsCons (gN 1) (gsCons (gN 2) (gsCons (gN 3) gsNil)))) bYes (eVar 3)) aNil)))
    sNil)
-- lib apply_moves fe1b9b b_apply_moves 4 9
noncomputable def b_apply_moves_f1 (C : Orc) : DS := (sSeq (sAsg (eBlt gMin2 (aCons (eVar 7) (aCons (eVar 4) aNil))) (gN 8))
    (sSeq (sAsg (eCall C "after_moves" (aCons (eVar 1) (aCons (eVar 5) (aCons (eVar 6) (aCons (eVar 8) aNil))))) (gN 1))
    (sSeq (sAug 4 oSub (eVar 8))
    sNil)))
noncomputable def b_apply_moves (C : Orc) : DS := (sSeq (sAsg (eVar 3) (gN 4))
    (sSeq (sFor (iSeq (eVar 2)) (gT 3 (gsCons (gN 5) (gsCons (gN 6) (gsCons (gN 7) gsNil)))) (b_apply_moves_f1 C))
    (sSeq (sRet (eVar 1))
    sNil)))
-- lib _law_shifted 7eb608 b_l_shifted 4 7
noncomputable def b_l_shifted (C : Orc) : DS := (sSeq (sAsg (eOp oIx (eLst (aCons (eOp oSub (eC (.int 0)) (eVar 3)) (aCons (eVar 3) aNil))) (eBlt gInt (aCons (eOp oEq (eVar 2) (eC (.str (Str.ofString "right")))) aNil))) (gN 4))
    (sSeq (sRet (eBlt gTuple (aCons (eLc [5, 6] (iEn (eVar 0)) (gT 2 (gsCons (gN 5) (gsCons (gN 6) gsNil))) bYes (eOp oAdd (eVar 6) (eOp oMul (eVar 4) (eBlt gInt (aCons (eOp (oInS false) (eVar 5) (eVar 1)) aNil))))) aNil)))
    sNil))
-- lib _law_any_group fdb6bc b_l_any_group 2 4
noncomputable def b_l_any_group (C : Orc) : DS := (sSeq (sAsg (eBlt gTuple (aCons (eLc [3] (iRng (aCons (eVar 1) aNil)) (gN 3) (bVal (eOp oEq (eCall C "_law_next" (aCons (eVar 0) (aCons (eC (.int 2)) aNil))) (eC (.int 0)))) (eVar 3)) aNil)) (gN 2))
    (sSeq (sRet (eIf (bVal (eOp oNe (eVar 2) (eTup aNil))) (eVar 2) (eTup (aCons (eCall C "_law_next" (aCons (eVar 0) (aCons (eVar 1) aNil))) aNil))))
    sNil))
-- lib _law_room 841baf b_l_room 4 14
noncomputable def b_l_room_f1 (C : Orc) : DS := (sSeq (sIf (bVal (eOp oGt (eOp oMul (eVar 4) (eOp oSub (eBlt gInt (aCons (eOp (oInS false) (eVar 12) (eVar 2)) aNil)) (eBlt gInt (aCons (eOp (oInS false) (eVar 11) (eVar 2)) aNil)))) (eC (.int 0)))) (sSeq (sExpr (eAppend (eVar 8) (eOp oSub (eVar 13) (eVar 10))))
    sNil) sNil)
    sNil)
noncomputable def b_l_room (C : Orc) : DS := (sSeq (sAsg (eOp oIx (eLst (aCons (eUn oNeg (eC (.int 1))) (aCons (eC (.int 1)) aNil))) (eBlt gInt (aCons (eOp oEq (eVar 3) (eC (.str (Str.ofString "right")))) aNil))) (gN 4))
    (sSeq (sAsg (eLc [6, 7] (iZip (eVar 1) (eOp oIx (eVar 0) (eC (.int 0)))) (gT 2 (gsCons (gN 6) (gsCons (gN 7) gsNil))) bYes (eIf (bVal (eOp oLt (eVar 4) (eC (.int 0)))) (eOp oSub (eVar 6) (eOp oIx (eVar 7) (eC (.int 0)))) (eOp oSub (eOp oIx (eVar 7) (eC (.int 1))) (eVar 6)))) (gN 5))
    (sSeq (sAsg (eMLc [9, 10] (iEn (eVar 5)) (gT 2 (gsCons (gN 9) (gsCons (gN 10) gsNil))) (bVal (eOp (oInS false) (eVar 9) (eVar 2))) (eVar 10)) (gN 8))
    (sSeq (sFor (iZip (eOp oIx (eVar 0) (eC (.int 2))) (eCall C "_law_stretches" (aCons (eOp oIx (eVar 0) (eC (.int 2))) (aCons (eVar 1) aNil)))) (gT 2 (gsCons (gT 3 (gsCons (gN 11) (gsCons (gN 12) (gsCons (gN 13) gsNil)))) (gsCons (gN 10) gsNil))) (b_l_room_f1 C))
    (sSeq (sRet (eBlt gMinL (aCons (eVar 8) aNil)))
    sNil)))))
/-! ### more equations -/
def kAug (i : Nat) (o : Sto → D → D → Option D) (f : DE) (env : En) (st : Sto) : Option (Option D) → Option (Fl × Sto)
  | some (some x) => (f env st).bind fun p => (o p.2 x p.1).map fun d => (.nx (env.set i (some d)), p.2)
  | _ => none
def kAug2 (i : Nat) (o : Sto → D → D → Option D) (x : D) (env : En) (p : D × Sto) : Option (Fl × Sto) := (o p.2 x p.1).map fun d => (.nx (env.set i (some d)), p.2)
def kAug3 (i : Nat) (env : En) (s : Sto) (d : D) : Fl × Sto := (.nx (env.set i (some d)), s)
theorem e_aug {i : Nat} {o : Sto → D → D → Option D} {f : DE} {env : En} {st : Sto} : sAug i o f env st = kAug i o f env st env[i]? := by
  unfold sAug kAug
  rfl
theorem e_kaug {i : Nat} {o : Sto → D → D → Option D} {f : DE} {env : En} {st : Sto} {x : D} : kAug i o f env st (some (some x)) = (f env st).bind (kAug2 i o x env) := rfl
theorem e_kaug2 {i : Nat} {o : Sto → D → D → Option D} {env : En} {s : Sto} {x d : D} : kAug2 i o x env (d, s) = (o s x d).map (kAug3 i env s) := rfl
theorem e_kaug3 {i : Nat} {env : En} {s : Sto} {d : D} : kAug3 i env s d = (.nx (env.set i (some d)), s) := rfl
theorem flat_ints : ∀ g : List Int, flatDs (g.map D.int) = some (g.map V.int)
  | [] => rfl
  | x :: g => by
    rw [List.map_cons]
    show (flatDs (g.map D.int)).map _ = _
    rw [flat_ints g]
    rfl
theorem in_ints {st : Sto} {k : Int} {g : List Int} : oInS false st (.int k) (plcD g) = some (.bl (decide (k ∈ g))) := by
  show ((flatDs (g.map D.int)).map fun vs => D.bl (inV (.int k) vs)) = _
  rw [flat_ints]
  show some (D.bl (inV (.int k) (g.map V.int))) = _
  congr 2
  unfold inV
  rw [List.any_map, Bool.eq_iff_iff, List.any_eq_true, decide_eq_true_iff]
  constructor
  · rintro ⟨x, hx, e⟩
    have e : (x == k) = true := e
    rw [← eq_of_beq e]
    exact hx
  · intro h
    exact ⟨k, h, by show (k == k) = true; exact beq_self_eq_true k⟩
/-! ### moves -/
def sideS (rt : Bool) : Str := if rt then Str.ofString "right" else Str.ofString "left"
def sideD (rt : Bool) : D := .str (sideS rt)
theorem side_eq (rt : Bool) : decide (sideS rt = Str.ofString "right") = rt := by
  cases rt
  · decide +kernel
  · simp [sideS]
def stepC (rt : Bool) (c : Int) : Int := if rt then c else 0 - c
def mv (g : List Int) (rt : Bool) (c : Int) (x : List Int) : List Int := x.zipIdx.map fun p => if ((p.2 : Nat) : Int) ∈ g then p.1 + stepC rt c else p.1
theorem mv_len {g : List Int} {rt : Bool} {c : Int} {x : List Int} : (mv g rt c x).length = x.length := by simp [mv]
theorem pa_mv {g : List Int} {rt : Bool} {c : Int} {x : List Int} {i : Nat} (h : i < x.length) : pa (mv g rt c x) i = if (i : Int) ∈ g then pa x i + stepC rt c else pa x i := by
  rw [pa_get (by rw [mv_len]; exact h), pa_get h]
  unfold mv
  simp
theorem mv_zero {g : List Int} {rt : Bool} {x : List Int} : mv g rt 0 x = x := by
  apply pa_ext mv_len
  intro i hi
  rw [mv_len] at hi
  rw [pa_mv hi]
  split
  · unfold stepC
    split <;> omega
  · rfl
structure Row where
  g : List Int
  rt : Bool
  c : Int
def rowD (r : Row) : D := .tup [plcD r.g, sideD r.rt, .int r.c]
def tot (rows : List Row) : Int := (rows.map Row.c).sum
def appL : List Row → List Int → Int → List Int
  | [], x, _ => x
  | r :: rs, x, m => appL rs (mv r.g r.rt (min r.c m) x) (m - min r.c m)
theorem app_zero : ∀ (rows : List Row) (x : List Int), (∀ r ∈ rows, 0 ≤ r.c) → appL rows x 0 = x
  | [], _, _ => rfl
  | r :: rows, x, h => by
    have h0 := h r List.mem_cons_self
    unfold appL
    rw [show min r.c 0 = 0 by omega, mv_zero]
    exact app_zero rows x fun q hq => h q (List.mem_cons_of_mem _ hq)
theorem tot_pos : ∀ (rows : List Row), (∀ r ∈ rows, 0 ≤ r.c) → 0 ≤ tot rows
  | [], _ => by simp [tot]
  | r :: rows, h => by
    have := tot_pos rows fun q hq => h q (List.mem_cons_of_mem _ hq)
    have := h r List.mem_cons_self
    unfold tot at *
    rw [List.map_cons, List.sum_cons]
    omega
theorem app_snoc : ∀ (rows : List Row) (r : Row) (x : List Int) (m : Int), (∀ q ∈ rows, 0 ≤ q.c) → 0 ≤ r.c → 0 ≤ m → m ≤ tot rows → appL (rows ++ [r]) x m = appL rows x m
  | [], r, x, m, _, hr, h0, hm => by
    have e : m = 0 := by
      unfold tot at hm
      simp at hm
      omega
    subst e
    exact app_zero [r] x (by simpa using hr)
  | q :: rows, r, x, m, h, hr, h0, hm => by
    have hq := h q List.mem_cons_self
    show appL (rows ++ [r]) _ _ = appL rows _ _
    refine app_snoc rows r _ _ (fun p hp => h p (List.mem_cons_of_mem _ hp)) hr (by omega) ?_
    unfold tot at hm ⊢
    rw [List.map_cons, List.sum_cons] at hm
    have := tot_pos rows fun p hp => h p (List.mem_cons_of_mem _ hp)
    unfold tot at this
    omega
theorem app_more : ∀ (rows : List Row) (r : Row) (x : List Int) (p : Int), (∀ q ∈ rows, 0 ≤ q.c) → 0 ≤ p → p ≤ r.c → appL (rows ++ [r]) x (tot rows + p) = mv r.g r.rt p (appL rows x (tot rows))
  | [], r, x, p, _, h0, hp => by
    show mv r.g r.rt (min r.c (tot [] + p)) x = mv r.g r.rt p x
    rw [show min r.c (tot [] + p) = p by unfold tot; simp; omega]
  | q :: rows, r, x, p, h, h0, hp => by
    have hq := h q List.mem_cons_self
    have ht : tot (q :: rows) = q.c + tot rows := by unfold tot; rw [List.map_cons, List.sum_cons]
    have tp := tot_pos rows fun p hp => h p (List.mem_cons_of_mem _ hp)
    show appL (rows ++ [r]) (mv q.g q.rt (min q.c (tot (q :: rows) + p)) x) (tot (q :: rows) + p - min q.c (tot (q :: rows) + p)) = mv r.g r.rt p (appL rows (mv q.g q.rt (min q.c (tot (q :: rows))) x) (tot (q :: rows) - min q.c (tot (q :: rows))))
    rw [show min q.c (tot (q :: rows) + p) = q.c by omega, show min q.c (tot (q :: rows)) = q.c by omega, show tot (q :: rows) + p - q.c = tot rows + p by omega, show tot (q :: rows) - q.c = tot rows by omega]
    exact app_more rows r _ p (fun p hp => h p (List.mem_cons_of_mem _ hp)) h0 hp
theorem tot_snoc (rows : List Row) (r : Row) : tot (rows ++ [r]) = tot rows + r.c := by
  unfold tot
  rw [List.map_append, List.sum_append]
  simp
section
variable {F : String → Option Fn}
theorem after_spec (h1 : F "after_moves" = some ⟨4, 7, b_after_moves⟩ := by first | assumption | rfl) (n : Nat) (x g : List Int) (rt : Bool) (c : Int) (st : Sto) : callN F (n + 1) "after_moves" [plcD x, plcD g, sideD rt, .int c] st = some (plcD (mv g rt c x), st) := by
  rw [call_eq h1 rfl]
  have e0 : startE 7 [plcD x, plcD g, sideD rt, .int c] = [some (plcD x), some (plcD g), some (.str (sideS rt)), some (.int c), none, none, none] := rfl
  have sc : ∀ rt, (if rt = true then some (D.int c, st) else some (D.int (0 - c), st)) = some (.int (stepC rt c), st) := fun rt => by cases rt <;> rfl
  have hs : eIf (bVal (eOp oEq (eVar 2) (eC (.str (Str.ofString "right"))))) (eVar 3) (eOp oSub (eC (.int 0)) (eVar 3)) [some (plcD x), some (plcD g), some (.str (sideS rt)), some (.int c), none, none, none] st = some (.int (stepC rt c), st) := by
    repeat (first | walk_at "ev" | simp only [side_eq])
    cases rt <;> repeat (first | walk_at "ev" | simp only [stepC, if_true, Bool.false_eq_true, if_false])
  simp only [e0, b_after_moves]
  simp only [e_seq, e_asg, hs]
  repeat (first | walk_at "ev" | simp only [en_zip])
  rw [lc_map (fun p : Int × Nat => D.tup [.int (p.2 : Nat), .int p.1]) (fun p => .int (if ((p.2 : Nat) : Int) ∈ g then p.1 + stepC rt c else p.1)) x.zipIdx ?h]
  case h =>
    intro p _
    refine ⟨_, rfl, rfl, ?_⟩
    by_cases hp : ((p.2 : Nat) : Int) ∈ g
    · repeat (first | walk_at "ev" | simp only [in_ints, decide_eq_true hp, if_pos hp])
    · repeat (first | walk_at "ev" | simp only [in_ints, decide_eq_false hp, if_neg hp])
  repeat (first | walk_at "ev" | simp only [e_kfnR])
  simp only [plcD, mv, List.map_map, Function.comp_def]
theorem count_spec (h1 : F "count_moves" = some ⟨1, 4, b_count_moves⟩ := by first | assumption | rfl) (n : Nat) (rows : List Row) (st : Sto) : callN F (n + 1) "count_moves" [.tup (rows.map rowD)] st = some (.int (tot rows), st) := by
  rw [call_eq h1 rfl]
  have e0 : startE 4 [.tup (rows.map rowD)] = [some (.tup (rows.map rowD)), none, none, none] := rfl
  simp only [e0, b_count_moves]
  walk_at "ev"
  rw [lc_map rowD (fun r => .int r.c) rows ?h]
  case h => exact fun r _ => ⟨_, rfl, rfl, by walk_at "ev"⟩
  have em : (rows.map fun r => D.int r.c) = (rows.map Row.c).map D.int := by rw [List.map_map]; rfl
  simp only [em]
  repeat (first | walk_at "ev" | simp only [e_kfnR])
  rfl
theorem apply_spec (h1 : F "after_moves" = some ⟨4, 7, b_after_moves⟩ := by first | assumption | rfl) (h2 : F "apply_moves" = some ⟨4, 9, b_apply_moves⟩ := by first | assumption | rfl) (n : Nat) (R : D) (x : List Int) (rows : List Row) (m : Int) (st : Sto) : callN F (n + 2) "apply_moves" [R, plcD x, .tup (rows.map rowD), .int m] st = some (plcD (appL rows x m), st) := by
  rw [call_eq h2 rfl]
  have e0 : startE 9 [R, plcD x, .tup (rows.map rowD), .int m] = [some R, some (plcD x), some (.tup (rows.map rowD)), some (.int m), none, none, none, none, none] := rfl
  obtain ⟨env', st', k, y, l, v5, v6, v7, v8, rfl, rfl, hy⟩ := for_rel (tg := gT 3 (gsCons (gN 5) (gsCons (gN 6) (gsCons (gN 7) gsNil)))) (body := b_apply_moves_f1 (callN F (n + 1))) rowD
    (fun rs env s => ∃ (y : List Int) (l : Int) (v5 v6 v7 v8 : Option D), env = [some R, some (plcD y), some (.tup (rows.map rowD)), some (.int m), some (.int l), v5, v6, v7, v8] ∧ s = st ∧ appL rs y l = appL rows x m)
    (by
      rintro r rs env s ⟨y, l, v5, v6, v7, v8, rfl, rfl, hy⟩
      refine ⟨_, _, rfl, ?_⟩
      have a := after_spec h1 n y r.g r.rt (min r.c l) s
      simp only [b_apply_moves_f1]
      repeat (first | walk_at "ev" | simp only [a, e_aug, e_kaug, e_kaug2, e_kaug3])
      exact ⟨_, _, rfl, _, _, _, _, _, _, rfl, rfl, hy⟩)
    rows [some R, some (plcD x), some (.tup (rows.map rowD)), some (.int m), some (.int m), none, none, none, none] st ⟨x, m, none, none, none, none, rfl, rfl, rfl⟩
  have hy : y = appL rows x m := hy
  subst hy
  simp only [e0, b_apply_moves]
  repeat (first | walk_at "ev" | simp only [k, e_kfnR])
theorem lshift_spec (h1 : F "_law_shifted" = some ⟨4, 7, b_l_shifted⟩ := by first | assumption | rfl) (n : Nat) (x g : List Int) (rt : Bool) {c : Int} (c0 : 0 ≤ c) (c1 : c ≤ 10000000000000) (st : Sto) : callN F (n + 1) "_law_shifted" [plcD x, plcD g, sideD rt, .int c] st = some (plcD (mv g rt c x), st) := by
  rw [call_eq h1 rfl]
  have e0 : startE 7 [plcD x, plcD g, sideD rt, .int c] = [some (plcD x), some (plcD g), some (.str (sideS rt)), some (.int c), none, none, none] := rfl
  have hs : eOp oIx (eLst (aCons (eOp oSub (eC (.int 0)) (eVar 3)) (aCons (eVar 3) aNil))) (eBlt gInt (aCons (eOp oEq (eVar 2) (eC (.str (Str.ofString "right")))) aNil)) [some (plcD x), some (plcD g), some (.str (sideS rt)), some (.int c), none, none, none] st = some (.int (stepC rt c), st) := by
    repeat (first | walk_at "ev" | simp only [side_eq])
    cases rt <;> repeat (first | walk_at "ev" | simp only [stepC, if_true, Bool.false_eq_true, if_false])
  have sb : -10000000000000 ≤ stepC rt c ∧ stepC rt c ≤ 10000000000000 := by unfold stepC; split <;> omega
  simp only [e0, b_l_shifted]
  simp only [e_seq, e_asg, hs]
  repeat (first | walk_at "ev" | simp only [en_zip])
  rw [lc_map (fun p : Int × Nat => D.tup [.int (p.2 : Nat), .int p.1]) (fun p => .int (if ((p.2 : Nat) : Int) ∈ g then p.1 + stepC rt c else p.1)) x.zipIdx ?h]
  case h =>
    intro p _
    refine ⟨_, rfl, rfl, ?_⟩
    have m := fun z : Int => o_mul (s := st) (mulOk_l (a := stepC rt c) (b := z) (by omega) (by omega))
    by_cases hp : ((p.2 : Nat) : Int) ∈ g
    · repeat (first | walk_at "ev" | simp only [in_ints, decide_eq_true hp, if_pos hp, if_true, m, Int.mul_one])
    · repeat (first | walk_at "ev" | simp only [in_ints, decide_eq_false hp, if_neg hp, Bool.false_eq_true, if_false, m, Int.mul_zero, Int.add_zero])
  repeat (first | walk_at "ev" | simp only [e_kfnR])
  simp only [plcD, mv, List.map_map, Function.comp_def]
/-- a comprehension whose test draws -/
theorem lc_sub {α : Type} {tg : DG} {ifs : DB} {elt : DE} {env : En} {o : Sto} (f h : α → D) : ∀ (xs : List α) (s : Dr) (b : Int), DOk s b → (xs.length : Int) ≤ b →
    (∀ x ∈ xs, ∀ (s : Dr) (b : Int), DOk s b → 1 ≤ b → ∃ e p s', tg (f x) env (mkSt s o) = some (e, mkSt s o) ∧ ifs e (mkSt s o) = some (p, mkSt s' o) ∧ elt e (mkSt s' o) = some (h x, mkSt s' o) ∧ DOk s' (b - 1)) →
    ∃ (ys : List α) (s' : Dr), lcL always tg ifs elt env (xs.map f) (mkSt s o) = some (ys.map h, mkSt s' o) ∧ ys.Sublist xs ∧ DOk s' (b - xs.length)
  | [], s, b, d, hb, _ => ⟨[], s, rfl, List.Sublist.refl _, d.mono (by simp)⟩
  | x :: xs, s, b, d, hb, hx => by
    rw [List.length_cons] at hb
    obtain ⟨e, p, s1, h1, h2, h3, d1⟩ := hx x List.mem_cons_self s b d (by omega)
    obtain ⟨ys, s2, k, sl, d2⟩ := lc_sub f h xs s1 (b - 1) d1 (by omega) fun z hz => hx z (List.mem_cons_of_mem _ hz)
    cases p with
    | true =>
      refine ⟨x :: ys, s2, ?_, sl.cons₂ x, d2.mono (by rw [List.length_cons]; omega)⟩
      rw [List.map_cons]
      unfold lcL
      simp only [show always (mkSt s o) = true from rfl, if_true, h1, Option.bind_some, h2, h3, k, Option.map_some, List.map_cons]
    | false =>
      refine ⟨ys, s2, ?_, sl.cons x, d2.mono (by rw [List.length_cons]; omega)⟩
      rw [List.map_cons]
      unfold lcL
      simp only [show always (mkSt s o) = true from rfl, if_true, h1, Option.bind_some, h2, Bool.false_eq_true, if_false, k]
/-- groups -/
def Grp (n : Nat) (g : List Int) : Prop := g ≠ [] ∧ (∀ k ∈ g, 0 ≤ k ∧ k < n) ∧ g.Pairwise (· < ·)
theorem group_spec (hN : F "_law_next" = some ⟨2, 9, b_l_next⟩ := by first | assumption | rfl) (h1 : F "_law_any_group" = some ⟨2, 4, b_l_any_group⟩ := by first | assumption | rfl) (n : Nat) {s : Dr} {b : Int} (hs : DOk s b) (hb : 9 ≤ b) (o : Sto) {m : Nat} (m1 : 1 ≤ m) (m2 : m ≤ 8) :
    ∃ (g : List Int) (s' : Dr), callN F (n + 2) "_law_any_group" [.loc 1, .int (m : Nat)] (mkSt s o) = some (plcD g, mkSt s' o) ∧ Grp m g ∧ DOk s' (b - 9) := by
  have dr := draws_of hN n
  have rg := e_krng1 (s := mkSt s o) (j := ((m : Nat) : Int)) (by omega) (by omega)
  obtain ⟨ys, s1, k1, sl, d1⟩ := lc_sub (tg := gN 3) (ifs := bVal (eOp oEq (eCall (callN F (n + 1)) "_law_next" (aCons (eVar 0) (aCons (eC (.int 2)) aNil))) (eC (.int 0)))) (elt := eVar 3) (env := [some (.loc 1), some (.int (m : Nat)), none, none]) (o := o) (fun i : Nat => D.int (i : Int)) (fun i : Nat => D.int (i : Int)) (List.range m) s b hs (by rw [List.length_range]; omega) (by
    intro i _ s b d hb
    obtain ⟨r, s', k, r0, r1, d'⟩ := dr.n d o 2 hb (by omega) (by omega)
    exact ⟨_, decide (r = 0), s', rfl, by repeat (first | walk_at "ev" | simp only [k]), by walk_at "ev", d'⟩)
  rw [List.length_range] at d1
  rw [call_eq h1 rfl]
  have e0 : startE 4 [.loc 1, .int (m : Nat)] = [some (.loc 1), some (.int (m : Nat)), none, none] := rfl
  have em : (ys.map fun i : Nat => D.int (i : Int)) = (ys.map fun i : Nat => (i : Int)).map D.int := by rw [List.map_map]; rfl
  rw [em] at k1
  have ne := ne_plc (st := mkSt s1 o) (ys.map fun i : Nat => (i : Int)) []
  simp only [plcD, List.map_nil] at ne
  have pw : (ys.map fun i : Nat => (i : Int)).Pairwise (· < ·) := by
    rw [List.pairwise_map]
    exact (List.Pairwise.sublist sl (List.pairwise_lt_range)).imp fun h => by omega
  simp only [e0, b_l_any_group]
  repeat (first | walk_at "ev" | simp only [rg, Int.toNat_natCast, rangeD_nat, k1, ne])
  by_cases h : (ys.map fun i : Nat => (i : Int)) = []
  · obtain ⟨r, s2, k2, r0, r1, d2⟩ := dr.n d1 o (m : Nat) (by omega) (by omega) (by omega)
    refine ⟨[r], s2, ?_, ⟨by simp, fun k hk => by rw [List.mem_singleton.mp hk]; omega, by simp⟩, d2.mono (by omega)⟩
    repeat (first | walk_at "ev" | simp only [decide_eq_true h, Bool.not_true, k2, e_kfnR])
    rfl
  · refine ⟨ys.map fun i : Nat => (i : Int), s1, ?_, ⟨h, fun k hk => ?_, pw⟩, d1.mono (by omega)⟩
    · repeat (first | walk_at "ev" | simp only [decide_eq_false h, Bool.not_false, e_kfnR])
    · obtain ⟨i, hi, rfl⟩ := List.mem_map.mp hk
      have := List.mem_range.mp (sl.subset hi)
      omega
/-! ### how far a group can move -/
def slackR (rt : Bool) (q : Int × Ring) : Int := if rt then q.2.hi - q.1 else q.1 - q.2.lo
def chg (g : List Int) (rt : Bool) (c : Bar) : Int := (if rt then 1 else -1) * ((if c.b ∈ g then 1 else 0) - (if c.a ∈ g then 1 else 0))
def roomF (rs : List Ring) (bs : List Bar) (g : List Int) (rt : Bool) (x : List Int) : List Int :=
  ((((x.zip rs).map (slackR rt)).zipIdx.filter fun p => decide (((p.2 : Nat) : Int) ∈ g)).map (·.1)) ++ (bs.filter fun c => decide (0 < chg g rt c)).map fun c => c.len - gap x c.a c.b
theorem app_last {st : Sto} {c : List D} {d : D} (h : c.length ≤ 1000) : kApp2 (.loc st.length) (d, st ++ [c]) = some (.non, st ++ [c ++ [d]]) := by
  show ((st ++ [c])[st.length]?).bind _ = _
  rw [List.getElem?_append_right (Nat.le_refl _), Nat.sub_self]
  show (if fits c.length then some (D.non, (st ++ [c]).set st.length (c ++ [d])) else none) = _
  rw [fits_small h, if_pos rfl, List.set_append_right _ _ (Nat.le_refl _), Nat.sub_self]
  rfl
set_option maxHeartbeats 8000000 in
theorem room_spec (h1 : F "_law_stretches" = some ⟨2, 3, b_l_stretches⟩ := by first | assumption | rfl) (h2 : F "_law_room" = some ⟨4, 14, b_l_room⟩ := by first | assumption | rfl) (n : Nat) {rs : List Ring} {cs : D} {bs : List Bar} {x g : List Int} (rt : Bool) (hb : ∀ c ∈ bs, BIx x.length c) (xl : x.length ≤ 8) (bl : bs.length ≤ 8) (hne : 0 < (roomF rs bs g rt x).length) (st : Sto) :
    ∃ gg, callN F (n + 2) "_law_room" [.tup [.tup (rs.map ringD), cs, .tup (bs.map barD)], plcD x, plcD g, sideD rt] st = some (.int (minOf (roomF rs bs g rt x)), st ++ gg) := by
  rw [call_eq h2 rfl]
  generalize hR : D.tup [.tup (rs.map ringD), cs, .tup (bs.map barD)] = R
  have u : ∀ (s : Sto) i, oIx s R (.int i) = atI [.tup (rs.map ringD), cs, .tup (bs.map barD)] i := fun s i => by rw [← hR]; rfl
  have e0 : startE 14 [R, plcD x, plcD g, sideD rt] = [some R, some (plcD x), some (plcD g), some (.str (sideS rt)), none, none, none, none, none, none, none, none, none, none] := rfl
  have hs : eOp oIx (eLst (aCons (eUn oNeg (eC (.int 1))) (aCons (eC (.int 1)) aNil))) (eBlt gInt (aCons (eOp oEq (eVar 3) (eC (.str (Str.ofString "right")))) aNil)) [some R, some (plcD x), some (plcD g), some (.str (sideS rt)), none, none, none, none, none, none, none, none, none, none] st = some (.int (if rt then 1 else -1), st) := by
    repeat (first | walk_at "ev" | simp only [side_eq])
    cases rt <;> repeat (first | walk_at "ev" | simp only [if_true, Bool.false_eq_true, if_false])
  generalize hst : (if rt = true then (1 : Int) else -1) = stp at hs
  have stp2 : stp = 1 ∨ stp = -1 := by cases rt <;> simp at hst <;> omega
  obtain ⟨f1, hf1⟩ : ∃ f1 : List Int, f1 = (((x.zip rs).map (slackR rt)).zipIdx.filter fun p => decide (((p.2 : Nat) : Int) ∈ g)).map (·.1) := ⟨_, rfl⟩
  have f1l : f1.length ≤ 8 := by
    rw [hf1, List.length_map]
    refine Nat.le_trans (List.length_filter_le _ _) ?_
    simp
    omega
  have sk := lstretches_bars h1 n (y := x) (bs := bs) hb (st ++ [f1.map D.int])
  have zp : pairsD (bs.map barD) ((bs.map fun c => gap x c.a c.b).map D.int) = bs.map fun c => .tup [barD c, .int (gap x c.a c.b)] := by
    rw [List.map_map]
    exact pairs_map _ _ bs
  obtain ⟨env', st', k, ds, v10, v11, v12, v13, rfl, rfl, hds⟩ := for_rel (tg := gT 2 (gsCons (gT 3 (gsCons (gN 11) (gsCons (gN 12) (gsCons (gN 13) gsNil)))) (gsCons (gN 10) gsNil))) (body := b_l_room_f1 (callN F (n + 1))) (fun c : Bar => D.tup [barD c, .int (gap x c.a c.b)])
    (fun ys env s => ∃ (ds : List Bar) (v10 v11 v12 v13 : Option D), env = [some R, some (plcD x), some (plcD g), some (.str (sideS rt)), some (.int stp), some (.lst (((x.zip rs).map (slackR rt)).map D.int)), none, none, some (.loc st.length), none, v10, v11, v12, v13] ∧ s = st ++ [(f1 ++ (ds.filter fun c => decide (0 < chg g rt c)).map fun c => c.len - gap x c.a c.b).map D.int] ∧ ds ++ ys = bs)
    (by
      rintro c ys env s ⟨ds, v10, v11, v12, v13, rfl, rfl, hds⟩
      refine ⟨_, _, rfl, ?_⟩
      have dl : ds.length + 1 ≤ 8 := by
        have := congrArg List.length hds
        rw [List.length_append, List.length_cons] at this
        omega
      have fl : ((f1 ++ (ds.filter fun c => decide (0 < chg g rt c)).map fun c => c.len - gap x c.a c.b).map D.int).length ≤ 1000 := by
        rw [List.length_map, List.length_append, List.length_map]
        have := List.length_filter_le (fun c => decide (0 < chg g rt c)) ds
        omega
      have ap := app_last (st := st) (d := .int (c.len - gap x c.a c.b)) fl
      have m := fun (s : Sto) (z : Int) => o_mul (s := s) (mulOk_l (a := stp) (b := z) (by omega) (by omega))
      have hc : stp * ((if decide (c.b ∈ g) = true then 1 else 0) - (if decide (c.a ∈ g) = true then 1 else 0)) = chg g rt c := by
        unfold chg
        rw [hst]
        simp only [decide_eq_true_eq]
      simp only [barD, b_l_room_f1]
      repeat (first | walk_at "ev" | simp only [in_ints, m, hc])
      by_cases hp : 0 < chg g rt c
      · repeat (first | walk_at "ev" | simp only [decide_eq_true hp, ap])
        refine ⟨_, _, rfl, ds ++ [c], _, _, _, _, rfl, ?_, by rw [List.append_assoc]; exact hds⟩
        rw [List.filter_append]
        simp [hp]
      · repeat (first | walk_at "ev" | simp only [decide_eq_false hp])
        refine ⟨_, _, rfl, ds ++ [c], _, _, _, _, rfl, ?_, by rw [List.append_assoc]; exact hds⟩
        rw [List.filter_append]
        simp [hp])
    bs [some R, some (plcD x), some (plcD g), some (.str (sideS rt)), some (.int stp), some (.lst (((x.zip rs).map (slackR rt)).map D.int)), none, none, some (.loc st.length), none, none, none, none, none] (st ++ [f1.map D.int]) ⟨[], none, none, none, none, rfl, by simp, rfl⟩
  rw [List.append_nil] at hds
  subst hds
  have mn : ∀ ns : List Int, 0 < ns.length → gMinL (st ++ [ns.map D.int]) [.loc st.length] = some (.int (minOf ns)) := fun ns hn => by
    show (((st ++ [ns.map D.int])[st.length]?).bind _) = _
    rw [List.getElem?_append_right (Nat.le_refl _), Nat.sub_self]
    show (intsOf (ns.map D.int)).bind _ = _
    rw [intsOf_map]
    cases ns with
    | nil => simp at hn
    | cons _ _ => rfl
  have mn := mn _ hne
  simp only [e0, b_l_room]
  simp only [e_seq, e_asg, hs]
  repeat (first | walk_at "ev" | simp only [u, pairs_zip])
  rw [lc_map (fun q : Int × Ring => D.tup [.int q.1, ringD q.2]) (fun q => .int (slackR rt q)) (x.zip rs) ?h1]
  case h1 =>
    intro q _
    refine ⟨_, rfl, rfl, ?_⟩
    have ur : ∀ i, oIx st (ringD q.2) (.int i) = atI [.int q.2.lo, .int q.2.hi, .int q.2.ld] i := fun i => rfl
    cases rt
    · have e : stp = -1 := by simp at hst; omega
      subst e
      repeat (first | walk_at "ev" | simp only [ur, show decide ((-1 : Int) < 0) = true from rfl])
      rfl
    · have e : stp = 1 := by simp at hst; omega
      subst e
      repeat (first | walk_at "ev" | simp only [ur, show decide ((1 : Int) < 0) = false from rfl])
      rfl
  have em : ((x.zip rs).map fun q => D.int (slackR rt q)) = ((x.zip rs).map (slackR rt)).map D.int := by rw [List.map_map]; rfl
  simp only [em]
  repeat (first | walk_at "ev" | simp only [en_zip])
  rw [lc_filter (fun p : Int × Nat => D.tup [.int (p.2 : Nat), .int p.1]) (fun p => .int p.1) (fun p => decide (((p.2 : Nat) : Int) ∈ g)) ((x.zip rs).map (slackR rt)).zipIdx ?h2]
  case h2 =>
    intro p _
    exact ⟨_, rfl, by repeat (first | walk_at "ev" | simp only [in_ints]), fun _ => by walk_at "ev"⟩
  have em2 : ((((x.zip rs).map (slackR rt)).zipIdx.filter fun p => decide (((p.2 : Nat) : Int) ∈ g)).map fun p : Int × Nat => D.int p.1) = f1.map D.int := by
    rw [hf1, List.map_map]
    rfl
  simp only [em2]
  repeat (first | walk_at "ev" | simp only [u, sk, zp, k])
  have hroom : roomF rs ds g rt x = f1 ++ (ds.filter fun c => decide (0 < chg g rt c)).map fun c => c.len - gap x c.a c.b := by rw [hf1]; rfl
  rw [hroom] at mn ⊢
  repeat (first | walk_at "ev" | simp only [mn, e_kfnR])
  exact ⟨_, rfl⟩
/-- within the room all moves lead to placements -/
theorem room_ok {rs : List Ring} {bs : List Bar} {g x : List Int} {rt : Bool} (hp : Plc rs bs x) (hg : Grp rs.length g) (hb : ∀ c ∈ bs, BIx rs.length c) :
    0 < (roomF rs bs g rt x).length ∧ (∀ k, k < rs.length → ((k : Nat) : Int) ∈ g → minOf (roomF rs bs g rt x) ≤ (if rt then pa (hisL rs) k - pa x k else pa x k - pa (losL rs) k)) ∧ ∀ c, 0 ≤ c → c ≤ minOf (roomF rs bs g rt x) → Plc rs bs (mv g rt c x) := by
  have xl := hp.len
  have inR : ∀ k, k < rs.length → ((k : Nat) : Int) ∈ g → (if rt then pa (hisL rs) k - pa x k else pa x k - pa (losL rs) k) ∈ roomF rs bs g rt x := by
    intro k hk hkg
    refine List.mem_append_left _ (List.mem_map.mpr ⟨((if rt then pa (hisL rs) k - pa x k else pa x k - pa (losL rs) k), k), ?_, rfl⟩)
    rw [List.mem_filter]
    refine ⟨?_, decide_eq_true hkg⟩
    rw [List.mem_zipIdx_iff_getElem?, List.getElem?_map]
    have hz : k < (x.zip rs).length := by rw [List.length_zip]; omega
    rw [List.getElem?_eq_getElem hz, List.getElem_zip]
    unfold hisL losL
    rw [pa_map hk, pa_map hk, pa_get (by omega)]
    rfl
  obtain ⟨g0, g1, _⟩ := hg
  obtain ⟨k, hk⟩ := List.exists_mem_of_ne_nil g g0
  have hk1 := g1 k hk
  have hm := inR k.toNat (by omega) (by rw [Int.toNat_of_nonneg hk1.1]; exact hk)
  have hpos : 0 < (roomF rs bs g rt x).length := List.length_pos_of_mem hm
  obtain ⟨_, mn⟩ := minOf_spec _ hpos
  refine ⟨hpos, fun k h1 h2 => mn _ (inR k h1 h2), fun c c0 c1 => ?_⟩
  refine ⟨by rw [mv_len]; exact xl, fun i hi => ?_, fun i hi => ?_, fun b hbm => ?_⟩
  · rw [pa_mv (by omega)]
    have h1 := hp.lo i hi
    split
    · next hg =>
      have := mn _ (inR i hi hg)
      unfold stepC
      cases rt <;> simp only [if_true, Bool.false_eq_true, if_false] at this ⊢ <;> omega
    · exact h1
  · rw [pa_mv (by omega)]
    have h1 := hp.hi i hi
    split
    · next hg =>
      have := mn _ (inR i hi hg)
      unfold stepC
      cases rt <;> simp only [if_true, Bool.false_eq_true, if_false] at this ⊢ <;> omega
    · exact h1
  · obtain ⟨a0, a1, b0, b1⟩ := hb b hbm
    have hbar := hp.bar b hbm
    rw [pa_mv (by omega), pa_mv (by omega), Int.toNat_of_nonneg a0, Int.toNat_of_nonneg b0]
    have hin : 0 < chg g rt b → c ≤ b.len - (pa x b.b.toNat - pa x b.a.toNat) := by
      intro h
      have : b.len - gap x b.a b.b ∈ roomF rs bs g rt x := List.mem_append_right _ (List.mem_map.mpr ⟨b, List.mem_filter.mpr ⟨hbm, decide_eq_true h⟩, rfl⟩)
      have := mn _ this
      rw [gap_pa] at this
      omega
    unfold chg at hin
    unfold stepC
    by_cases ha : b.a ∈ g <;> by_cases hb2 : b.b ∈ g <;> cases rt <;> simp only [ha, hb2, if_true, Bool.false_eq_true, if_false] at hin ⊢ <;> omega
end
end Tg
/-! The bounds of differences that follow from tensions; fitting a table. -/

namespace Tg
open PySem PySem.Spec PyProof.Rows L2
-- lib fits_table b19b5f b_fits_table 2 7
noncomputable def b_fits_table_f1 (C : Orc) : DS := (sSeq (sIf (bVal (eOp oGt (eOp oSub (eOp oIx (eVar 2) (eVar 5)) (eOp oIx (eVar 2) (eVar 3))) (eVar 6))) (sSeq (sRet (eC (.bl false)))
    sNil) sNil)
    sNil)
noncomputable def b_fits_table_f2 (C : Orc) : DS := (sSeq (sFor (iEn (eVar 4)) (gT 2 (gsCons (gN 5) (gsCons (gN 6) gsNil))) (b_fits_table_f1 C))
    sNil)
noncomputable def b_fits_table (C : Orc) : DS := (sSeq (sAsg (eOp oAdd (eVar 1) (eTup (aCons (eC (.int 0)) aNil))) (gN 2))
    (sSeq (sFor (iEn (eVar 0)) (gT 2 (gsCons (gN 3) (gsCons (gN 4) gsNil))) (b_fits_table_f2 C))
    (sSeq (sRet (eC (.bl true)))
    sNil)))
-- lib _law_left_forces 0d303e b_l_left_forces 2 8
noncomputable def b_l_left_forces_f1 (C : Orc) : DS := (sSeq (sAsg (eOp oAdd (eOp oIx (eVar 2) (eOp oIx (eVar 6) (eC (.int 0)))) (eVar 7)) (gSb (eVar 2) (eOp oIx (eVar 6) (eC (.int 0)))))
    (sSeq (sAsg (eOp oSub (eOp oIx (eVar 2) (eOp oIx (eVar 6) (eC (.int 1)))) (eVar 7)) (gSb (eVar 2) (eOp oIx (eVar 6) (eC (.int 1)))))
    sNil))
noncomputable def b_l_left_forces_f2 (C : Orc) : DS := (sSeq (sFor (iZip (eVar 4) (eVar 5)) (gT 2 (gsCons (gN 6) (gsCons (gN 7) gsNil))) (b_l_left_forces_f1 C))
    sNil)
noncomputable def b_l_left_forces (C : Orc) : DS := (sSeq (sAsg (eMLc [3] (iSeq (eOp oIx (eVar 0) (eC (.int 0)))) (gN 3) bYes (eOp oIx (eVar 3) (eC (.int 2)))) (gN 2))
    (sSeq (sFor (iZip (eSl (eVar 0) (oSo (eC (.int 1))) oNo) (eVar 1)) (gT 2 (gsCons (gN 4) (gsCons (gN 5) gsNil))) (b_l_left_forces_f2 C))
    (sSeq (sRet (eVar 2))
    sNil)))
-- lib _law_rules 5aefec b_l_rules 2 11
noncomputable def b_l_rules_f1 (C : Orc) : DS := (sSeq (sIf (bVal (eOp oLt (eVar 8) (eVar 7))) (sSeq (sAsg (eBlt gMin2 (aCons (eOp oIx (eOp oIx (eVar 2) (eVar 4)) (eVar 5)) (aCons (eVar 6) aNil))) (gSb (eOp oIx (eVar 2) (eVar 4)) (eVar 5)))
    sNil) sNil)
    (sSeq (sIf (bVal (eOp oGt (eVar 8) (eC (.int 0)))) (sSeq (sAsg (eBlt gMin2 (aCons (eOp oIx (eOp oIx (eVar 2) (eVar 5)) (eVar 4)) (aCons (eOp oSub (eC (.int 0)) (eVar 6)) aNil))) (gSb (eOp oIx (eVar 2) (eVar 5)) (eVar 4)))
    sNil) sNil)
    sNil))
noncomputable def b_l_rules_f2 (C : Orc) : DS := (sSeq (sIf (bVal (eOp oGt (eVar 8) (eC (.int 0)))) (sSeq (sAsg (eBlt gMin2 (aCons (eOp oIx (eOp oIx (eVar 2) (eVar 5)) (eVar 4)) (aCons (eOp oSub (eC (.int 0)) (eVar 6)) aNil))) (gSb (eOp oIx (eVar 2) (eVar 5)) (eVar 4)))
    sNil) sNil)
    sNil)
noncomputable def b_l_rules_f3 (C : Orc) : DS := (sSeq (sIf (bVal (eOp oLt (eVar 10) (eC (.int 0)))) (sSeq (sAsg (eOp oIx (eOp oIx (eOp oIx (eVar 0) (eC (.int 0))) (eVar 9)) (eC (.int 0))) (gSb (eOp oIx (eVar 2) (eVar 3)) (eVar 9)))
    sNil) sNil)
    (sSeq (sIf (bVal (eOp oGt (eVar 10) (eC (.int 0)))) (sSeq (sAsg (eOp oSub (eC (.int 0)) (eOp oIx (eOp oIx (eOp oIx (eVar 0) (eC (.int 0))) (eVar 9)) (eC (.int 1)))) (gSb (eOp oIx (eVar 2) (eVar 9)) (eVar 3)))
    sNil) sNil)
    sNil))
noncomputable def b_l_rules (C : Orc) : DS := (sSeq (sPar2 2 3 (aCons (eCall C "_law_limits" (aCons (eVar 0) aNil)) (aCons (eBlt gLen (aCons (eOp oIx (eVar 0) (eC (.int 0))) aNil)) aNil)))
    (sSeq (sFor (iZip (eOp oIx (eVar 0) (eC (.int 1))) (eOp oIx (eVar 1) (eC (.int 0)))) (gT 2 (gsCons (gT 4 (gsCons (gN 4) (gsCons (gN 5) (gsCons (gN 6) (gsCons (gN 7) gsNil))))) (gsCons (gN 8) gsNil))) (b_l_rules_f1 C))
    (sSeq (sFor (iZip (eOp oIx (eVar 0) (eC (.int 2))) (eOp oIx (eVar 1) (eC (.int 1)))) (gT 2 (gsCons (gT 3 (gsCons (gN 4) (gsCons (gN 5) (gsCons (gN 6) gsNil)))) (gsCons (gN 8) gsNil))) (b_l_rules_f2 C))
    (sSeq (sFor (iEn (eCall C "_law_left_forces" (aCons (eVar 0) (aCons (eVar 1) aNil)))) (gT 2 (gsCons (gN 9) (gsCons (gN 10) gsNil))) (b_l_rules_f3 C))
    (sSeq (sRet (eVar 2))
    sNil)))))
-- lib _law_fits bcbd65 b_l_fits 2 7
noncomputable def b_l_fits_f1 (C : Orc) : DS := (sSeq (sIf (bVal (eOp oNe (eLc [5, 6] (iEn (eVar 2)) (gT 2 (gsCons (gN 5) (gsCons (gN 6) gsNil))) (bVal (eOp oGt (eOp oSub (eVar 6) (eVar 4)) (eOp oIx (eOp oIx (eVar 0) (eVar 3)) (eVar 5)))) (eC (.int 1))) (eLst aNil))) (sSeq (sRet (eC (.bl false)))
    sNil) sNil)
    sNil)
noncomputable def b_l_fits (C : Orc) : DS := (sSeq (sAsg (eOp oAdd (eVar 1) (eTup (aCons (eC (.int 0)) aNil))) (gN 2))
    (sSeq (sFor (iEn (eVar 2)) (gT 2 (gsCons (gN 3) (gsCons (gN 4) gsNil))) (b_l_fits_f1 C))
    (sSeq (sRet (eC (.bl true)))
    sNil)))
-- lib _law_bent_positions b84a39 b_l_bent_positions 2 5
noncomputable def b_l_bent_positions (C : Orc) : DS := (sSeq (sAsg (eCall C "_law_one" (aCons (eVar 0) (aCons (eLst (aCons (eC (.int 1)) (aCons (eUn oNeg (eC (.int 1))) (aCons (eC (.int 2)) (aCons (eUn oNeg (eC (.int 3))) (aCons (eOp oPow (eC (.int 10)) (eC (.int 6))) (aCons (eUn oNeg (eOp oPow (eC (.int 10)) (eC (.int 9)))) aNil))))))) aNil))) (gN 2))
    (sSeq (sIf (bVal (eOp oEq (eCall C "_law_next" (aCons (eVar 0) (aCons (eC (.int 4)) aNil))) (eC (.int 0)))) (sSeq (sRet (eBlt gTuple (aCons (eLc [3] (iSeq (eVar 1)) (gN 3) bYes (eOp oAdd (eVar 3) (eVar 2))) aNil)))
    sNil) sNil)
    (sSeq (sAsg (eCall C "_law_next" (aCons (eVar 0) (aCons (eBlt gLen (aCons (eVar 1) aNil)) aNil))) (gN 4))
    (sSeq (sRet (eOp oAdd (eOp oAdd (eSl (eVar 1) oNo (oSo (eVar 4))) (eTup (aCons (eOp oAdd (eOp oIx (eVar 1) (eVar 4)) (eVar 2)) aNil))) (eSl (eVar 1) (oSo (eOp oAdd (eVar 4) (eC (.int 1)))) oNo)))
    sNil))))
def kCat2 (x : D) (q : D × Sto) : Option (D × Sto) := (lstOf q.2 x).bind fun xs => (lstOf q.2 q.1).bind fun ys => if fits (xs.length + ys.length) then some (.loc q.2.length, q.2 ++ [xs ++ ys]) else none
def kCat (fb : DE) (env : En) (p : D × Sto) : Option (D × Sto) := (fb env p.2).bind (kCat2 p.1)
theorem e_cat {fa fb : DE} {env : En} {st : Sto} : eCat fa fb env st = (fa env st).bind (kCat fb env) := rfl
theorem e_kcat {fb : DE} {env : En} {x : D} {s : Sto} : kCat fb env (x, s) = (fb env s).bind (kCat2 x) := rfl
section
variable {F : String → Option Tg.Fn}
theorem oIx_app {S g : Sto} {n : Nat} {i : Int} {v : D} (h : oIx S (.loc n) (.int i) = some v) : oIx (S ++ g) (.loc n) (.int i) = some v := by
  have h : (S[n]?).bind _ = _ := h
  obtain ⟨c, h1, h2⟩ := Option.bind_eq_some_iff.mp h
  show ((S ++ g)[n]?).bind _ = _
  rw [get_app h1]
  exact h2
theorem setC_app {S S' g : Sto} {n : Nat} {i : Int} {v : D} (h : setC S (.loc n) (.int i) v = some S') : setC (S ++ g) (.loc n) (.int i) v = some (S' ++ g) := by
  have h : (S[n]?).bind _ = _ := h
  obtain ⟨c, h1, h2⟩ := Option.bind_eq_some_iff.mp h
  obtain ⟨j, h3, h4⟩ := Option.map_eq_some_iff.mp h2
  show ((S ++ g)[n]?).bind _ = _
  rw [get_app h1]
  show (ixN c.length i).map _ = _
  rw [h3]
  have hl : n < S.length := by
    apply Classical.byContradiction
    intro hn
    rw [List.getElem?_eq_none (by omega)] at h1
    cases h1
  show some ((S ++ g).set n (c.set j v)) = _
  rw [List.set_append_left _ _ hl, h4]
theorem set_lastI {st : Sto} {xs : List Int} {i : Nat} {v : Int} (h : i < xs.length) : setC (st ++ [xs.map D.int]) (.loc st.length) (.int (i : Nat)) (.int v) = some (st ++ [(xs.set i v).map D.int]) := by
  show ((st ++ [xs.map D.int])[st.length]?).bind _ = _
  rw [List.getElem?_append_right (Nat.le_refl _), Nat.sub_self]
  show (ixN (xs.map D.int).length (i : Nat)).map _ = _
  unfold ixN
  rw [if_pos (by omega), if_pos (by rw [List.length_map]; omega)]
  simp only [Option.map_some, Int.toNat_natCast]
  rw [List.set_append_right _ _ (Nat.le_refl _), Nat.sub_self, List.map_set]
  rfl
theorem pullA_snoc {ls : List Ln} {l : Ln} {k : Int} : pullA (ls ++ [l]) k = pullA ls k + if l.a = k then l.t else 0 := by
  unfold pullA
  rw [List.filter_append, List.map_append, List.sum_append]
  congr 1
  by_cases h : l.a = k
  · simp [h]
  · simp [h]
theorem pullB_snoc {ls : List Ln} {l : Ln} {k : Int} : pullB (ls ++ [l]) k = pullB ls k + if l.z = k then l.t else 0 := by
  unfold pullB
  rw [List.filter_append, List.map_append, List.sum_append]
  congr 1
  by_cases h : l.z = k
  · simp [h]
  · simp [h]
/-- the residuals when these parts have been read -/
def resL (rs : List Ring) (ls : List Ln) : List Int := vec rs.length fun k => pa (rs.map Ring.ld) k + pullA ls k - pullB ls k
theorem resL_len {rs : List Ring} {ls : List Ln} : (resL rs ls).length = rs.length := vec_len
theorem pa_resL {rs : List Ring} {ls : List Ln} {k : Nat} (h : k < rs.length) : pa (resL rs ls) k = pa (rs.map Ring.ld) k + pullA ls k - pullB ls k := pa_vec h
theorem ext_pa {x y : List Int} (hl : x.length = y.length) (h : ∀ i, i < x.length → pa x i = pa y i) : x = y := by
  apply List.ext_getElem hl
  intro i h1 h2
  have := h i h1
  rwa [pa_get h1, pa_get h2] at this
theorem res_step {rs : List Ring} {ls : List Ln} {l : Ln} {A B : Nat} (hA : l.a = A) (hB : l.z = B) (a1 : A < rs.length) (b1 : B < rs.length) :
    ((resL rs ls).set A (pa (resL rs ls) A + l.t)).set B (pa ((resL rs ls).set A (pa (resL rs ls) A + l.t)) B - l.t) = resL rs (ls ++ [l]) := by
  apply ext_pa
  · rw [List.length_set, List.length_set, resL_len, resL_len]
  · intro i hi
    rw [List.length_set, List.length_set, resL_len] at hi
    rw [pa_set, pa_set, pa_set, List.length_set, resL_len, pa_resL hi, pa_resL hi, pa_resL a1, pa_resL b1, pullA_snoc, pullB_snoc, hA, hB]
    by_cases e1 : A = i
    · subst e1
      by_cases e2 : B = A
      · subst e2; simp [b1]; omega
      · rw [if_neg (by omega), if_pos ⟨rfl, a1⟩, if_pos rfl, if_neg (by omega)]; omega
    · by_cases e2 : B = i
      · subst e2
        rw [if_pos ⟨rfl, b1⟩, if_neg (by omega), if_neg (by omega), if_pos rfl]; omega
      · rw [if_neg (by omega), if_neg (by omega), if_neg (by omega), if_neg (by omega)]; omega
def LnIx (n : Nat) (l : Ln) : Prop := 0 ≤ l.a ∧ l.a < n ∧ 0 ≤ l.z ∧ l.z < n
theorem lf_loop (n : Nat) {rs : List Ring} {R T : D} {st : Sto} (v3 v4 v5 : Option D) (ls ds : List Ln) (hl : ∀ l ∈ ls, LnIx rs.length l) (v6 v7 : Option D) :
    ∃ w6 w7, forL always (gT 2 (gsCons (gN 6) (gsCons (gN 7) gsNil))) (b_l_left_forces_f1 (callN F n)) (ls.map Ln.d) [some R, some T, some (.loc st.length), v3, v4, v5, v6, v7] (st ++ [(resL rs ds).map D.int]) = some (.nx [some R, some T, some (.loc st.length), v3, v4, v5, w6, w7], st ++ [(resL rs (ds ++ ls)).map D.int]) := by
  obtain ⟨env', st', k, es, w6, w7, he, rfl, rfl⟩ := for_rel (tg := gT 2 (gsCons (gN 6) (gsCons (gN 7) gsNil))) (body := b_l_left_forces_f1 (callN F n)) Ln.d
    (fun ys env s => ∃ (es : List Ln) (v6 v7 : Option D), es ++ ys = ls ∧ env = [some R, some T, some (.loc st.length), v3, v4, v5, v6, v7] ∧ s = st ++ [(resL rs (ds ++ es)).map D.int])
    (by
      rintro l ys env s ⟨es, v6, v7, he, rfl, rfl⟩
      refine ⟨[some R, some T, some (.loc st.length), v3, v4, v5, some l.p, some (.int l.t)], _, by rw [Ln.d_eq]; rfl, ?_⟩
      obtain ⟨a0, a1, b0, b1⟩ := hl l (by rw [← he]; simp)
      obtain ⟨A, eA⟩ : ∃ A : Nat, l.a = A := ⟨l.a.toNat, by omega⟩
      obtain ⟨B, eB⟩ : ∃ B : Nat, l.z = B := ⟨l.z.toNat, by omega⟩
      have hA : A < rs.length := by omega
      have hB : B < rs.length := by omega
      have i0 := fun s => Ln.ix0 l s
      have i1 := fun s => Ln.ix1 l s
      rw [eA] at i0
      rw [eB] at i1
      have g1 : atI ((resL rs (ds ++ es)).map D.int) (A : Nat) = some (.int (pa (resL rs (ds ++ es)) A)) := row_at (by rw [resL_len]; exact hA)
      have g2 : atI (((resL rs (ds ++ es)).set A (pa (resL rs (ds ++ es)) A + l.t)).map D.int) (B : Nat) = some (.int (pa ((resL rs (ds ++ es)).set A (pa (resL rs (ds ++ es)) A + l.t)) B)) := row_at (by rw [List.length_set, resL_len]; exact hB)
      have s1 := set_lastI (st := st) (xs := resL rs (ds ++ es)) (i := A) (v := pa (resL rs (ds ++ es)) A + l.t) (by rw [resL_len]; exact hA)
      have s2 := set_lastI (st := st) (xs := (resL rs (ds ++ es)).set A (pa (resL rs (ds ++ es)) A + l.t)) (i := B) (v := pa ((resL rs (ds ++ es)).set A (pa (resL rs (ds ++ es)) A + l.t)) B - l.t) (by rw [List.length_set, resL_len]; exact hB)
      simp only [b_l_left_forces_f1]
      repeat (first | walk_at "ev" | simp only [i0, i1, ix_last, g1, s1, g2, s2])
      exact ⟨_, _, rfl, es ++ [l], _, _, by rw [List.append_assoc]; exact he, rfl, by rw [res_step eA eB hA hB, List.append_assoc]⟩)
    ls [some R, some T, some (.loc st.length), v3, v4, v5, v6, v7] (st ++ [(resL rs ds).map D.int]) ⟨[], v6, v7, rfl, rfl, by rw [List.append_nil]⟩
  rw [List.append_nil] at he
  subst he
  exact ⟨w6, w7, k⟩
theorem pairs_c (cs : List (Cord × Int)) : pairsD ((cs.map (·.1)).map cordD) ((cs.map (·.2)).map D.int) = (cs.map fun q => Ln.c q.1 q.2).map Ln.d := by
  induction cs with
  | nil => rfl
  | cons q cs ih => simp only [List.map_cons]; unfold pairsD; rw [ih]; rfl
theorem pairs_b (bs : List (Bar × Int)) : pairsD ((bs.map (·.1)).map barD) ((bs.map (·.2)).map D.int) = (bs.map fun q => Ln.b q.1 q.2).map Ln.d := by
  induction bs with
  | nil => rfl
  | cons q bs ih => simp only [List.map_cons]; unfold pairsD; rw [ih]; rfl
theorem left_spec (hL : F "_law_left_forces" = some ⟨2, 8, b_l_left_forces⟩ := by first | assumption | rfl) (n : Nat) {rs : List Ring} {cs : List (Cord × Int)} {bs : List (Bar × Int)} (hl : ∀ l ∈ lnL cs bs, LnIx rs.length l) (st : Sto) :
    callN F (n + 1) "_law_left_forces" [rigD rs (cs.map (·.1)) (bs.map (·.1)), .tup [plcD (cs.map (·.2)), plcD (bs.map (·.2))]] st = some (.loc st.length, st ++ [(resL rs (lnL cs bs)).map D.int]) := by
  generalize hR : rigD rs (cs.map (·.1)) (bs.map (·.1)) = R
  have u : ∀ s : Sto, oIx s R (.int 0) = some (.tup (rs.map ringD)) := fun s => by rw [← hR]; rfl
  have us : ∀ s : Sto, sliceD s (some 1) none R = some (.tup [.tup ((cs.map (·.1)).map cordD), .tup ((bs.map (·.1)).map barD)]) := fun s => by rw [← hR]; exact sl_from (by decide)
  have e0 : startE 8 [R, .tup [plcD (cs.map (·.2)), plcD (bs.map (·.2))]] = [some R, some (.tup [plcD (cs.map (·.2)), plcD (bs.map (·.2))]), none, none, none, none, none, none] := rfl
  rw [call_eq hL rfl]
  simp only [e0, b_l_left_forces]
  obtain ⟨w6, w7, k1⟩ := lf_loop (F := F) n (R := R) (T := .tup [plcD (cs.map (·.2)), plcD (bs.map (·.2))]) (st := st) none (some (.tup ((cs.map (·.1)).map cordD))) (some (plcD (cs.map (·.2)))) (cs.map fun q => Ln.c q.1 q.2) [] (fun l h => hl l (List.mem_append_left _ h)) none none
  obtain ⟨y6, y7, k2⟩ := lf_loop (F := F) n (R := R) (T := .tup [plcD (cs.map (·.2)), plcD (bs.map (·.2))]) (st := st) none (some (.tup ((bs.map (·.1)).map barD))) (some (plcD (bs.map (·.2)))) (bs.map fun q => Ln.b q.1 q.2) (cs.map fun q => Ln.c q.1 q.2) (fun l h => hl l (List.mem_append_right _ h)) w6 w7
  have r0 : rs.map (fun r : Ring => D.int r.ld) = (resL rs []).map D.int := by
    rw [show rs.map (fun r : Ring => D.int r.ld) = (rs.map Ring.ld).map D.int by rw [List.map_map]; rfl]
    congr 1
    apply ext_pa (by rw [List.length_map, resL_len])
    intro i hi
    rw [List.length_map] at hi
    rw [pa_resL hi]
    simp [pullA, pullB]
  rw [List.nil_append] at k1
  have zt : pairsD [.tup ((cs.map (·.1)).map cordD), .tup ((bs.map (·.1)).map barD)] [plcD (cs.map (·.2)), plcD (bs.map (·.2))] = [.tup [.tup ((cs.map (·.1)).map cordD), plcD (cs.map (·.2))], .tup [.tup ((bs.map (·.1)).map barD), plcD (bs.map (·.2))]] := rfl
  have z1 : ∀ s : Sto, zipSrc s (.tup ((cs.map (·.1)).map cordD)) (plcD (cs.map (·.2))) = some (always, (cs.map fun q => Ln.c q.1 q.2).map Ln.d) := fun s => by rw [← pairs_c]; rfl
  have z2 : ∀ s : Sto, zipSrc s (.tup ((bs.map (·.1)).map barD)) (plcD (bs.map (·.2))) = some (always, (bs.map fun q => Ln.b q.1 q.2).map Ln.d) := fun s => by rw [← pairs_b]; rfl
  repeat (first | walk_at "ev" | simp only [u])
  rw [lc_map ringD (fun r : Ring => D.int r.ld) rs ?h]
  case h =>
    intro r _
    refine ⟨_, rfl, rfl, ?_⟩
    simp only [ringD]
    repeat (first | walk_at "ev")
  rw [r0]
  repeat (first | walk_at "ev" | simp only [us, zt, e_forC, e_gtT, if_true, reduceIte, Nat.reduceAdd, b_l_left_forces_f2, pairs_c, pairs_b, k1, k2, e_forN, e_kfo1, e_kfo2N, e_kfnR])
  rfl
/-! ### the table of rules -/
def minT (T : Tab) (A B : Nat) (v : Int) : Tab := setT T A B (min (ta T A B) v)
theorem set_keeps {N A B : Nat} {v : Int} {T : Tab} (hT : Sq N T) (hA : A < N) (hB : B < N) (hv : v ≤ ta T A B) (x : Nat → Int) : Keeps N (setT T A B v) x ↔ Keeps N T x ∧ x B - x A ≤ v := by
  constructor
  · intro q
    have qq : ∀ a b, a < N → b < N → x b - x a ≤ if A = a ∧ B = b then v else ta T a b := fun a b ha hb' => by
      have := q a b ha hb'
      rwa [ta_setT hT hA hB] at this
    refine ⟨fun a b ha hb' => ?_, ?_⟩
    · have := qq a b ha hb'
      split at this
      · next e => obtain ⟨rfl, rfl⟩ := e; omega
      · exact this
    · have := qq A B hA hB
      rwa [if_pos ⟨rfl, rfl⟩] at this
  · rintro ⟨q1, q2⟩ a b ha hb'
    rw [ta_setT hT hA hB]
    split
    · next e =>
      obtain ⟨rfl, rfl⟩ := e
      exact q2
    · exact q1 a b ha hb'
/-- a table that came from the limits by further bounds between rings -/
structure Rul (rs : List Ring) (T0 : Tab) (X : (Nat → Int) → Prop) (T : Tab) : Prop where
  sq : Sq (rs.length + 1) T
  dg : Diag (rs.length + 1) T
  rl : ∀ k, k < rs.length → ta T rs.length k = pa (hisL rs) k ∧ ta T k rs.length = 0 - pa (losL rs) k
  kp : ∀ x, Keeps (rs.length + 1) T x ↔ Keeps (rs.length + 1) T0 x ∧ X x
theorem Rul.min {rs : List Ring} {T0 T : Tab} {X : (Nat → Int) → Prop} (h : Rul rs T0 X T) {A B : Nat} {v : Int} (hA : A < rs.length) (hB : B < rs.length) (ne : A ≠ B) : Rul rs T0 (fun x => X x ∧ x B - x A ≤ v) (minT T A B v) := by
  unfold minT
  refine ⟨setT_sq h.sq (by omega), fun a ha => ?_, fun k hk => ?_, fun x => ?_⟩
  · rw [ta_setT h.sq (by omega) (by omega), if_neg (by omega)]
    exact h.dg a ha
  · rw [ta_setT h.sq (by omega) (by omega), ta_setT h.sq (by omega) (by omega), if_neg (by omega), if_neg (by omega)]
    exact h.rl k hk
  · rw [set_keeps h.sq (by omega) (by omega) (by omega), h.kp x]
    constructor
    · rintro ⟨⟨a, b⟩, c⟩
      exact ⟨a, b, by omega⟩
    · rintro ⟨a, b, c⟩
      have := (h.kp x).mpr ⟨a, b⟩ A B (by omega) (by omega)
      exact ⟨⟨a, b⟩, by omega⟩
theorem Rul.cond {rs : List Ring} {T0 T : Tab} {X : (Nat → Int) → Prop} (h : Rul rs T0 X T) {A B : Nat} {v : Int} (hA : A < rs.length) (hB : B < rs.length) (ne : A ≠ B) (c : Prop) [Decidable c] : Rul rs T0 (fun x => X x ∧ (c → x B - x A ≤ v)) (if c then minT T A B v else T) := by
  by_cases hc : c
  · rw [if_pos hc]
    have := h.min (v := v) hA hB ne
    exact ⟨this.sq, this.dg, this.rl, fun x => by rw [this.kp x]; simp [hc]⟩
  · rw [if_neg hc]
    exact ⟨h.sq, h.dg, h.rl, fun x => by rw [h.kp x]; simp [hc]⟩
theorem Rul.congr {rs : List Ring} {T0 T : Tab} {X Y : (Nat → Int) → Prop} (h : Rul rs T0 X T) (e : ∀ x, X x ↔ Y x) : Rul rs T0 Y T := ⟨h.sq, h.dg, h.rl, fun x => by rw [h.kp x, e x]⟩
def CC (x : Nat → Int) (q : Cord × Int) : Prop := (q.2 < q.1.w → x q.1.b.toNat - x q.1.a.toNat ≤ q.1.len) ∧ (0 < q.2 → x q.1.a.toNat - x q.1.b.toNat ≤ 0 - q.1.len)
def BB (x : Nat → Int) (q : Bar × Int) : Prop := 0 < q.2 → x q.1.a.toNat - x q.1.b.toNat ≤ 0 - q.1.len
def RR (rs : List Ring) (r : List Int) (x : Nat → Int) (k : Nat) : Prop := (pa r k < 0 → x k - x rs.length ≤ pa (losL rs) k) ∧ (0 < pa r k → x rs.length - x k ≤ 0 - pa (hisL rs) k)
/-- the table of rules -/
structure RulT (rs : List Ring) (cs : List (Cord × Int)) (bs : List (Bar × Int)) (T0 T : Tab) : Prop where
  lim : LimT rs (bs.map (·.1)) T0
  sq : Sq (rs.length + 1) T
  dg : Diag (rs.length + 1) T
  rl : ∀ k, k < rs.length → ta T rs.length k ≤ pa (hisL rs) k ∧ ta T k rs.length ≤ 0 - pa (losL rs) k
  kp : ∀ x, Keeps (rs.length + 1) T x ↔ Keeps (rs.length + 1) T0 x ∧ (∀ q ∈ cs, CC x q) ∧ (∀ q ∈ bs, BB x q) ∧ ∀ k, k < rs.length → RR rs (resL rs (lnL cs bs)) x k
theorem pairs_c2 (cs : List (Cord × Int)) : pairsD ((cs.map (·.1)).map cordD) ((cs.map (·.2)).map D.int) = cs.map ctD := by
  rw [pairs_c, List.map_map]
  rfl
theorem pairs_b2 (bs : List (Bar × Int)) : pairsD ((bs.map (·.1)).map barD) ((bs.map (·.2)).map D.int) = bs.map btD := by
  rw [pairs_b, List.map_map]
  rfl
theorem rl1 (n : Nat) {rs : List Ring} {R Q : D} {st : Sto} {T0 : Tab} (cs : List (Cord × Int)) (hc : ∀ q ∈ cs, CIx rs.length q.1 ∧ q.1.a ≠ q.1.b) (T : Tab) (hT : Rul rs T0 (fun _ => True) T) :
    ∃ (T' : Tab) (v4 v5 v6 v7 v8 : Option D), forL always (gT 2 (gsCons (gT 4 (gsCons (gN 4) (gsCons (gN 5) (gsCons (gN 6) (gsCons (gN 7) gsNil))))) (gsCons (gN 8) gsNil))) (b_l_rules_f1 (callN F n)) (cs.map ctD) [some R, some Q, some (.loc (st.length + (rs.length + 1))), some (.int (rs.length : Nat)), none, none, none, none, none, none, none] (tabSt st (rs.length + 1) T)
      = some (.nx [some R, some Q, some (.loc (st.length + (rs.length + 1))), some (.int (rs.length : Nat)), v4, v5, v6, v7, v8, none, none], tabSt st (rs.length + 1) T') ∧ Rul rs T0 (fun x => ∀ q ∈ cs, CC x q) T' := by
  obtain ⟨env', st', k, T', v4, v5, v6, v7, v8, ds, rfl, rfl, he, hr⟩ := for_rel (tg := gT 2 (gsCons (gT 4 (gsCons (gN 4) (gsCons (gN 5) (gsCons (gN 6) (gsCons (gN 7) gsNil))))) (gsCons (gN 8) gsNil))) (body := b_l_rules_f1 (callN F n)) ctD
    (fun ys env s => ∃ (T : Tab) (v4 v5 v6 v7 v8 : Option D) (ds : List (Cord × Int)), env = [some R, some Q, some (.loc (st.length + (rs.length + 1))), some (.int (rs.length : Nat)), v4, v5, v6, v7, v8, none, none] ∧ s = tabSt st (rs.length + 1) T ∧ ds ++ ys = cs ∧ Rul rs T0 (fun x => ∀ q ∈ ds, CC x q) T)
    (by
      rintro q ys env s ⟨T, v4, v5, v6, v7, v8, ds, rfl, rfl, he, hr⟩
      refine ⟨[some R, some Q, some (.loc (st.length + (rs.length + 1))), some (.int (rs.length : Nat)), some (.int q.1.a), some (.int q.1.b), some (.int q.1.len), some (.int q.1.w), some (.int q.2), none, none], tabSt st (rs.length + 1) T, rfl, ?_⟩
      obtain ⟨⟨a0, a1, b0, b1⟩, ne⟩ := hc q (by rw [← he]; simp)
      obtain ⟨A, eA⟩ : ∃ A : Nat, q.1.a = A := ⟨q.1.a.toNat, by omega⟩
      obtain ⟨B, eB⟩ : ∃ B : Nat, q.1.b = B := ⟨q.1.b.toNat, by omega⟩
      have hA : A < rs.length := by omega
      have hB : B < rs.length := by omega
      have r1 := hr.cond (v := q.1.len) hA hB (by omega) (q.2 < q.1.w)
      have r2 := r1.cond (v := 0 - q.1.len) hB hA (by omega) (0 < q.2)
      have r3 := r2.congr (Y := fun x => ∀ p ∈ ds ++ [q], CC x p) fun x => by
        have eAB : q.1.a.toNat = A ∧ q.1.b.toNat = B := by omega
        constructor
        · rintro ⟨⟨h1, h2⟩, h3⟩ p hp
          rcases List.mem_append.mp hp with z | z
          · exact h1 p z
          · rw [List.mem_singleton.mp z]
            unfold CC
            rw [eAB.1, eAB.2]
            exact ⟨h2, h3⟩
        · intro h
          have := h q (by simp)
          unfold CC at this
          rw [eAB.1, eAB.2] at this
          exact ⟨⟨fun p hp => h p (List.mem_append_left _ hp), this.1⟩, this.2⟩
      have i1 := ix_tab (st := st) hr.sq (show A < rs.length + 1 by omega)
      have i2 := ix_row (st := st) hr.sq (show A < rs.length + 1 by omega) (show B < rs.length + 1 by omega)
      have s1 : setC (tabSt st (rs.length + 1) T) (.loc (st.length + A)) (.int (B : Nat)) (.int (min (ta T A B) q.1.len)) = some (tabSt st (rs.length + 1) (minT T A B q.1.len)) := set_tab hr.sq (by omega) (by omega)
      generalize hT1 : (if q.2 < q.1.w then minT T A B q.1.len else T) = T1 at r1 r2 r3
      have j1 := ix_tab (st := st) r1.sq (show B < rs.length + 1 by omega)
      have j2 := ix_row (st := st) r1.sq (show B < rs.length + 1 by omega) (show A < rs.length + 1 by omega)
      have t1 : setC (tabSt st (rs.length + 1) T1) (.loc (st.length + B)) (.int (A : Nat)) (.int (min (ta T1 B A) (0 - q.1.len))) = some (tabSt st (rs.length + 1) (minT T1 B A (0 - q.1.len))) := set_tab r1.sq (by omega) (by omega)
      simp only [b_l_rules_f1, eA, eB]
      by_cases c1 : q.2 < q.1.w
      · rw [if_pos c1] at hT1
        rw [hT1] at s1
        by_cases c2 : 0 < q.2
        · rw [if_pos c2] at r3
          repeat (first | walk_at "ev" | simp only [c1, c2, decide_true, i1, i2, s1, j1, j2, t1])
          exact ⟨_, _, rfl, _, _, _, _, _, _, ds ++ [q], rfl, rfl, by rw [List.append_assoc]; exact he, r3⟩
        · rw [if_neg c2] at r3
          repeat (first | walk_at "ev" | simp only [c1, c2, decide_true, decide_false, i1, i2, s1])
          exact ⟨_, _, rfl, _, _, _, _, _, _, ds ++ [q], rfl, rfl, by rw [List.append_assoc]; exact he, r3⟩
      · rw [if_neg c1] at hT1
        subst hT1
        by_cases c2 : 0 < q.2
        · rw [if_pos c2] at r3
          repeat (first | walk_at "ev" | simp only [c1, c2, decide_true, decide_false, j1, j2, t1])
          exact ⟨_, _, rfl, _, _, _, _, _, _, ds ++ [q], rfl, rfl, by rw [List.append_assoc]; exact he, r3⟩
        · rw [if_neg c2] at r3
          repeat (first | walk_at "ev" | simp only [c1, c2, decide_true, decide_false])
          exact ⟨_, _, rfl, _, _, _, _, _, _, ds ++ [q], rfl, rfl, by rw [List.append_assoc]; exact he, r3⟩)
    cs [some R, some Q, some (.loc (st.length + (rs.length + 1))), some (.int (rs.length : Nat)), none, none, none, none, none, none, none] (tabSt st (rs.length + 1) T) ⟨T, none, none, none, none, none, [], rfl, rfl, rfl, hT.congr fun x => by simp⟩
  rw [List.append_nil] at he
  subst he
  exact ⟨T', _, _, _, _, _, k, hr⟩
theorem rl2 (n : Nat) {rs : List Ring} {R Q : D} {st : Sto} {T0 : Tab} {X : (Nat → Int) → Prop} (v7 : Option D) (bs : List (Bar × Int)) (hc : ∀ q ∈ bs, BIx rs.length q.1 ∧ q.1.a ≠ q.1.b) (T : Tab) (hT : Rul rs T0 X T) (v4 v5 v6 v8 : Option D) :
    ∃ (T' : Tab) (w4 w5 w6 w8 : Option D), forL always (gT 2 (gsCons (gT 3 (gsCons (gN 4) (gsCons (gN 5) (gsCons (gN 6) gsNil)))) (gsCons (gN 8) gsNil))) (b_l_rules_f2 (callN F n)) (bs.map btD) [some R, some Q, some (.loc (st.length + (rs.length + 1))), some (.int (rs.length : Nat)), v4, v5, v6, v7, v8, none, none] (tabSt st (rs.length + 1) T)
      = some (.nx [some R, some Q, some (.loc (st.length + (rs.length + 1))), some (.int (rs.length : Nat)), w4, w5, w6, v7, w8, none, none], tabSt st (rs.length + 1) T') ∧ Rul rs T0 (fun x => X x ∧ ∀ q ∈ bs, BB x q) T' := by
  obtain ⟨env', st', k, T', w4, w5, w6, w8, ds, rfl, rfl, he, hr⟩ := for_rel (tg := gT 2 (gsCons (gT 3 (gsCons (gN 4) (gsCons (gN 5) (gsCons (gN 6) gsNil)))) (gsCons (gN 8) gsNil))) (body := b_l_rules_f2 (callN F n)) btD
    (fun ys env s => ∃ (T : Tab) (v4 v5 v6 v8 : Option D) (ds : List (Bar × Int)), env = [some R, some Q, some (.loc (st.length + (rs.length + 1))), some (.int (rs.length : Nat)), v4, v5, v6, v7, v8, none, none] ∧ s = tabSt st (rs.length + 1) T ∧ ds ++ ys = bs ∧ Rul rs T0 (fun x => X x ∧ ∀ q ∈ ds, BB x q) T)
    (by
      rintro q ys env s ⟨T, v4, v5, v6, v8, ds, rfl, rfl, he, hr⟩
      refine ⟨[some R, some Q, some (.loc (st.length + (rs.length + 1))), some (.int (rs.length : Nat)), some (.int q.1.a), some (.int q.1.b), some (.int q.1.len), v7, some (.int q.2), none, none], tabSt st (rs.length + 1) T, rfl, ?_⟩
      obtain ⟨⟨a0, a1, b0, b1⟩, ne⟩ := hc q (by rw [← he]; simp)
      obtain ⟨A, eA⟩ : ∃ A : Nat, q.1.a = A := ⟨q.1.a.toNat, by omega⟩
      obtain ⟨B, eB⟩ : ∃ B : Nat, q.1.b = B := ⟨q.1.b.toNat, by omega⟩
      have hA : A < rs.length := by omega
      have hB : B < rs.length := by omega
      have r2 := hr.cond (v := 0 - q.1.len) hB hA (by omega) (0 < q.2)
      have r3 := r2.congr (Y := fun x => X x ∧ ∀ p ∈ ds ++ [q], BB x p) fun x => by
        have eAB : q.1.a.toNat = A ∧ q.1.b.toNat = B := by omega
        constructor
        · rintro ⟨⟨h0, h1⟩, h3⟩
          refine ⟨h0, fun p hp => ?_⟩
          rcases List.mem_append.mp hp with z | z
          · exact h1 p z
          · rw [List.mem_singleton.mp z]
            unfold BB
            rw [eAB.1, eAB.2]
            exact h3
        · rintro ⟨h0, h⟩
          have := h q (by simp)
          unfold BB at this
          rw [eAB.1, eAB.2] at this
          exact ⟨⟨h0, fun p hp => h p (List.mem_append_left _ hp)⟩, this⟩
      have j1 := ix_tab (st := st) hr.sq (show B < rs.length + 1 by omega)
      have j2 := ix_row (st := st) hr.sq (show B < rs.length + 1 by omega) (show A < rs.length + 1 by omega)
      have t1 : setC (tabSt st (rs.length + 1) T) (.loc (st.length + B)) (.int (A : Nat)) (.int (min (ta T B A) (0 - q.1.len))) = some (tabSt st (rs.length + 1) (minT T B A (0 - q.1.len))) := set_tab hr.sq (by omega) (by omega)
      simp only [b_l_rules_f2, eA, eB]
      by_cases c2 : 0 < q.2
      · rw [if_pos c2] at r3
        repeat (first | walk_at "ev" | simp only [c2, decide_true, decide_false, j1, j2, t1])
        exact ⟨_, _, rfl, _, _, _, _, _, ds ++ [q], rfl, rfl, by rw [List.append_assoc]; exact he, r3⟩
      · rw [if_neg c2] at r3
        repeat (first | walk_at "ev" | simp only [c2, decide_true, decide_false])
        exact ⟨_, _, rfl, _, _, _, _, _, ds ++ [q], rfl, rfl, by rw [List.append_assoc]; exact he, r3⟩)
    bs [some R, some Q, some (.loc (st.length + (rs.length + 1))), some (.int (rs.length : Nat)), v4, v5, v6, v7, v8, none, none] (tabSt st (rs.length + 1) T) ⟨T, v4, v5, v6, v8, [], rfl, rfl, rfl, hT.congr fun x => by simp⟩
  rw [List.append_nil] at he
  subst he
  exact ⟨T', _, _, _, _, k, hr⟩
theorem tab_len {st : Sto} {N : Nat} {T : Tab} (h : Sq N T) : (tabSt st N T).length = st.length + N + 1 := by
  unfold tabSt
  rw [List.length_append, List.length_append, List.length_map, h.len]
  rfl
theorem rl3 (n : Nat) {rs : List Ring} {R Q : D} (hR : ∀ s : Sto, oIx s R (.int 0) = some (.tup (rs.map ringD))) {st : Sto} {r : List Int} (hr : r.length = rs.length) (hlh : ∀ k, k < rs.length → pa (losL rs) k ≤ pa (hisL rs) k) (v4 v5 v6 v7 v8 : Option D) {T2 : Tab} (sq : Sq (rs.length + 1) T2) (dg : Diag (rs.length + 1) T2) (rl : ∀ k, k < rs.length → ta T2 rs.length k = pa (hisL rs) k ∧ ta T2 k rs.length = 0 - pa (losL rs) k) :
    ∃ (T' : Tab) (v9 v10 : Option D), forL (unchanged (st.length + (rs.length + 1) + 1) (r.map D.int)) (gT 2 (gsCons (gN 9) (gsCons (gN 10) gsNil))) (b_l_rules_f3 (callN F n)) (enD 0 (r.map D.int)) [some R, some Q, some (.loc (st.length + (rs.length + 1))), some (.int (rs.length : Nat)), v4, v5, v6, v7, v8, none, none] (tabSt st (rs.length + 1) T2 ++ [r.map D.int])
      = some (.nx [some R, some Q, some (.loc (st.length + (rs.length + 1))), some (.int (rs.length : Nat)), v4, v5, v6, v7, v8, v9, v10], tabSt st (rs.length + 1) T' ++ [r.map D.int]) ∧ (Sq (rs.length + 1) T' ∧ Diag (rs.length + 1) T') ∧ (∀ k, k < rs.length → ta T' rs.length k ≤ pa (hisL rs) k ∧ ta T' k rs.length ≤ 0 - pa (losL rs) k) ∧
      ∀ x, Keeps (rs.length + 1) T' x ↔ Keeps (rs.length + 1) T2 x ∧ ∀ k, k < rs.length → RR rs r x k := by
  rw [en_zip D.int r 0]
  obtain ⟨env', st', k, T', m, v9, v10, rfl, rfl, hy, hm, ⟨sq', dg'⟩, ra, rb, kp⟩ := for_relC (chk := unchanged (st.length + (rs.length + 1) + 1) (r.map D.int)) (tg := gT 2 (gsCons (gN 9) (gsCons (gN 10) gsNil))) (body := b_l_rules_f3 (callN F n)) (fun p : Int × Nat => D.tup [.int (p.2 : Nat), D.int p.1])
    (fun ys env s => ∃ (T : Tab) (m : Nat) (v9 v10 : Option D), env = [some R, some Q, some (.loc (st.length + (rs.length + 1))), some (.int (rs.length : Nat)), v4, v5, v6, v7, v8, v9, v10] ∧ s = tabSt st (rs.length + 1) T ++ [r.map D.int] ∧ ys = r.zipIdx.drop m ∧ m ≤ rs.length ∧ (Sq (rs.length + 1) T ∧ Diag (rs.length + 1) T) ∧
      (∀ k, m ≤ k → k < rs.length → ta T rs.length k = pa (hisL rs) k ∧ ta T k rs.length = 0 - pa (losL rs) k) ∧ (∀ k, k < rs.length → ta T rs.length k ≤ pa (hisL rs) k ∧ ta T k rs.length ≤ 0 - pa (losL rs) k) ∧ ∀ x, Keeps (rs.length + 1) T x ↔ Keeps (rs.length + 1) T2 x ∧ ∀ k, k < m → RR rs r x k)
    (by
      rintro ys env s ⟨T, m, v9, v10, rfl, rfl, _, _, ⟨hT, _⟩, _⟩
      apply unchanged_iff.mpr
      have hl := tab_len (st := st) hT
      rw [List.getElem?_append_right (by omega), show st.length + (rs.length + 1) + 1 - (tabSt st (rs.length + 1) T).length = 0 by omega]
      rfl)
    (by
      rintro p ys env s ⟨T, m, v9, v10, rfl, rfl, hy, hm, ⟨hT, dg⟩, ra, rb, kp⟩
      have hlt : m < r.zipIdx.length := by
        apply Classical.byContradiction
        intro hn
        rw [List.drop_eq_nil_of_le (by omega)] at hy
        cases hy
      rw [List.drop_eq_getElem_cons hlt] at hy
      obtain ⟨hp, hys⟩ := List.cons.inj hy
      have hlq : m < r.length := by simpa using hlt
      have hmn : m < rs.length := by omega
      rw [List.getElem_zipIdx] at hp
      subst hp
      have ep : r[m] = pa r m := (pa_get hlq).symm
      refine ⟨[some R, some Q, some (.loc (st.length + (rs.length + 1))), some (.int (rs.length : Nat)), v4, v5, v6, v7, v8, some (.int (m : Nat)), some (.int (pa r m))], tabSt st (rs.length + 1) T ++ [r.map D.int], by simp only [ep, Nat.zero_add]; rfl, ?_⟩
      obtain ⟨ra1, ra2⟩ := ra m (Nat.le_refl _) hmn
      have lh := hlh m hmn
      have u1 : atI (rs.map ringD) (m : Nat) = some (ringD rs[m]) := by
        rw [at_nat (by rw [List.length_map]; exact hmn), List.getElem_map]
      have e1 : pa (hisL rs) m = rs[m].hi := by unfold hisL; rw [pa_map hmn]
      have e2 : pa (losL rs) m = rs[m].lo := by unfold losL; rw [pa_map hmn]
      have i1 := oIx_app (g := [r.map D.int]) (ix_tab (st := st) hT (show rs.length < rs.length + 1 by omega))
      have s1 := setC_app (g := [r.map D.int]) (set_tab (st := st) (v := rs[m].lo) hT (show rs.length < rs.length + 1 by omega) (show m < rs.length + 1 by omega))
      have i2 := oIx_app (g := [r.map D.int]) (ix_tab (st := st) hT (show m < rs.length + 1 by omega))
      have s2 := setC_app (g := [r.map D.int]) (set_tab (st := st) (v := 0 - rs[m].hi) hT (show m < rs.length + 1 by omega) (show rs.length < rs.length + 1 by omega))
      simp only [b_l_rules_f3]
      have last : ∀ (T' : Tab), (∀ x, Keeps (rs.length + 1) T' x ↔ Keeps (rs.length + 1) T x ∧ RR rs r x m) → ∀ x, Keeps (rs.length + 1) T' x ↔ Keeps (rs.length + 1) T2 x ∧ ∀ k, k < m + 1 → RR rs r x k := by
        intro T' h x
        rw [h x, kp x]
        constructor
        · rintro ⟨⟨h1, h2⟩, h3⟩
          refine ⟨h1, fun k hk => ?_⟩
          by_cases e : k = m
          · rw [e]; exact h3
          · exact h2 k (by omega)
        · rintro ⟨h1, h2⟩
          exact ⟨⟨h1, fun k hk => h2 k (by omega)⟩, h2 m (by omega)⟩
      by_cases c1 : pa r m < 0
      · have c2 : ¬ 0 < pa r m := by omega
        repeat (first | walk_at "ev" | simp only [c1, c2, decide_true, decide_false, hR, u1, ringD, i1, s1])
        refine ⟨_, _, rfl, setT T rs.length m rs[m].lo, m + 1, _, _, rfl, rfl, hys, by omega, ⟨setT_sq hT (by omega), fun a ha => ?_⟩, fun k k1 k2 => ?_, fun k k2 => ?_, last _ fun x => ?_⟩
        · rw [ta_setT hT (by omega) (by omega), if_neg (by omega)]; exact dg a ha
        · rw [ta_setT hT (by omega) (by omega), ta_setT hT (by omega) (by omega), if_neg (by omega), if_neg (by omega)]; exact ra k (by omega) k2
        · rw [ta_setT hT (by omega) (by omega), ta_setT hT (by omega) (by omega), if_neg (show ¬ (rs.length = k ∧ m = rs.length) by omega)]
          have := rb k k2
          refine ⟨?_, this.2⟩
          split
          · next e => obtain ⟨_, rfl⟩ := e; omega
          · exact this.1
        · rw [set_keeps hT (by omega) (by omega) (by rw [ra1]; omega)]
          unfold RR
          rw [e2]
          constructor
          · rintro ⟨h1, h2⟩; exact ⟨h1, fun _ => h2, fun h => absurd h c2⟩
          · rintro ⟨h1, h2, _⟩; exact ⟨h1, h2 c1⟩
      · by_cases c2 : 0 < pa r m
        · repeat (first | walk_at "ev" | simp only [c1, c2, decide_true, decide_false, hR, u1, ringD, i2, s2])
          refine ⟨_, _, rfl, setT T m rs.length (0 - rs[m].hi), m + 1, _, _, rfl, rfl, hys, by omega, ⟨setT_sq hT (by omega), fun a ha => ?_⟩, fun k k1 k2 => ?_, fun k k2 => ?_, last _ fun x => ?_⟩
          · rw [ta_setT hT (by omega) (by omega), if_neg (by omega)]; exact dg a ha
          · rw [ta_setT hT (by omega) (by omega), ta_setT hT (by omega) (by omega), if_neg (by omega), if_neg (by omega)]; exact ra k (by omega) k2
          · rw [ta_setT hT (by omega) (by omega), ta_setT hT (by omega) (by omega), if_neg (show ¬ (m = rs.length ∧ rs.length = k) by omega)]
            have := rb k k2
            refine ⟨this.1, ?_⟩
            split
            · next e => obtain ⟨rfl, _⟩ := e; omega
            · exact this.2
          · rw [set_keeps hT (by omega) (by omega) (by rw [ra2]; omega)]
            unfold RR
            rw [e1]
            constructor
            · rintro ⟨h1, h2⟩; exact ⟨h1, fun h => absurd h c1, fun _ => h2⟩
            · rintro ⟨h1, _, h2⟩; exact ⟨h1, h2 c2⟩
        · repeat (first | walk_at "ev" | simp only [c1, c2, decide_true, decide_false])
          refine ⟨_, _, rfl, T, m + 1, _, _, rfl, rfl, hys, by omega, ⟨hT, dg⟩, fun k k1 k2 => ra k (by omega) k2, rb, last _ fun x => ?_⟩
          unfold RR
          exact ⟨fun h => ⟨h, fun h => absurd h c1, fun h => absurd h c2⟩, fun h => h.1⟩)
    r.zipIdx [some R, some Q, some (.loc (st.length + (rs.length + 1))), some (.int (rs.length : Nat)), v4, v5, v6, v7, v8, none, none] (tabSt st (rs.length + 1) T2 ++ [r.map D.int]) ⟨T2, 0, none, none, rfl, rfl, rfl, Nat.zero_le _, ⟨sq, dg⟩, fun k _ hk => rl k hk, fun k hk => by have := rl k hk; omega, fun x => ⟨fun h => ⟨h, fun k hk => absurd hk (by omega)⟩, fun h => h.1⟩⟩
  have hm' : m = rs.length := by
    apply Classical.byContradiction
    intro hn
    rw [List.drop_eq_getElem_cons (by rw [List.length_zipIdx]; omega)] at hy
    cases hy
  subst hm'
  exact ⟨T', v9, v10, k, ⟨sq', dg'⟩, rb, kp⟩
theorem rules_spec (hM : F "_law_limits" = some ⟨1, 12, b_l_limits⟩ := by first | assumption | rfl) (hL : F "_law_left_forces" = some ⟨2, 8, b_l_left_forces⟩ := by first | assumption | rfl) (hU : F "_law_rules" = some ⟨2, 11, b_l_rules⟩ := by first | assumption | rfl) (n : Nat) {rs : List Ring} {cs : List (Cord × Int)} {bs : List (Bar × Int)} (r2 : rs.length ≤ 8)
    (hc : ∀ q ∈ cs, CIx rs.length q.1 ∧ q.1.a ≠ q.1.b) (hb : ∀ q ∈ bs, BIx rs.length q.1 ∧ q.1.a ≠ q.1.b) (hlh : ∀ k, k < rs.length → pa (losL rs) k ≤ pa (hisL rs) k) (st : Sto) :
    ∃ (T0 T : Tab) (g : Sto), callN F (n + 2) "_law_rules" [rigD rs (cs.map (·.1)) (bs.map (·.1)), .tup [plcD (cs.map (·.2)), plcD (bs.map (·.2))]] st = some (.loc (st.length + (rs.length + 1)), tabSt st (rs.length + 1) T ++ g) ∧ RulT rs cs bs T0 T := by
  obtain ⟨T0, k1, lim⟩ := limits_spec hM n (rs := rs) (cs := .tup ((cs.map (·.1)).map cordD)) (bs := bs.map (·.1)) r2 (fun c h => by
    obtain ⟨q, hq, rfl⟩ := List.mem_map.mp h
    exact hb q hq) st
  have hl : ∀ l ∈ lnL cs bs, LnIx rs.length l := by
    intro l h
    rcases List.mem_append.mp h with z | z
    · obtain ⟨q, hq, rfl⟩ := List.mem_map.mp z
      exact (hc q hq).1
    · obtain ⟨q, hq, rfl⟩ := List.mem_map.mp z
      exact (hb q hq).1
  generalize hR : rigD rs (cs.map (·.1)) (bs.map (·.1)) = R
  have k1 : callN F (n + 1) "_law_limits" [R] st = some (.loc (st.length + (rs.length + 1)), tabSt st (rs.length + 1) T0) := by rw [← hR]; exact k1
  have u0 : ∀ s : Sto, oIx s R (.int 0) = some (.tup (rs.map ringD)) := fun s => by rw [← hR]; rfl
  have u1 : ∀ s : Sto, oIx s R (.int 1) = some (.tup ((cs.map (·.1)).map cordD)) := fun s => by rw [← hR]; rfl
  have u2 : ∀ s : Sto, oIx s R (.int 2) = some (.tup ((bs.map (·.1)).map barD)) := fun s => by rw [← hR]; rfl
  generalize hQ : D.tup [plcD (cs.map (·.2)), plcD (bs.map (·.2))] = Q
  have q0 : ∀ s : Sto, oIx s Q (.int 0) = some (plcD (cs.map (·.2))) := fun s => by rw [← hQ]; rfl
  have q1 : ∀ s : Sto, oIx s Q (.int 1) = some (plcD (bs.map (·.2))) := fun s => by rw [← hQ]; rfl
  have z1 : ∀ s : Sto, zipSrc s (.tup ((cs.map (·.1)).map cordD)) (plcD (cs.map (·.2))) = some (always, cs.map ctD) := fun s => by rw [← pairs_c2]; rfl
  have z2 : ∀ s : Sto, zipSrc s (.tup ((bs.map (·.1)).map barD)) (plcD (bs.map (·.2))) = some (always, bs.map btD) := fun s => by rw [← pairs_b2]; rfl
  obtain ⟨T1, v4, v5, v6, v7, v8, k2, h1⟩ := rl1 (F := F) (n + 1) (R := R) (Q := Q) (st := st) (T0 := T0) cs hc T0 ⟨lim.sq, lim.diag, lim.rail, fun x => by simp⟩
  obtain ⟨T2, w4, w5, w6, w8, k3, h2⟩ := rl2 (F := F) (n + 1) (R := R) (Q := Q) (st := st) v7 bs hb T1 h1 v4 v5 v6 v8
  have k4 : callN F (n + 1) "_law_left_forces" [R, Q] (tabSt st (rs.length + 1) T2) = some (.loc (tabSt st (rs.length + 1) T2).length, tabSt st (rs.length + 1) T2 ++ [(resL rs (lnL cs bs)).map D.int]) := by rw [← hR, ← hQ]; exact left_spec hL n hl (tabSt st (rs.length + 1) T2)
  rw [tab_len h2.sq] at k4
  obtain ⟨T3, v9, v10, k5, ⟨sq3, dg3⟩, rb, kp⟩ := rl3 (F := F) (n + 1) (R := R) (Q := Q) u0 (st := st) (r := resL rs (lnL cs bs)) resL_len hlh w4 w5 w6 v7 w8 h2.sq h2.dg h2.rl
  have es : enSrc (tabSt st (rs.length + 1) T2 ++ [(resL rs (lnL cs bs)).map D.int]) (.loc (st.length + (rs.length + 1) + 1)) = some (unchanged (st.length + (rs.length + 1) + 1) ((resL rs (lnL cs bs)).map D.int), enD 0 ((resL rs (lnL cs bs)).map D.int)) := by
    unfold enSrc
    show (((tabSt st (rs.length + 1) T2 ++ [(resL rs (lnL cs bs)).map D.int])[st.length + (rs.length + 1) + 1]?).map _).map _ = _
    have hl := tab_len (st := st) h2.sq
    rw [List.getElem?_append_right (by omega), show st.length + (rs.length + 1) + 1 - (tabSt st (rs.length + 1) T2).length = 0 by omega]
    rfl
  refine ⟨T0, T3, [(resL rs (lnL cs bs)).map D.int], ?_, lim, sq3, dg3, rb, fun x => ?_⟩
  · rw [call_eq hU rfl]
    have e0 : startE 11 [R, Q] = [some R, some Q, none, none, none, none, none, none, none, none, none] := rfl
    simp only [e0, b_l_rules]
    repeat (first | walk_at "ev" | simp only [k1, u0, u1, u2, q0, q1, pairs_c2, pairs_b2, k2, k3, k4, es, k5, e_kfnR])
  · rw [kp x, h2.kp x]
    constructor
    · rintro ⟨⟨a, b, c⟩, d⟩; exact ⟨a, b, c, d⟩
    · rintro ⟨a, b, c, d⟩; exact ⟨⟨a, b, c⟩, d⟩
/-! ### fitting a table -/
theorem for_test {α : Type} {tg : DG} {body : DS} (f : α → D) (p : α → Bool) (E : En → Prop) {st : Sto} : ∀ (xs : List α) (env : En), E env →
    (∀ x ∈ xs, ∀ env, E env → ∃ e, tg (f x) env st = some (e, st) ∧ (p x = true → ∃ e2, body e st = some (.nx e2, st) ∧ E e2) ∧ (p x = false → body e st = some (.rt (.bl false), st))) →
    (xs.all p = true ∧ ∃ env', forL always tg body (xs.map f) env st = some (.nx env', st) ∧ E env') ∨ (xs.all p = false ∧ forL always tg body (xs.map f) env st = some (.rt (.bl false), st))
  | [], env, h, _ => .inl ⟨rfl, env, rfl, h⟩
  | x :: xs, env, h, step => by
    obtain ⟨e, h1, h2, h3⟩ := step x List.mem_cons_self env h
    rw [List.map_cons, e_forC, h1, List.all_cons]
    cases hp : p x with
    | true =>
      obtain ⟨e2, h4, h5⟩ := h2 hp
      have ih := for_test f p E xs e2 h5 fun y hy => step y (List.mem_cons_of_mem _ hy)
      simp only [Option.bind_some, e_kfo1, h4, e_kfo2N, Bool.true_and]
      exact ih
    | false =>
      simp only [Option.bind_some, e_kfo1, h3 hp, e_kfo2R, Bool.false_and]
      exact .inr ⟨trivial, trivial⟩
theorem zip_all {α : Type} {xs : List α} {q : α × Nat → Bool} : xs.zipIdx.all q = true ↔ ∀ i (h : i < xs.length), q (xs[i], i) = true := by
  rw [List.all_eq_true]
  constructor
  · intro h i hi
    refine h _ ?_
    rw [List.mem_iff_getElem]
    exact ⟨i, by simpa using hi, by simp⟩
  · intro h p hp
    obtain ⟨i, hi, rfl⟩ := List.mem_iff_getElem.mp hp
    rw [List.getElem_zipIdx]
    simpa using h i (by simpa using hi)
/-- whether positions fit -/
def fitB (T : Tab) (x : List Int) : Bool := T.zipIdx.all fun p => p.1.zipIdx.all fun e => decide (pa (x ++ [0]) e.2 - pa (x ++ [0]) p.2 ≤ e.1)
theorem add0 {st : Sto} {x : List Int} (h : x.length ≤ 100) : oAdd st (plcD x) (.tup [.int 0]) = some (plcD (x ++ [0])) := by
  show (if fits ((x.map D.int).length + 1) then _ else _) = _
  rw [fits_small (by rw [List.length_map]; omega), if_pos rfl]
  simp only [plcD, List.map_append]
  rfl
theorem fits_spec (hU : F "fits_table" = some ⟨2, 7, b_fits_table⟩ := by first | assumption | rfl) (n : Nat) {N : Nat} {T : Tab} (hT : Sq N T) {x : List Int} (hx : x.length + 1 = N) (h8 : x.length ≤ 8) (st : Sto) :
    callN F (n + 1) "fits_table" [.tup (T.map plcD), plcD x] st = some (.bl (fitB T x), st) := by
  rw [call_eq hU rfl]
  generalize hTD : D.tup (T.map plcD) = TD
  have enT : ∀ s : Sto, enSrc s TD = some (always, T.zipIdx.map fun p => .tup [.int (p.2 : Nat), plcD p.1]) := fun s => by rw [← hTD, ← en_zip plcD T 0]; rfl
  have e0 : startE 7 [TD, plcD x] = [some TD, some (plcD x), none, none, none, none, none] := rfl
  have a0 := fun s : Sto => add0 (st := s) (x := x) (by omega)
  have hy : (x ++ [0]).length = N := by rw [List.length_append]; exact hx
  generalize hyy : x ++ [0] = y at a0 hy
  have inner : ∀ (i : Nat) (r : List Int) (v5 v6 : Option D), i < N → r.length = N →
      (r.zipIdx.all (fun e => decide (pa y e.2 - pa y i ≤ e.1)) = true ∧ ∃ w5 w6, forL always (gT 2 (gsCons (gN 5) (gsCons (gN 6) gsNil))) (b_fits_table_f1 (callN F n)) (r.zipIdx.map fun p => .tup [.int (p.2 : Nat), .int p.1]) [some TD, some (plcD x), some (plcD y), some (.int (i : Nat)), some (plcD r), v5, v6] st = some (.nx [some TD, some (plcD x), some (plcD y), some (.int (i : Nat)), some (plcD r), w5, w6], st)) ∨
      (r.zipIdx.all (fun e => decide (pa y e.2 - pa y i ≤ e.1)) = false ∧ forL always (gT 2 (gsCons (gN 5) (gsCons (gN 6) gsNil))) (b_fits_table_f1 (callN F n)) (r.zipIdx.map fun p => .tup [.int (p.2 : Nat), .int p.1]) [some TD, some (plcD x), some (plcD y), some (.int (i : Nat)), some (plcD r), v5, v6] st = some (.rt (.bl false), st)) := by
    intro i r v5 v6 hi hr
    have := for_test (tg := gT 2 (gsCons (gN 5) (gsCons (gN 6) gsNil))) (body := b_fits_table_f1 (callN F n)) (st := st) (fun p : Int × Nat => D.tup [.int (p.2 : Nat), .int p.1]) (fun e => decide (pa y e.2 - pa y i ≤ e.1)) (fun env => ∃ w5 w6, env = [some TD, some (plcD x), some (plcD y), some (.int (i : Nat)), some (plcD r), w5, w6]) r.zipIdx [some TD, some (plcD x), some (plcD y), some (.int (i : Nat)), some (plcD r), v5, v6] ⟨_, _, rfl⟩ (by
      rintro p hp env ⟨w5, w6, rfl⟩
      refine ⟨[some TD, some (plcD x), some (plcD y), some (.int (i : Nat)), some (plcD r), some (.int (p.2 : Nat)), some (.int p.1)], rfl, ?_⟩
      obtain ⟨j, hj, rfl⟩ := List.mem_iff_getElem.mp hp
      rw [List.getElem_zipIdx]
      have hj' : j < r.length := by simpa using hj
      have g1 : atI (y.map D.int) (j : Nat) = some (.int (pa y j)) := row_at (by omega)
      have g2 : atI (y.map D.int) (i : Nat) = some (.int (pa y i)) := row_at (by omega)
      simp only [b_fits_table_f1, Nat.zero_add]
      constructor
      · intro h
        have h := of_decide_eq_true h
        have c : ¬ r[j] < pa y j - pa y i := by omega
        repeat (first | walk_at "ev" | simp only [g1, g2, c, decide_false])
        exact ⟨_, rfl, _, _, rfl⟩
      · intro h
        have h := of_decide_eq_false h
        have c : r[j] < pa y j - pa y i := by omega
        repeat (first | walk_at "ev" | simp only [g1, g2, c, decide_true]))
    rcases this with ⟨h1, env', h2, w5, w6, rfl⟩ | h
    · exact .inl ⟨h1, _, _, h2⟩
    · exact .inr h
  have outer := for_test (tg := gT 2 (gsCons (gN 3) (gsCons (gN 4) gsNil))) (body := b_fits_table_f2 (callN F n)) (st := st) (fun p : List Int × Nat => D.tup [.int (p.2 : Nat), plcD p.1]) (fun p => p.1.zipIdx.all fun e => decide (pa y e.2 - pa y p.2 ≤ e.1)) (fun env => ∃ v3 v4 w5 w6, env = [some TD, some (plcD x), some (plcD y), v3, v4, w5, w6]) T.zipIdx [some TD, some (plcD x), some (plcD y), none, none, none, none] ⟨_, _, _, _, rfl⟩ (by
      rintro p hp env ⟨v3, v4, w5, w6, rfl⟩
      refine ⟨[some TD, some (plcD x), some (plcD y), some (.int (p.2 : Nat)), some (plcD p.1), w5, w6], rfl, ?_⟩
      obtain ⟨i, hi, rfl⟩ := List.mem_iff_getElem.mp hp
      rw [List.getElem_zipIdx]
      have hi' : i < T.length := by simpa using hi
      have hr : T[i].length = N := by
        have := hT.row i (by rw [← hT.len]; exact hi')
        rw [List.getD_eq_getElem?_getD, List.getElem?_eq_getElem hi'] at this
        exact this
      have enR : ∀ s : Sto, enSrc s (plcD T[i]) = some (always, T[i].zipIdx.map fun p => .tup [.int (p.2 : Nat), .int p.1]) := fun s => by rw [← en_zip D.int T[i] 0]; rfl
      have enR2 := en_zip D.int T[i] 0
      simp only [b_fits_table_f2, Nat.zero_add]
      rcases inner i T[i] w5 w6 (by rw [← hT.len]; exact hi') hr with ⟨h1, y5, y6, h2⟩ | ⟨h1, h2⟩
      · refine ⟨fun _ => ?_, fun h => ?_⟩
        · repeat (first | walk_at "ev" | simp only [enR2, h2])
          exact ⟨_, rfl, _, _, _, _, rfl⟩
        · rw [h1] at h
          cases h
      · refine ⟨fun h => ?_, fun _ => ?_⟩
        · rw [h1] at h
          cases h
        · repeat (first | walk_at "ev" | simp only [enR2, h2]))
  have ef : fitB T x = T.zipIdx.all fun p => p.1.zipIdx.all fun e => decide (pa y e.2 - pa y p.2 ≤ e.1) := by
    unfold fitB
    rw [hyy]
  rw [ef]
  simp only [e0, b_fits_table]
  rcases outer with ⟨h1, env', h2, v3, v4, w5, w6, rfl⟩ | ⟨h1, h2⟩
  · rw [h1]
    repeat (first | walk_at "ev" | simp only [a0, enT, h2, e_kfnR])
  · rw [h1]
    repeat (first | walk_at "ev" | simp only [a0, enT, h2, e_kfnR])
theorem ne_nil {st : Sto} (xs : List Int) : oNe st (.lst (xs.map D.int)) (.lst []) = some (.bl (!decide (xs = []))) := by
  show (if okD (.lst (xs.map D.int)) && okD (.lst []) then some (D.bl (!eqD (.lst (xs.map D.int)) (.lst []))) else none) = _
  have o1 : okD (.lst (xs.map D.int)) = true := by
    unfold okD
    simp only [lay, lay_ints, dep, dep_ints, Bool.true_and]
    decide
  rw [o1, show okD (.lst []) = true from rfl]
  unfold eqD
  simp only [pyD, PyData.eqv]
  have := eqD_ints xs []
  simp only [List.map_nil] at this
  rw [this]
  rfl
theorem lfits_spec (hU : F "_law_fits" = some ⟨2, 7, b_l_fits⟩ := by first | assumption | rfl) (n : Nat) {N : Nat} {T : Tab} (hT : Sq N T) {x : List Int} (hx : x.length + 1 = N) (h8 : x.length ≤ 8) (st : Sto) :
    callN F (n + 1) "_law_fits" [.tup (T.map plcD), plcD x] st = some (.bl (fitB T x), st) := by
  rw [call_eq hU rfl]
  generalize hTD : D.tup (T.map plcD) = TD
  have tr : ∀ (s : Sto) (i : Nat), i < N → oIx s TD (.int (i : Nat)) = some (plcD (T.getD i [])) := fun s i hi => by
    rw [← hTD]
    show atI (T.map plcD) (i : Nat) = _
    rw [at_nat (by rw [List.length_map, hT.len]; exact hi), List.getElem_map, List.getD_eq_getElem?_getD, List.getElem?_eq_getElem (by rw [hT.len]; exact hi)]
    rfl
  have te : ∀ i j, i < N → j < N → atI ((T.getD i []).map D.int) (j : Nat) = some (.int (ta T i j)) := fun i j hi hj => row_at (by rw [hT.row i hi]; exact hj)
  have e0 : startE 7 [TD, plcD x] = [some TD, some (plcD x), none, none, none, none, none] := rfl
  have a0 := fun s : Sto => add0 (st := s) (x := x) (by omega)
  have hy : (x ++ [0]).length = N := by rw [List.length_append]; exact hx
  generalize hyy : x ++ [0] = y at a0 hy
  have en := en_zip D.int y 0
  have loop := for_test (tg := gT 2 (gsCons (gN 3) (gsCons (gN 4) gsNil))) (body := b_l_fits_f1 (callN F n)) (st := st) (fun p : Int × Nat => D.tup [.int (p.2 : Nat), .int p.1]) (fun p => decide ((y.zipIdx.filter fun q => decide (ta T p.2 q.2 < q.1 - p.1)) = [])) (fun env => ∃ v3 v4, env = [some TD, some (plcD x), some (plcD y), v3, v4, none, none]) y.zipIdx [some TD, some (plcD x), some (plcD y), none, none, none, none] ⟨_, _, rfl⟩ (by
    rintro p hp env ⟨v3, v4, rfl⟩
    refine ⟨[some TD, some (plcD x), some (plcD y), some (.int (p.2 : Nat)), some (.int p.1), none, none], rfl, ?_⟩
    obtain ⟨i, hi, rfl⟩ := List.mem_iff_getElem.mp hp
    rw [List.getElem_zipIdx]
    have hi' : i < N := by rw [← hy]; simpa using hi
    have t1 := fun s => tr s i hi'
    simp only [b_l_fits_f1, Nat.zero_add]
    have hh := ne_nil (st := st) (((y.zipIdx.filter fun q => decide (ta T i q.2 < q.1 - y[i])).map fun _ => 1))
    rw [List.map_map] at hh
    simp only [Function.comp_def] at hh
    have ee : decide (((y.zipIdx.filter fun q => decide (ta T i q.2 < q.1 - y[i])).map fun _ => (1 : Int)) = []) = decide ((y.zipIdx.filter fun q => decide (ta T i q.2 < q.1 - y[i])) = []) := by
      rw [Bool.eq_iff_iff, decide_eq_true_iff, decide_eq_true_iff, List.map_eq_nil_iff]
    rw [ee] at hh
    repeat (first | walk_at "ev" | simp only [en])
    rw [lc_filter (fun q : Int × Nat => D.tup [.int (q.2 : Nat), .int q.1]) (fun _ => D.int 1) (fun q => decide (ta T i q.2 < q.1 - y[i])) y.zipIdx ?h]
    case h =>
      intro q hq
      obtain ⟨j, hj, rfl⟩ := List.mem_iff_getElem.mp hq
      rw [List.getElem_zipIdx]
      have hj' : j < N := by rw [← hy]; simpa using hj
      refine ⟨[some TD, some (plcD x), some (plcD y), some (.int (i : Nat)), some (.int y[i]), some (.int ((0 + j : Nat) : Int)), some (.int y[j])], rfl, ?_, fun _ => rfl⟩
      have t2 := te i j hi' hj'
      simp only [Nat.zero_add]
      repeat (first | walk_at "ev" | simp only [t1, t2])
    cases hc : decide ((y.zipIdx.filter fun q => decide (ta T i q.2 < q.1 - y[i])) = []) with
    | true =>
      rw [hc] at hh
      refine ⟨fun _ => ?_, fun h => by cases h⟩
      repeat (first | walk_at "ev" | simp only [hh, Bool.not_true])
      exact ⟨_, rfl, _, _, rfl⟩
    | false =>
      rw [hc] at hh
      refine ⟨fun h => (by cases h), fun _ => ?_⟩
      repeat (first | walk_at "ev" | simp only [hh, Bool.not_false]))
  have ef : fitB T x = y.zipIdx.all fun p => decide ((y.zipIdx.filter fun q => decide (ta T p.2 q.2 < q.1 - p.1)) = []) := by
    unfold fitB
    rw [hyy, Bool.eq_iff_iff, zip_all, zip_all]
    have row : ∀ i (h : i < T.length), T[i] = T.getD i [] := fun i h => by rw [List.getD_eq_getElem?_getD, List.getElem?_eq_getElem h]; rfl
    constructor
    · intro h i hi
      rw [decide_eq_true_iff, List.filter_eq_nil_iff]
      intro q hq
      obtain ⟨j, hj, rfl⟩ := List.mem_iff_getElem.mp hq
      have hj' : j < y.length := by simpa using hj
      have hiT : i < T.length := by rw [hT.len]; omega
      have h1 := zip_all.mp (h i hiT) j (by rw [row i hiT, hT.row i (by omega)]; omega)
      have h1 := of_decide_eq_true h1
      simp only [row i hiT] at h1
      rw [List.getElem_zipIdx]
      simp only [Nat.zero_add, decide_eq_true_eq]
      have e1 : pa (T.getD i []) j = (T.getD i [])[j]'(by rw [hT.row i (by omega)]; omega) := pa_get _
      rw [pa_get hj', pa_get hi] at h1
      unfold ta
      rw [e1]
      omega
    · intro h i hi
      rw [hT.len] at hi
      have hiT : i < T.length := by rw [hT.len]; omega
      refine zip_all.mpr fun j hj => ?_
      have hj' : j < N := by rw [row i hiT, hT.row i hi] at hj; exact hj
      have h1 := h i (by omega)
      rw [decide_eq_true_iff, List.filter_eq_nil_iff] at h1
      have h2 := h1 (y[j], j) (by
        rw [List.mem_iff_getElem]
        exact ⟨j, by rw [List.length_zipIdx]; omega, by simp⟩)
      simp only [decide_eq_true_eq] at h2
      have e1 : pa (T.getD i []) j = (T.getD i [])[j]'(by rw [hT.row i (by omega)]; omega) := pa_get _
      unfold ta at h2
      rw [e1] at h2
      apply decide_eq_true
      simp only [row i hiT]
      rw [pa_get (by omega), pa_get (by omega)]
      omega
  rw [ef]
  simp only [e0, b_l_fits]
  rcases loop with ⟨h1, env', h2, v3, v4, rfl⟩ | ⟨h1, h2⟩
  · rw [h1]
    repeat (first | walk_at "ev" | simp only [a0, en, h2, e_kfnR])
  · rw [h1]
    repeat (first | walk_at "ev" | simp only [a0, en, h2, e_kfnR])
/-! ### positions with rings moved -/
theorem one_loc (hN : F "_law_next" = some ⟨2, 9, b_l_next⟩ := by first | assumption | rfl) (hF : F "_law_one" = some ⟨2, 2, b_l_one⟩ := by first | assumption | rfl) (n : Nat) {s : Dr} {b : Int} (hs : DOk s b) (hb : 1 ≤ b) (o : Sto) {m : Nat} {xs : List D} (hi : o[m]? = some xs) (h0 : 0 < xs.length) (h1 : xs.length ≤ 1000000) :
    ∃ x s', callN F (n + 2) "_law_one" [.loc 1, .loc (m + 2)] (mkSt s o) = some (x, mkSt s' o) ∧ x ∈ xs ∧ DOk s' (b - 1) := by
  have dr := draws_of hN n
  obtain ⟨i, s1, k1, i0, i1, d1⟩ := dr.nx s (b - 1) o (xs.length : Int) (hs.mono (by omega)) (by omega) (by omega) (by omega)
  obtain ⟨x, hx, ex⟩ := at_list (xs := xs) (n := (xs.length : Int)) i0 i1 rfl
  refine ⟨x, s1, ?_, hx, d1⟩
  rw [call_eq hF rfl]
  have e0 : startE 2 [.loc 1, .loc (m + 2)] = [some (.loc 1), some (.loc (m + 2))] := rfl
  have g1 : gLen (mkSt s o) [.loc (m + 2)] = some (.int (xs.length : Nat)) := by
    show ((mkSt s o)[m + 2]?).map _ = _
    show (o[m]?).map _ = _
    rw [hi]
    rfl
  have g2 : oIx (mkSt s1 o) (.loc (m + 2)) (.int i) = some x := by
    show ((mkSt s1 o)[m + 2]?).bind _ = _
    show (o[m]?).bind _ = _
    rw [hi]
    exact ex
  simp only [e0, b_l_one]
  repeat (first | walk_at "ev" | simp only [g1, k1, g2, e_kfnR])
theorem lc_drawF {α : Type} {tg : DG} {ifs : DB} {elt : DE} {env : En} (f : α → D) (c : Int) (hc : 0 ≤ c) (Q : α → D → Prop) (o : Sto) : ∀ (xs : List α) (s : Dr) (b : Int), DOk s b → c * xs.length ≤ b →
    (∀ x ∈ xs, ∀ (s : Dr) (b : Int), DOk s b → c ≤ b → ∃ e y s', tg (f x) env (mkSt s o) = some (e, mkSt s o) ∧ ifs e (mkSt s o) = some (true, mkSt s o) ∧ elt e (mkSt s o) = some (y, mkSt s' o) ∧ Q x y ∧ DOk s' (b - c)) →
    ∃ ys s', lcL always tg ifs elt env (xs.map f) (mkSt s o) = some (ys, mkSt s' o) ∧ Rel2 Q xs ys ∧ DOk s' (b - c * xs.length)
  | [], s, b, d, hb, _ => ⟨[], s, rfl, trivial, d.mono (by simp)⟩
  | x :: xs, s, b, d, hb, h => by
    have e1 : c * ((x :: xs).length : Int) = c * xs.length + c := by rw [List.length_cons, Int.natCast_add, Int.mul_add]; simp
    rw [e1] at hb
    have pos : 0 ≤ c * (xs.length : Int) := Int.mul_nonneg hc (by omega)
    obtain ⟨e, y, s1, h1, h2, h3, h4, d1⟩ := h x List.mem_cons_self s b d (by omega)
    obtain ⟨ys, s2, k, r, d2⟩ := lc_drawF f c hc Q o xs s1 (b - c) d1 (by omega) fun z hz => h z (List.mem_cons_of_mem _ hz)
    refine ⟨y :: ys, s2, ?_, ⟨h4, r⟩, d2.mono (by rw [e1]; omega)⟩
    rw [List.map_cons]
    unfold lcL
    simp only [show always (mkSt s o) = true from rfl, if_true, h1, Option.bind_some, h2, h3, k, Option.map_some]
theorem bent_spec (hN : F "_law_next" = some ⟨2, 9, b_l_next⟩ := by first | assumption | rfl) (hO : F "_law_one" = some ⟨2, 2, b_l_one⟩ := by first | assumption | rfl) (hB : F "_law_bent_positions" = some ⟨2, 5, b_l_bent_positions⟩ := by first | assumption | rfl)
    (n : Nat) {s : Dr} {b : Int} (hs : DOk s b) (hb : 3 ≤ b) (o : Sto) {x : List Int} {K : Int} (hK : ∀ z ∈ x, -K ≤ z ∧ z ≤ K) (x1 : 1 ≤ x.length) (x8 : x.length ≤ 8) :
    ∃ y s', callN F (n + 3) "_law_bent_positions" [.loc 1, plcD x] (mkSt s o) = some (plcD y, mkSt s' o) ∧ y.length = x.length ∧ (∀ z ∈ y, -(K + 1000000000) ≤ z ∧ z ≤ K + 1000000000) ∧ DOk s' (b - 3) := by
  have on := ones_of hN hO n
  have dr := draws_of hN (n + 1)
  obtain ⟨t, s1, k1, ht, d1⟩ := on.l hs o [.int 1, .int (-1), .int 2, .int (-3), .int 1000000, .int (-1000000000)] (by omega) (by decide) (by decide)
  obtain ⟨j, rfl, j0, j1⟩ : ∃ j : Int, t = .int j ∧ -1000000000 ≤ j ∧ j ≤ 1000000000 := by
    simp only [List.mem_cons, List.not_mem_nil, or_false] at ht
    rcases ht with rfl | rfl | rfl | rfl | rfl | rfl <;> exact ⟨_, rfl, by decide, by decide⟩
  obtain ⟨q, s2, k2, q0, q1, d2⟩ := dr.n d1 o 4 (by omega) (by omega) (by omega)
  have e0 : startE 5 [.loc 1, plcD x] = [some (.loc 1), some (plcD x), none, none, none] := rfl
  by_cases c : q = 0
  · refine ⟨x.map (· + j), s2, ?_, by simp, ?_, d2.mono (by omega)⟩
    · rw [call_eq hB rfl]
      simp only [e0, b_l_bent_positions]
      repeat (first | walk_at "ev" | simp only [p6, p9, k1, k2, c, decide_true])
      rw [lc_map D.int (fun z => D.int (z + j)) x ?h]
      case h =>
        intro z _
        refine ⟨_, rfl, rfl, ?_⟩
        repeat (first | walk_at "ev")
      repeat (first | walk_at "ev" | simp only [e_kfnR])
      simp only [plcD, List.map_map, Function.comp_def]
    · intro z hz
      obtain ⟨w, hw, rfl⟩ := List.mem_map.mp hz
      have := hK w hw
      omega
  · obtain ⟨i, s3, k3, i0, i1, d3⟩ := dr.n d2 o (x.length : Nat) (by omega) (by omega) (by omega)
    obtain ⟨I, rfl⟩ : ∃ I : Nat, i = I := ⟨i.toNat, by omega⟩
    have hI : I < x.length := by omega
    refine ⟨x.take I ++ [pa x I + j] ++ x.drop (I + 1), s3, ?_, by simp; omega, ?_, d3.mono (by omega)⟩
    · have g1 : atI (x.map D.int) (I : Nat) = some (.int (pa x I)) := row_at hI
      have t1 : sliceD (mkSt s3 o) none (some (I : Nat)) (.tup (x.map D.int)) = some (.tup ((x.take I).map D.int)) := by rw [sl_to (by omega), Int.toNat_natCast, List.map_take]
      have t2 : sliceD (mkSt s3 o) (some ((I : Nat) + 1)) none (.tup (x.map D.int)) = some (.tup ((x.drop (I + 1)).map D.int)) := by rw [sl_from (by omega), show ((I : Nat) + 1 : Int).toNat = I + 1 by omega, List.map_drop]
      have a1 : oAdd (mkSt s3 o) (.tup ((x.take I).map D.int)) (.tup [.int (pa x I + j)]) = some (.tup ((x.take I ++ [pa x I + j]).map D.int)) := by
        show (if fits (((x.take I).map D.int).length + 1) then _ else _) = _
        rw [fits_small (by rw [List.length_map, List.length_take]; omega), if_pos rfl, List.map_append]
        rfl
      have a2 : oAdd (mkSt s3 o) (.tup ((x.take I ++ [pa x I + j]).map D.int)) (.tup ((x.drop (I + 1)).map D.int)) = some (.tup ((x.take I ++ [pa x I + j] ++ x.drop (I + 1)).map D.int)) := by
        show (if fits (((x.take I ++ [pa x I + j]).map D.int).length + ((x.drop (I + 1)).map D.int).length) then _ else _) = _
        rw [fits_small (by simp; omega), if_pos rfl, List.map_append (l₁ := x.take I ++ [pa x I + j])]
      rw [call_eq hB rfl]
      simp only [e0, b_l_bent_positions]
      repeat (first | walk_at "ev" | simp only [p6, p9, k1, k2, c, decide_false, List.length_map, k3, g1, t1, t2, a1, a2, e_kfnR])
    · intro z hz
      rcases List.mem_append.mp hz with h | h
      · rcases List.mem_append.mp h with h | h
        · have := hK z (List.mem_of_mem_take h); omega
        · rw [List.mem_singleton.mp h, pa_get hI]
          have := hK x[I] (List.getElem_mem hI)
          omega
      · have := hK z (List.mem_of_mem_drop h); omega
end
end Tg
/-! All placements of a rig on a short rail. -/

namespace Tg
open PySem PySem.Spec PyProof.Rows L2
-- lib _law_all 506891 b_l_all 1 8
noncomputable def b_l_all_f1 (C : Orc) : DS := (sSeq (sExpr (eExtend (eVar 5) (eLc [7] (iRng (aCons (eVar 2) (aCons (eOp oAdd (eVar 3) (eC (.int 1))) aNil))) (gN 7) bYes (eOp oAdd (eVar 6) (eTup (aCons (eVar 7) aNil))))))
    sNil)
noncomputable def b_l_all_f2 (C : Orc) : DS := (sSeq (sAsg (eMLst aNil) (gN 5))
    (sSeq (sFor (iSeq (eVar 1)) (gN 6) (b_l_all_f1 C))
    (sSeq (sAsg (eVar 5) (gN 1))
    sNil)))
noncomputable def b_l_all (C : Orc) : DS := (sSeq (sAsg (eLst (aCons (eTup aNil) aNil)) (gN 1))
    (sSeq (sFor (iSeq (eOp oIx (eVar 0) (eC (.int 0)))) (gT 3 (gsCons (gN 2) (gsCons (gN 3) (gsCons (gN 4) gsNil)))) (b_l_all_f2 C))
    (sSeq (sRet (eLc [6] (iSeq (eVar 1)) (gN 6) (bVal (eCall C "_law_is_placement" (aCons (eVar 0) (aCons (eVar 6) aNil)))) (eVar 6)))
    sNil)))
-- lib _law_short 1748fd b_l_short 2 4
noncomputable def b_l_short (C : Orc) : DS := (sSeq (sAsg (eCall C "_law_rig" (aCons (eVar 0) (aCons (eVar 1) (aCons (eC (.int 2)) aNil)))) (gT 2 (gsCons (gN 2) (gsCons (gN 3) gsNil))))
    (sSeq (sRet (eLst (aCons (eVar 2) (aCons (eVar 3) aNil))))
    sNil))
section
variable {F : String → Option Tg.Fn}
theorem e_krng2 {i j : Int} {s : Sto} (h : j - i ≤ 1000000) (h1 : -4000000000000000000 ≤ i) (h2 : i ≤ 4000000000000000000) (h3 : -4000000000000000000 ≤ j) (h4 : j ≤ 4000000000000000000) : kRng ([.int i, .int j], s) = some ((always, rangeD i (j - i).toNat), s) := by
  show (if decide (j - i ≤ 1000000) && decide (i.natAbs ≤ 4000000000000000000) && decide (j.natAbs ≤ 4000000000000000000) then _ else _) = _
  rw [decide_eq_true h, decide_eq_true (by omega), decide_eq_true (by omega)]
  rfl
def rngI (lo hi : Int) : List Int := (List.range (hi + 1 - lo).toNat).map fun k : Nat => lo + k
theorem rngI_mem {lo hi z : Int} : z ∈ rngI lo hi ↔ lo ≤ z ∧ z ≤ hi := by
  unfold rngI
  rw [List.mem_map]
  constructor
  · rintro ⟨k, hk, rfl⟩
    have := List.mem_range.mp hk
    omega
  · rintro ⟨a, b⟩
    exact ⟨(z - lo).toNat, List.mem_range.mpr (by omega), by omega⟩
theorem rngI_D {lo hi : Int} : rangeD lo (hi + 1 - lo).toNat = (rngI lo hi).map D.int := by
  unfold rngI rangeD
  rw [List.map_map]
  rfl
def stepL (xs : List (List Int)) (r : Ring) : List (List Int) := xs.flatMap fun x => (rngI r.lo r.hi).map fun p => x ++ [p]
def prodL (rs : List Ring) : List (List Int) := rs.foldl stepL [[]]
theorem prodL_snoc (rs : List Ring) (r : Ring) : prodL (rs ++ [r]) = stepL (prodL rs) r := by
  unfold prodL
  rw [List.foldl_append]
  rfl
theorem stepL_mem {xs : List (List Int)} {r : Ring} {y : List Int} : y ∈ stepL xs r ↔ ∃ x ∈ xs, ∃ p, r.lo ≤ p ∧ p ≤ r.hi ∧ y = x ++ [p] := by
  unfold stepL
  rw [List.mem_flatMap]
  constructor
  · rintro ⟨x, hx, h⟩
    obtain ⟨p, hp, rfl⟩ := List.mem_map.mp h
    have := rngI_mem.mp hp
    exact ⟨x, hx, p, this.1, this.2, rfl⟩
  · rintro ⟨x, hx, p, h1, h2, rfl⟩
    exact ⟨x, hx, List.mem_map.mpr ⟨p, rngI_mem.mpr ⟨h1, h2⟩, rfl⟩⟩
/-- what can be walked, also when the store grows -/
def Src (s : Sto) (d : D) (xs : List D) : Prop := ∃ chk, ∀ e : Sto, srcOf (s ++ e) d = some (chk, xs) ∧ chk (s ++ e) = true
theorem src_lst {s : Sto} {xs : List D} : Src s (.lst xs) xs := ⟨always, fun _ => ⟨rfl, rfl⟩⟩
theorem src_loc {s : Sto} {c : Nat} {xs : List D} (h : s[c]? = some xs) : Src s (.loc c) xs := ⟨unchanged c xs, fun e => ⟨by
  show ((s ++ e)[c]?).map _ = _
  rw [get_app h]
  rfl, unchanged_iff.mpr (get_app h)⟩⟩
theorem ext_last {fo fa : DE} {env : En} {s : Sto} {a b : List D} (h1 : fo env (s ++ [a]) = some (.loc s.length, s ++ [a])) (h2 : fa env (s ++ [a]) = some (.lst b, s ++ [a])) (hf : a.length + b.length ≤ 1000000) : eExtend fo fa env (s ++ [a]) = some (.non, s ++ [a ++ b]) := by
  unfold eExtend
  rw [h1]
  simp only [Option.bind_some]
  rw [h2]
  show ((s ++ [a])[s.length]?).bind _ = _
  rw [List.getElem?_append_right (Nat.le_refl _), Nat.sub_self]
  show (if fits (a.length + b.length) then some (D.non, (s ++ [a]).set s.length (a ++ b)) else none) = _
  unfold fits
  rw [decide_eq_true hf, if_pos rfl, List.set_append_right _ _ (Nat.le_refl _), Nat.sub_self]
  rfl
theorem addp {st : Sto} {x : List Int} {p : Int} (h : x.length ≤ 100) : oAdd st (plcD x) (.tup [.int p]) = some (plcD (x ++ [p])) := by
  show (if fits ((x.map D.int).length + 1) then _ else _) = _
  rw [fits_small (by rw [List.length_map]; omega), if_pos rfl]
  simp only [plcD, List.map_append]
  rfl
theorem all_in (n : Nat) {R : D} {r : Ring} {s : Sto} (v1 : D) (rl : r.lo ≤ r.hi) (hr : r.hi - r.lo ≤ 1000) (r0 : -1000000000000 ≤ r.lo) (r1 : r.hi ≤ 1000000000000) (xs : List (List Int)) (hx : ∀ x ∈ xs, x.length ≤ 100) {chk : Sto → Bool} (hc : ∀ e : Sto, chk (s ++ e) = true) (hlen : (stepL xs r).length ≤ 1000000) (v6 : Option D) :
    ∃ w6, forL chk (gN 6) (b_l_all_f1 (callN F n)) (xs.map plcD) [some R, some v1, some (.int r.lo), some (.int r.hi), some (.int r.ld), some (.loc s.length), v6, none] (s ++ [[]]) = some (.nx [some R, some v1, some (.int r.lo), some (.int r.hi), some (.int r.ld), some (.loc s.length), w6, none], s ++ [(stepL xs r).map plcD]) := by
  obtain ⟨env', st', k, w6, ds, he, rfl, rfl⟩ := for_relC (chk := chk) (tg := gN 6) (body := b_l_all_f1 (callN F n)) plcD
    (fun ys env t => ∃ (w6 : Option D) (ds : List (List Int)), ds ++ ys = xs ∧ env = [some R, some v1, some (.int r.lo), some (.int r.hi), some (.int r.ld), some (.loc s.length), w6, none] ∧ t = s ++ [(stepL ds r).map plcD])
    (by rintro ys env t ⟨w6, ds, he, rfl, rfl⟩; exact hc _)
    (by
      rintro x ys env t ⟨w6, ds, he, rfl, rfl⟩
      refine ⟨[some R, some v1, some (.int r.lo), some (.int r.hi), some (.int r.ld), some (.loc s.length), some (plcD x), none], s ++ [(stepL ds r).map plcD], rfl, ?_⟩
      have hxl := hx x (by rw [← he]; simp)
      have rg := e_krng2 (s := s ++ [(stepL ds r).map plcD]) (i := r.lo) (j := r.hi + 1) (by omega) (by omega) (by omega) (by omega) (by omega)
      have lc : eLc [7] (iRng (aCons (eVar 2) (aCons (eOp oAdd (eVar 3) (eC (.int 1))) aNil))) (gN 7) bYes (eOp oAdd (eVar 6) (eTup (aCons (eVar 7) aNil))) [some R, some v1, some (.int r.lo), some (.int r.hi), some (.int r.ld), some (.loc s.length), some (plcD x), none] (s ++ [(stepL ds r).map plcD]) = some (.lst (((rngI r.lo r.hi).map fun p => x ++ [p]).map plcD), s ++ [(stepL ds r).map plcD]) := by
        repeat (first | walk_at "ev" | simp only [rg, rngI_D])
        rw [lc_map D.int (fun p => plcD (x ++ [p])) (rngI r.lo r.hi) ?h]
        case h =>
          intro p _
          refine ⟨_, rfl, rfl, ?_⟩
          have a := fun t : Sto => addp (st := t) (x := x) (p := p) hxl
          repeat (first | walk_at "ev" | simp only [a])
        repeat (first | walk_at "ev")
        rw [List.map_map]
        rfl
      have es : stepL (ds ++ [x]) r = stepL ds r ++ (rngI r.lo r.hi).map fun p => x ++ [p] := by
        unfold stepL
        rw [List.flatMap_append]
        simp
      have ex := ext_last (fo := eVar 5) (env := [some R, some v1, some (.int r.lo), some (.int r.hi), some (.int r.ld), some (.loc s.length), some (plcD x), none]) rfl lc (by
        rw [← List.length_append, ← List.map_append, ← es, List.length_map]
        refine Nat.le_trans ?_ hlen
        rw [← he]
        unfold stepL
        rw [show ds ++ x :: ys = (ds ++ [x]) ++ ys by simp, List.flatMap_append (xs := ds ++ [x]), List.length_append]
        omega)
      rw [← List.map_append, ← es] at ex
      simp only [b_l_all_f1]
      repeat (first | walk_at "ev" | simp only [ex])
      exact ⟨_, _, rfl, _, ds ++ [x], by rw [List.append_assoc]; exact he, rfl, rfl⟩)
    xs [some R, some v1, some (.int r.lo), some (.int r.hi), some (.int r.ld), some (.loc s.length), v6, none] (s ++ [[]]) ⟨v6, [], rfl, rfl, rfl⟩
  rw [List.append_nil] at he
  subst he
  exact ⟨w6, k⟩
theorem lc_filterC {α : Type} {chk : Sto → Bool} {tg : DG} {ifs : DB} {elt : DE} {env : En} {s : Sto} (f g : α → D) (p : α → Bool) (hc : chk s = true) : ∀ (xs : List α), (∀ x ∈ xs, ∃ e, tg (f x) env s = some (e, s) ∧ ifs e s = some (p x, s) ∧ (p x = true → elt e s = some (g x, s))) → lcL chk tg ifs elt env (xs.map f) s = some ((xs.filter p).map g, s)
  | [], _ => by simp [lcL, hc]
  | x :: xs, h => by
    obtain ⟨e, h1, h2, h3⟩ := h x List.mem_cons_self
    have ih := lc_filterC f g p hc xs fun y hy => h y (List.mem_cons_of_mem _ hy)
    rw [List.map_cons]
    unfold lcL
    cases hp : p x with
    | true =>
      rw [hp] at h2
      simp only [hc, if_true, h1, Option.bind_some, h2, h3 hp, ih, Option.map_some, List.filter_cons, hp, List.map_cons]
    | false =>
      rw [hp] at h2
      simp only [hc, if_true, h1, Option.bind_some, h2, ih, List.filter_cons, hp, Bool.false_eq_true, if_false]
def allL (rs : List Ring) (bs : List Bar) : List (List Int) := (prodL rs).filter (plcB rs bs)
theorem all_spec (h1 : F "_law_integer" = some ⟨3, 3, b_l_integer⟩ := by first | assumption | rfl) (h2 : F "_law_sized" = some ⟨3, 3, b_l_sized⟩ := by first | assumption | rfl) (h3 : F "_law_stretches" = some ⟨2, 3, b_l_stretches⟩ := by first | assumption | rfl)
    (h4 : F "_law_is_placement" = some ⟨2, 6, b_l_is_placement⟩ := by first | assumption | rfl) (h5 : F "_law_all" = some ⟨1, 8, b_l_all⟩ := by first | assumption | rfl) (n : Nat) {rs : List Ring} {cs : D} {bs : List Bar} (hb : ∀ c ∈ bs, BIx rs.length c) (r8 : rs.length ≤ 8)
    (hr : ∀ r ∈ rs, r.lo ≤ r.hi ∧ r.hi - r.lo ≤ 1000 ∧ -1000000000000 ≤ r.lo ∧ r.hi ≤ 1000000000000) (hp : ∀ ds es, ds ++ es = rs → (prodL ds).length ≤ 1000000) (st : Sto) :
    ∃ g, callN F (n + 3) "_law_all" [.tup [.tup (rs.map ringD), cs, .tup (bs.map barD)]] st = some (.lst ((allL rs bs).map plcD), st ++ g) := by
  generalize hR : D.tup [.tup (rs.map ringD), cs, .tup (bs.map barD)] = R
  have u0 : ∀ s : Sto, oIx s R (.int 0) = some (.tup (rs.map ringD)) := fun s => by rw [← hR]; rfl
  have ip : ∀ (x : List Int) (s : Sto), callN F (n + 2) "_law_is_placement" [R, plcD x] s = some (.bl (plcB rs bs x), s) := fun x s => by rw [← hR]; exact lis_placement_spec h1 h2 h3 h4 n hb s
  obtain ⟨env', st', k, ds, d1, v2, v3, v4, v5, v6, g, he, rfl, rfl, hs, hl⟩ := for_rel (tg := gT 3 (gsCons (gN 2) (gsCons (gN 3) (gsCons (gN 4) gsNil)))) (body := b_l_all_f2 (callN F (n + 2))) ringD
    (fun ys env t => ∃ (ds : List Ring) (d1 : D) (v2 v3 v4 v5 v6 : Option D) (g : Sto), ds ++ ys = rs ∧ env = [some R, some d1, v2, v3, v4, v5, v6, none] ∧ t = st ++ g ∧ Src t d1 ((prodL ds).map plcD) ∧ ∀ x ∈ prodL ds, x.length = ds.length)
    (by
      rintro r ys env t ⟨ds, d1, v2, v3, v4, v5, v6, g, he, rfl, rfl, ⟨chk, hs⟩, hl⟩
      refine ⟨[some R, some d1, some (.int r.lo), some (.int r.hi), some (.int r.ld), v5, v6, none], st ++ g, rfl, ?_⟩
      obtain ⟨q0, q1, q2, q3⟩ := hr r (by rw [← he]; simp)
      have hd : ds.length ≤ 8 := by rw [← he, List.length_append] at r8; omega
      have hlen := hp (ds ++ [r]) ys (by rw [List.append_assoc]; exact he)
      rw [prodL_snoc] at hlen
      obtain ⟨w6, k⟩ := all_in (F := F) (n + 2) (R := R) (r := r) (s := st ++ g) d1 q0 q1 q2 q3 (prodL ds) (fun x hx => by rw [hl x hx]; omega) (fun e => (hs e).2) hlen v6
      have sr := (hs [[]]).1
      simp only [b_l_all_f2]
      repeat (first | walk_at "ev" | simp only [sr, k])
      refine ⟨_, _, rfl, ds ++ [r], _, _, _, _, _, _, g ++ [(stepL (prodL ds) r).map plcD], by rw [List.append_assoc]; exact he, rfl, by rw [List.append_assoc], ?_, fun x hx => ?_⟩
      · rw [prodL_snoc]
        refine src_loc ?_
        rw [List.getElem?_append_right (Nat.le_refl _), Nat.sub_self]
        rfl
      · rw [prodL_snoc] at hx
        obtain ⟨y, hy, p, _, _, rfl⟩ := stepL_mem.mp hx
        rw [List.length_append, List.length_append, hl y hy]
        rfl)
    rs [some R, some (.lst [.tup []]), none, none, none, none, none, none] st ⟨[], _, none, none, none, none, none, [], rfl, rfl, by rw [List.append_nil], src_lst, fun x hx => by
      have : x ∈ [([] : List Int)] := hx
      rw [List.mem_singleton.mp this]
      rfl⟩
  rw [List.append_nil] at he
  subst he
  obtain ⟨chk, hs⟩ := hs
  have sr := hs []
  rw [List.append_nil] at sr
  have e0 : startE 8 [R] = [some R, none, none, none, none, none, none, none] := rfl
  refine ⟨g, ?_⟩
  rw [call_eq h5 rfl]
  simp only [e0, b_l_all]
  repeat (first | walk_at "ev" | simp only [u0, k])
  repeat (first | walk_at "ev" | simp only [sr.1])
  rw [lc_filterC plcD plcD (plcB ds bs) sr.2 (prodL ds) fun x _ => ⟨_, rfl, by
    repeat (first | walk_at "ev" | simp only [ip]), fun _ => rfl⟩]
  repeat (first | walk_at "ev" | simp only [e_kfnR])
  rfl
theorem pa_append_left {x : List Int} {p : Int} {i : Nat} (h : i < x.length) : pa (x ++ [p]) i = pa x i := by
  rw [pa_get (by rw [List.length_append]; omega), pa_get h, List.getElem_append_left h]
/-- every tuple within the limits -/
theorem prodL_mem : ∀ (n : Nat) (rs : List Ring), rs.length = n → ∀ y : List Int, y ∈ prodL rs ↔ y.length = rs.length ∧ ∀ i (h : i < rs.length), rs[i].lo ≤ pa y i ∧ pa y i ≤ rs[i].hi
  | 0, rs, hn, y => by
    have : rs = [] := List.length_eq_zero_iff.mp hn
    subst this
    show y ∈ [([] : List Int)] ↔ _
    rw [List.mem_singleton]
    constructor
    · rintro rfl
      exact ⟨rfl, fun i h => by simp at h⟩
    · rintro ⟨h, _⟩
      exact List.length_eq_zero_iff.mp h
  | n + 1, rs, hn, y => by
    obtain ⟨ds, r, rfl⟩ : ∃ ds r, rs = ds ++ [r] := ⟨rs.dropLast, rs.getLast (by intro e; rw [e] at hn; simp at hn), (List.dropLast_concat_getLast _).symm⟩
    have hd : ds.length = n := by rw [List.length_append] at hn; simpa using hn
    rw [prodL_snoc, stepL_mem]
    constructor
    · rintro ⟨x, hx, p, p0, p1, rfl⟩
      obtain ⟨xl, hb⟩ := (prodL_mem n ds hd x).mp hx
      refine ⟨by simp [xl], fun i h => ?_⟩
      by_cases e : i < ds.length
      · rw [pa_append_left (by omega), List.getElem_append_left e]
        exact hb i e
      · have e : i = ds.length := by rw [List.length_append] at h; simp at h; omega
        subst e
        rw [pa_get (by rw [List.length_append]; simp; omega), List.getElem_append_right (by omega), List.getElem_append_right (by omega)]
        simpa [xl] using ⟨p0, p1⟩
    · rintro ⟨hl, hb⟩
      have yl : y.length = ds.length + 1 := by rw [hl, List.length_append]; rfl
      obtain ⟨x, p, rfl⟩ : ∃ x p, y = x ++ [p] := ⟨y.dropLast, y.getLast (by intro e; rw [e] at yl; simp at yl), (List.dropLast_concat_getLast _).symm⟩
      have xl : x.length = ds.length := by rw [List.length_append] at yl; simpa using yl
      refine ⟨x, (prodL_mem n ds hd x).mpr ⟨xl, fun i h => ?_⟩, p, ?_⟩
      · have := hb i (by rw [List.length_append]; omega)
        rw [pa_append_left (by omega), List.getElem_append_left h] at this
        exact this
      · have := hb ds.length (by rw [List.length_append]; simp)
        rw [pa_get (by rw [List.length_append]; simp; omega), List.getElem_append_right (by omega), List.getElem_append_right (by omega)] at this
        simp [xl] at this
        exact ⟨this.1, this.2, rfl⟩
theorem allL_mem {rs : List Ring} {bs : List Bar} {y : List Int} : y ∈ allL rs bs ↔ Plc rs bs y := by
  unfold allL
  rw [List.mem_filter, plcB_iff, prodL_mem rs.length rs rfl]
  constructor
  · exact fun h => h.2
  · intro h
    refine ⟨⟨h.len, fun i hi => ?_⟩, h⟩
    have h1 := h.lo i hi
    have h2 := h.hi i hi
    unfold losL at h1
    unfold hisL at h2
    rw [pa_map hi] at h1 h2
    exact ⟨h1, h2⟩
end
end Tg
/-! Groups of rings: moves by one unit, forces, the strongest slide, equilibria; the law's groups. -/
namespace Tg
open PySem PySem.Spec PyProof.Rows L2
-- lib unit_of fbcd3a b_unit_of 1 1
noncomputable def b_unit_of (C : Orc) : DS := (sSeq (sRet (eIf (bVal (eOp oEq (eVar 0) (eC (.str (Str.ofString "right"))))) (eC (.int 1)) (eUn oNeg (eC (.int 1)))))
    sNil)
-- lib stretch_change 99e9ef b_stretch_change 3 3
noncomputable def b_stretch_change (C : Orc) : DS := (sSeq (sRet (eOp oMul (eVar 2) (eOp oSub (eBlt gInt (aCons (eOp (oInS false) (eOp oIx (eVar 0) (eC (.int 1))) (eVar 1)) aNil)) (eBlt gInt (aCons (eOp (oInS false) (eOp oIx (eVar 0) (eC (.int 0))) (eVar 1)) aNil)))))
    sNil)
-- lib can_move 18daaa b_can_move 4 9
noncomputable def b_can_move (C : Orc) : DS := (sSeq (sAsg (eVar 0) (gT 3 (gsCons (gN 4) (gsCons (gN 5) (gsCons (gN 6) gsNil)))))
    (sSeq (sIf (bNot (bVal (eBlt gAll (aCons (eLc [7] (iSeq (eVar 2)) (gN 7) bYes (eChain oLe oLe (eOp oIx (eOp oIx (eVar 4) (eVar 7)) (eC (.int 0))) (eOp oAdd (eOp oIx (eVar 1) (eVar 7)) (eVar 3)) (eOp oIx (eOp oIx (eVar 4) (eVar 7)) (eC (.int 1))))) aNil)))) (sSeq (sRet (eC (.bl false)))
    sNil) sNil)
    (sSeq (sRet (eNot (eBlt gAny (aCons (eLc [8] (iSeq (eVar 6)) (gN 8) bYes (eAnd (eOp oEq (eCall C "stretch_of" (aCons (eVar 8) (aCons (eVar 1) aNil))) (eOp oIx (eVar 8) (eC (.int 2)))) (eOp oEq (eCall C "stretch_change" (aCons (eVar 8) (aCons (eVar 2) (aCons (eVar 3) aNil)))) (eC (.int 1))))) aNil))))
    sNil)))
-- lib cord_force d0866f b_cord_force 3 4
noncomputable def b_cord_force (C : Orc) : DS := (sSeq (sAsg (eOp oSub (eCall C "stretch_of" (aCons (eVar 0) (aCons (eVar 1) aNil))) (eOp oIx (eVar 0) (eC (.int 2)))) (gN 3))
    (sSeq (sIf (bAnd (bVal (eOp oEq (eVar 2) (eC (.int 1)))) (bVal (eOp oGe (eVar 3) (eC (.int 0))))) (sSeq (sRet (eOp oSub (eC (.int 0)) (eOp oIx (eVar 0) (eC (.int 3)))))
    sNil) sNil)
    (sSeq (sRet (eIf (bAnd (bVal (eOp oEq (eVar 2) (eUn oNeg (eC (.int 1))))) (bVal (eOp oGt (eVar 3) (eC (.int 0))))) (eOp oIx (eVar 0) (eC (.int 3))) (eC (.int 0))))
    sNil)))
-- lib group_force c710b6 b_group_force 4 8
noncomputable def b_group_force (C : Orc) : DS := (sSeq (sAsg (eCall C "unit_of" (aCons (eVar 3) aNil)) (gN 4))
    (sSeq (sIf (bNot (bVal (eCall C "can_move" (aCons (eVar 0) (aCons (eVar 1) (aCons (eVar 2) (aCons (eVar 4) aNil))))))) (sSeq (sRet (eC .non))
    sNil) sNil)
    (sSeq (sAsg (eLc [6] (iSeq (eOp oIx (eVar 0) (eC (.int 1)))) (gN 6) bYes (eCall C "cord_force" (aCons (eVar 6) (aCons (eVar 1) (aCons (eCall C "stretch_change" (aCons (eVar 6) (aCons (eVar 2) (aCons (eVar 4) aNil)))) aNil))))) (gN 5))
    (sSeq (sRet (eOp oAdd (eBlt gSum (aCons (eVar 5) aNil)) (eOp oMul (eVar 4) (eBlt gSum (aCons (eLc [7] (iSeq (eVar 2)) (gN 7) bYes (eOp oIx (eOp oIx (eOp oIx (eVar 0) (eC (.int 0))) (eVar 7)) (eC (.int 2)))) aNil)))))
    sNil))))
-- lib all_groups 58e2b3 b_all_groups 1 4
noncomputable def b_all_groups_f1 (C : Orc) : DS := (sSeq (sAsg (eOp oAdd (eVar 1) (eLc [3] (iSeq (eVar 1)) (gN 3) bYes (eOp oAdd (eVar 3) (eTup (aCons (eVar 2) aNil))))) (gN 1))
    sNil)
noncomputable def b_all_groups (C : Orc) : DS := (sSeq (sAsg (eLst (aCons (eTup aNil) aNil)) (gN 1))
    (sSeq (sFor (iRng (aCons (eVar 0) aNil)) (gN 2) (b_all_groups_f1 C))
    (sSeq (sRet (eSl (eBlt gSortLen (aCons (eVar 1) aNil)) (oSo (eC (.int 1))) oNo))
    sNil)))
-- lib strongest_slide 8ce667 b_strongest_slide 3 6
noncomputable def b_strongest_slide_f1 (C : Orc) : DS := (sSeq (sAsg (eCall C "group_force" (aCons (eVar 0) (aCons (eVar 1) (aCons (eVar 4) (aCons (eVar 2) aNil))))) (gN 5))
    (sSeq (sIf (bAnd (bVal (eOp oIsNot (eVar 5) (eC .non))) (bVal (eOp oGt (eVar 5) (eOp oIx (eVar 3) (eC (.int 0)))))) (sSeq (sAsg (eTup (aCons (eVar 5) (aCons (eVar 4) aNil))) (gN 3))
    sNil) sNil)
    sNil))
noncomputable def b_strongest_slide (C : Orc) : DS := (sSeq (sAsg (eTup (aCons (eC (.int 0)) (aCons (eTup aNil) aNil))) (gN 3))
    (sSeq (sFor (iSeq (eCall C "all_groups" (aCons (eBlt gLen (aCons (eVar 1) aNil)) aNil))) (gN 4) (b_strongest_slide_f1 C))
    (sSeq (sRet (eVar 3))
    sNil)))
-- lib _law_groups b79427 b_l_groups 1 4
noncomputable def b_l_groups_f1 (C : Orc) : DS := (sSeq (sAsg (eOp oAdd (eVar 1) (eLc [3] (iSeq (eVar 1)) (gN 3) bYes (eOp oAdd (eVar 3) (eTup (aCons (eVar 2) aNil))))) (gN 1))
    sNil)
noncomputable def b_l_groups (C : Orc) : DS := (sSeq (sAsg (eLst (aCons (eTup aNil) aNil)) (gN 1))
    (sSeq (sFor (iRng (aCons (eVar 0) aNil)) (gN 2) (b_l_groups_f1 C))
    (sSeq (sRet (eSl (eBlt gSorted (aCons (eVar 1) aNil)) (oSo (eC (.int 1))) oNo))
    sNil)))
-- lib _law_moved 06fdc4 b_l_moved 3 5
noncomputable def b_l_moved (C : Orc) : DS := (sSeq (sRet (eBlt gTuple (aCons (eLc [3, 4] (iEn (eVar 0)) (gT 2 (gsCons (gN 3) (gsCons (gN 4) gsNil))) bYes (eOp oAdd (eVar 4) (eOp oMul (eVar 2) (eBlt gInt (aCons (eOp (oInS false) (eVar 3) (eVar 1)) aNil))))) aNil)))
    sNil)
-- lib _law_wander 87345d b_l_wander 3 8
noncomputable def b_l_wander_f1 (C : Orc) : DS := (sSeq (sAsg (eCall C "_law_one" (aCons (eVar 0) (aCons (eVar 3) aNil))) (gN 5))
    (sSeq (sAsg (eOp oAdd (eC (.int 1)) (eCall C "_law_next" (aCons (eVar 0) (aCons (eOp oPow (eC (.int 10)) (eC (.int 6))) aNil)))) (gN 6))
    (sSeq (sAsg (eCall C "_law_moved" (aCons (eVar 2) (aCons (eVar 5) (aCons (eCall C "_law_one" (aCons (eVar 0) (aCons (eLst (aCons (eC (.int 1)) (aCons (eUn oNeg (eC (.int 1))) (aCons (eC (.int 1)) (aCons (eUn oNeg (eC (.int 1))) (aCons (eC (.int 2)) (aCons (eUn oNeg (eC (.int 3))) (aCons (eVar 6) (aCons (eOp oSub (eC (.int 0)) (eVar 6)) aNil))))))))) aNil))) aNil)))) (gN 7))
    (sSeq (sIf (bVal (eCall C "_law_is_placement" (aCons (eVar 1) (aCons (eVar 7) aNil)))) (sSeq (sAsg (eVar 7) (gN 2))
    sNil) sNil)
    sNil))))
noncomputable def b_l_wander (C : Orc) : DS := (sSeq (sAsg (eCall C "_law_groups" (aCons (eBlt gLen (aCons (eVar 2) aNil)) aNil)) (gN 3))
    (sSeq (sFor (iRng (aCons (eCall C "_law_next" (aCons (eVar 0) (aCons (eC (.int 7)) aNil))) aNil)) (gN 4) (b_l_wander_f1 C))
    (sSeq (sRet (eVar 2))
    sNil)))
-- lib _law_force 6c4edc b_l_force 4 5
noncomputable def b_l_force (C : Orc) : DS := (sSeq (sAsg (eCall C "_law_moved" (aCons (eVar 1) (aCons (eVar 2) (aCons (eVar 3) aNil)))) (gN 4))
    (sSeq (sIf (bNot (bVal (eCall C "_law_is_placement" (aCons (eVar 0) (aCons (eVar 4) aNil))))) (sSeq (sRet (eC .non))
    sNil) sNil)
    (sSeq (sRet (eOp oSub (eCall C "_law_energy" (aCons (eVar 0) (aCons (eVar 1) aNil))) (eCall C "_law_energy" (aCons (eVar 0) (aCons (eVar 4) aNil)))))
    sNil)))
-- lib _law_unit b6d9f8 b_l_unit 1 1
noncomputable def b_l_unit (C : Orc) : DS := (sSeq (sRet (eOp oIx (eLst (aCons (eUn oNeg (eC (.int 1))) (aCons (eC (.int 1)) aNil))) (eBlt gInt (aCons (eOp oEq (eVar 0) (eC (.str (Str.ofString "right")))) aNil))))
    sNil)
-- lib is_equilibrium e5198a b_is_equilibrium 2 3
noncomputable def b_is_equilibrium (C : Orc) : DS := (sSeq (sRet (eBlt gAll (aCons (eLc [2] (iSeq (eTup (aCons (eC (.str (Str.ofString "left"))) (aCons (eC (.str (Str.ofString "right"))) aNil)))) (gN 2) bYes (eOp oEq (eCall C "strongest_slide" (aCons (eVar 0) (aCons (eVar 1) (aCons (eVar 2) aNil)))) (eTup (aCons (eC (.int 0)) (aCons (eTup aNil) aNil))))) aNil)))
    sNil)

def unitI (rt : Bool) : Int := if rt then 1 else -1
def memI (k : Int) (g : List Int) : Int := if k ∈ g then 1 else 0
/-- how a stretch changes -/
def chgP (g : List Int) (u a b : Int) : Int := u * (memI b g - memI a g)
def ringAt (rs : List Ring) (k : Int) : Ring := rs.getD k.toNat ⟨0, 0, 0⟩
def okR (rs : List Ring) (x : List Int) (u k : Int) : Bool := decide ((ringAt rs k).lo ≤ pa x k.toNat + u) && decide (pa x k.toNat + u ≤ (ringAt rs k).hi)
def tautB (x g : List Int) (u : Int) (c : Bar) : Bool := decide (gap x c.a c.b = c.len) && decide (chgP g u c.a c.b = 1)
def canB (rs : List Ring) (bs : List Bar) (x g : List Int) (u : Int) : Bool := (g.map (okR rs x u)).all id && !(bs.map (tautB x g u)).any id
def pullC (x g : List Int) (u : Int) (c : Cord) : Int := if chgP g u c.a c.b = 1 ∧ 0 ≤ gap x c.a c.b - c.len then 0 - c.w else if chgP g u c.a c.b = -1 ∧ 0 < gap x c.a c.b - c.len then c.w else 0
def frcL (rs : List Ring) (cs : List Cord) (x g : List Int) (u : Int) : Int := (cs.map (pullC x g u)).sum + u * (g.map fun k => (ringAt rs k).ld).sum
def frcO (rs : List Ring) (cs : List Cord) (bs : List Bar) (x g : List Int) (rt : Bool) : Option Int := if canB rs bs x g (unitI rt) then some (frcL rs cs x g (unitI rt)) else none
def oiD : Option Int → D
  | none => .non
  | some i => .int i
theorem memI_01 (k : Int) (g : List Int) : memI k g = 0 ∨ memI k g = 1 := by unfold memI; split <;> omega
theorem ringG {rs : List Ring} {k : Int} (h0 : 0 ≤ k) (h1 : k < rs.length) : atI (rs.map ringD) k = some (ringD (ringAt rs k)) := by
  unfold atI ixN
  rw [if_pos h0, if_pos (by rw [List.length_map]; exact h1)]
  show (rs.map ringD)[k.toNat]? = _
  unfold ringAt
  rw [List.getElem?_map, List.getElem?_eq_getElem (by omega), List.getD_eq_getElem?_getD, List.getElem?_eq_getElem (by omega)]
  rfl
theorem plG {x : List Int} {k : Int} (h0 : 0 ≤ k) (h1 : k < x.length) : atI (x.map D.int) k = some (.int (pa x k.toNat)) := by
  unfold atI ixN
  rw [if_pos h0, if_pos (by rw [List.length_map]; exact h1)]
  show (x.map D.int)[k.toNat]? = _
  rw [List.getElem?_map, List.getElem?_eq_getElem (by omega), pa_get (by omega)]
  rfl
section
variable {F : String → Option Fn}
theorem unit_spec (h1 : F "unit_of" = some ⟨1, 1, b_unit_of⟩ := by first | assumption | rfl) (n : Nat) (rt : Bool) (st : Sto) : callN F (n + 1) "unit_of" [sideD rt] st = some (.int (unitI rt), st) := by
  rw [call_eq h1 rfl]
  have e0 : startE 1 [sideD rt] = [some (.str (sideS rt))] := rfl
  simp only [e0, b_unit_of]
  repeat (first | walk_at "ev" | simp only [side_eq])
  cases rt <;> repeat (first | walk_at "ev" | simp only [unitI, if_true, Bool.false_eq_true, if_false, e_kfnR])
theorem change_spec (h1 : F "stretch_change" = some ⟨3, 3, b_stretch_change⟩ := by first | assumption | rfl) (n : Nat) (a b : Int) (r : List D) (g : List Int) {u : Int} (u0 : -1 ≤ u) (u1 : u ≤ 1) (st : Sto) :
    callN F (n + 1) "stretch_change" [.tup (.int a :: .int b :: r), plcD g, .int u] st = some (.int (chgP g u a b), st) := by
  rw [call_eq h1 rfl]
  have e0 : startE 3 [.tup (.int a :: .int b :: r), plcD g, .int u] = [some (.tup (.int a :: .int b :: r)), some (plcD g), some (.int u)] := rfl
  have i0 : oIx st (.tup (.int a :: .int b :: r)) (.int 0) = some (.int a) := by
    show atI (.int a :: .int b :: r) 0 = _
    unfold atI ixN
    rw [if_pos (by decide), if_pos (by rw [List.length_cons, List.length_cons]; omega)]
    rfl
  have i1 : oIx st (.tup (.int a :: .int b :: r)) (.int 1) = some (.int b) := by
    show atI (.int a :: .int b :: r) 1 = _
    unfold atI ixN
    rw [if_pos (by decide), if_pos (by rw [List.length_cons, List.length_cons]; omega)]
    rfl
  have gi : ∀ p : Bool, gInt st [.bl p] = some (.int (if p then 1 else 0)) := fun _ => rfl
  have m := fun z : Int => o_mul (s := st) (mulOk_l (a := u) (b := z) (by omega) (by omega))
  have mb : (if decide (b ∈ g) = true then (1 : Int) else 0) = memI b g := by unfold memI; by_cases h : b ∈ g <;> simp [h]
  have ma : (if decide (a ∈ g) = true then (1 : Int) else 0) = memI a g := by unfold memI; by_cases h : a ∈ g <;> simp [h]
  simp only [e0, b_stretch_change]
  repeat (first | walk_at "ev" | simp only [i0, i1, in_ints, gi, m, mb, ma, e_kfnR])
  rfl
theorem can_spec (h1 : F "stretch_of" = some ⟨2, 2, b_stretch_of⟩ := by first | assumption | rfl) (h2 : F "stretch_change" = some ⟨3, 3, b_stretch_change⟩ := by first | assumption | rfl) (h3 : F "can_move" = some ⟨4, 9, b_can_move⟩ := by first | assumption | rfl) (n : Nat) {rs : List Ring} {cs : D} {bs : List Bar} {x g : List Int} {u : Int} (u0 : -1 ≤ u) (u1 : u ≤ 1)
    (xl : x.length = rs.length) (hb : ∀ c ∈ bs, BIx rs.length c) (hg : ∀ k ∈ g, 0 ≤ k ∧ k < rs.length) (st : Sto) :
    callN F (n + 2) "can_move" [.tup [.tup (rs.map ringD), cs, .tup (bs.map barD)], plcD x, plcD g, .int u] st = some (.bl (canB rs bs x g u), st) := by
  rw [call_eq h3 rfl]
  generalize hR : D.tup [.tup (rs.map ringD), cs, .tup (bs.map barD)] = R
  have gt : ∀ (env : En) (s : Sto), gT 3 (gsCons (gN 4) (gsCons (gN 5) (gsCons (gN 6) gsNil))) R env s = some (((env.set 4 (some (.tup (rs.map ringD)))).set 5 (some cs)).set 6 (some (.tup (bs.map barD))), s) := fun env s => by rw [← hR]; rfl
  have e0 : startE 9 [R, plcD x, plcD g, .int u] = [some R, some (plcD x), some (plcD g), some (.int u), none, none, none, none, none] := rfl
  simp only [e0, b_can_move]
  repeat (first | walk_at "ev" | simp only [gt])
  rw [lc_map D.int (fun k => .bl (okR rs x u k)) g ?h]
  case h =>
    intro k hk
    refine ⟨_, rfl, rfl, ?_⟩
    obtain ⟨k0, k1⟩ := hg k hk
    have r1 := ringG k0 k1
    have p1 := plG (x := x) k0 (by rw [xl]; exact k1)
    have q0 : oIx st (ringD (ringAt rs k)) (.int 0) = some (.int (ringAt rs k).lo) := rfl
    have q1 : oIx st (ringD (ringAt rs k)) (.int 1) = some (.int (ringAt rs k).hi) := rfl
    by_cases hlo : (ringAt rs k).lo ≤ pa x k.toNat + u
    · repeat (first | walk_at "ev" | simp only [r1, p1, q0, q1, decide_eq_true hlo])
      unfold okR
      rw [decide_eq_true hlo, Bool.true_and]
    · repeat (first | walk_at "ev" | simp only [r1, p1, q0, q1, decide_eq_false hlo])
      unfold okR
      rw [decide_eq_false hlo, Bool.false_and]
  have em : (g.map fun k => D.bl (okR rs x u k)) = (g.map (okR rs x u)).map D.bl := by rw [List.map_map]; rfl
  simp only [em]
  repeat (first | walk_at "ev")
  unfold canB
  cases hA : (g.map (okR rs x u)).all id with
  | false => repeat (first | walk_at "ev" | simp only [Bool.not_false, Bool.false_and, e_kfnR])
  | true =>
    repeat (first | walk_at "ev" | simp only [Bool.not_true])
    rw [lc_map barD (fun c => .bl (tautB x g u c)) bs ?h]
    case h =>
      intro c hc
      refine ⟨_, rfl, rfl, ?_⟩
      have k1 := stretch_bar_spec h1 n (y := x) (by rw [xl]; exact hb c hc) st
      have k2 := change_spec h2 n c.a c.b [.int c.len] g u0 u1 st
      have k2 : callN F (n + 1) "stretch_change" [barD c, plcD g, .int u] st = _ := k2
      have uc : oIx st (barD c) (.int 2) = some (.int c.len) := rfl
      by_cases hs : gap x c.a c.b = c.len
      · repeat (first | walk_at "ev" | simp only [k1, k2, uc, decide_eq_true hs])
        unfold tautB
        rw [decide_eq_true hs, Bool.true_and]
      · repeat (first | walk_at "ev" | simp only [k1, k2, uc, decide_eq_false hs])
        unfold tautB
        rw [decide_eq_false hs, Bool.false_and]
    have em : (bs.map fun c => D.bl (tautB x g u c)) = (bs.map (tautB x g u)).map D.bl := by rw [List.map_map]; rfl
    simp only [em]
    repeat (first | walk_at "ev" | simp only [e_kfnR, Bool.true_and])
end
end Tg
/-! Forces of groups, all groups, the strongest slide, equilibria; the law's own. -/
namespace Tg
open PySem PySem.Spec PyProof.Rows L2
/-! ### the energy before and after -/
theorem stepC_one (rt : Bool) : stepC rt 1 = unitI rt := by cases rt <;> rfl
theorem unit_pm (rt : Bool) : unitI rt = 1 ∨ unitI rt = -1 := by cases rt <;> simp [unitI]
theorem pa_mv1 {g : List Int} {rt : Bool} {x : List Int} {i : Nat} (h : i < x.length) : pa (mv g rt 1 x) i = pa x i + unitI rt * memI i g := by
  rw [pa_mv h, stepC_one]
  unfold memI
  split <;> omega
theorem gap_mv1 {g : List Int} {rt : Bool} {x : List Int} {a b : Int} (ha : a.toNat < x.length) (hb : b.toNat < x.length) (a0 : 0 ≤ a) (b0 : 0 ≤ b) : gap (mv g rt 1 x) a b = gap x a b + chgP g (unitI rt) a b := by
  rw [gap_pa, gap_pa, pa_mv1 ha, pa_mv1 hb, Int.toNat_of_nonneg a0, Int.toNat_of_nonneg b0]
  unfold chgP
  rw [Int.mul_sub]
  omega
theorem chg_cases (g : List Int) (rt : Bool) (a b : Int) : chgP g (unitI rt) a b = 0 ∨ chgP g (unitI rt) a b = 1 ∨ chgP g (unitI rt) a b = -1 := by
  unfold chgP
  rcases memI_01 a g with h1 | h1 <;> rcases memI_01 b g with h2 | h2 <;> rcases unit_pm rt with h3 | h3 <;> rw [h1, h2, h3] <;> simp
theorem lo_at {rs : List Ring} {i : Nat} (h : i < rs.length) : pa (losL rs) i = (ringAt rs i).lo ∧ pa (hisL rs) i = (ringAt rs i).hi := by
  unfold losL hisL ringAt
  rw [pa_map h, pa_map h, Int.toNat_natCast, List.getD_eq_getElem?_getD, List.getElem?_eq_getElem h]
  exact ⟨rfl, rfl⟩
/-- a group of rings that a rig has -/
def InR (n : Nat) (g : List Int) : Prop := ∀ k ∈ g, 0 ≤ k ∧ k < n
theorem can_iff {rs : List Ring} {bs : List Bar} {x g : List Int} {rt : Bool} (hp : Plc rs bs x) (hb : ∀ c ∈ bs, BIx rs.length c) (hg : InR rs.length g) : canB rs bs x g (unitI rt) = true ↔ Plc rs bs (mv g rt 1 x) := by
  have xl := hp.len
  unfold canB
  rw [Bool.and_eq_true, Bool.not_eq_true', List.all_map, List.any_map, List.all_eq_true, List.any_eq_false]
  constructor
  · rintro ⟨h1, h2⟩
    refine ⟨by rw [mv_len, xl], fun i hi => ?_, fun i hi => ?_, fun c hc => ?_⟩
    · rw [pa_mv1 (by omega), (lo_at hi).1]
      have := hp.lo i hi
      rw [(lo_at hi).1] at this
      unfold memI
      split
      · next hm =>
        have := h1 _ hm
        simp only [Function.comp_def, id_eq, okR, Bool.and_eq_true, decide_eq_true_eq, Int.toNat_natCast] at this
        omega
      · omega
    · rw [pa_mv1 (by omega), (lo_at hi).2]
      have := hp.hi i hi
      rw [(lo_at hi).2] at this
      unfold memI
      split
      · next hm =>
        have := h1 _ hm
        simp only [Function.comp_def, id_eq, okR, Bool.and_eq_true, decide_eq_true_eq, Int.toNat_natCast] at this
        omega
      · omega
    · obtain ⟨a0, a1, b0, b1⟩ := hb c hc
      show gap (mv g rt 1 x) c.a c.b ≤ c.len
      rw [gap_mv1 (by omega) (by omega) a0 b0]
      have : gap x c.a c.b ≤ c.len := hp.bar c hc
      have h3 := h2 c hc
      simp only [Function.comp_def, id_eq, tautB, Bool.not_eq_true, Bool.and_eq_false_iff, decide_eq_false_iff_not] at h3
      rcases chg_cases g rt c.a c.b with h | h | h <;> omega
  · intro q
    refine ⟨fun k hk => ?_, fun c hc => ?_⟩
    · obtain ⟨k0, k1⟩ := hg k hk
      have e1 := q.lo k.toNat (by omega)
      have e2 := q.hi k.toNat (by omega)
      rw [pa_mv1 (by omega), (lo_at (by omega)).1, Int.toNat_of_nonneg k0] at e1
      rw [pa_mv1 (by omega), (lo_at (by omega)).2, Int.toNat_of_nonneg k0] at e2
      have : memI k g = 1 := if_pos hk
      simp only [Function.comp_def, id_eq, okR, Bool.and_eq_true, decide_eq_true_eq]
      rw [this] at e1 e2
      omega
    · obtain ⟨a0, a1, b0, b1⟩ := hb c hc
      have e1 : gap (mv g rt 1 x) c.a c.b ≤ c.len := q.bar c hc
      rw [gap_mv1 (by omega) (by omega) a0 b0] at e1
      simp only [Function.comp_def, id_eq, tautB, Bool.not_eq_true, Bool.and_eq_false_iff, decide_eq_false_iff_not]
      by_cases h : gap x c.a c.b = c.len
      · exact .inr (by omega)
      · exact .inl h
theorem sum_vec_add (f g : Nat → Int) : ∀ n, (vec n fun i => f i + g i).sum = (vec n f).sum + (vec n g).sum
  | 0 => rfl
  | n + 1 => by
    unfold vec
    rw [List.range_succ, List.map_append, List.map_append, List.map_append, List.sum_append, List.sum_append, List.sum_append]
    have := sum_vec_add f g n
    unfold vec at this
    rw [this]
    simp only [List.map_cons, List.map_nil, List.sum_cons, List.sum_nil]
    omega
theorem sum_vec_mul (c : Int) (f : Nat → Int) : ∀ n, (vec n fun i => c * f i).sum = c * (vec n f).sum
  | 0 => by simp [vec]
  | n + 1 => by
    unfold vec
    rw [List.range_succ, List.map_append, List.map_append, List.sum_append, List.sum_append]
    have := sum_vec_mul c f n
    unfold vec at this
    rw [this]
    simp only [List.map_cons, List.map_nil, List.sum_cons, List.sum_nil]
    rw [Int.mul_add, Int.add_zero, Int.add_zero]
theorem vec_congr {n : Nat} {f g : Nat → Int} (h : ∀ i, i < n → f i = g i) : vec n f = vec n g := by
  unfold vec
  exact List.map_congr_left fun i hi => h i (List.mem_range.mp hi)
theorem sum_vec_one (f : Nat → Int) (k : Nat) : ∀ n, (vec n fun i => if i = k then f i else 0).sum = if k < n then f k else 0
  | 0 => by simp [vec]
  | n + 1 => by
    unfold vec
    rw [List.range_succ, List.map_append, List.sum_append]
    have := sum_vec_one f k n
    unfold vec at this
    rw [this]
    simp only [List.map_cons, List.map_nil, List.sum_cons, List.sum_nil]
    by_cases h : n = k
    · subst h
      rw [if_neg (by omega), if_pos rfl, if_pos (by omega)]
      omega
    · rw [if_neg h]
      by_cases h2 : k < n
      · rw [if_pos h2, if_pos (by omega)]
        omega
      · rw [if_neg h2, if_neg (by omega)]
        omega
theorem sum_mem (f : Nat → Int) (n : Nat) : ∀ g : List Int, InR n g → g.Pairwise (· < ·) → (vec n fun i => f i * memI i g).sum = (g.map fun k => f k.toNat).sum
  | [], _, _ => by
    have : vec n (fun i => f i * memI i []) = vec n fun i => 0 * f i := vec_congr fun i _ => by simp [memI]
    rw [this, sum_vec_mul]
    simp
  | k :: g, hg, hp => by
    obtain ⟨h1, h2⟩ := List.pairwise_cons.mp hp
    obtain ⟨k0, k1⟩ := hg k List.mem_cons_self
    have ih := sum_mem f n g (fun j hj => hg j (List.mem_cons_of_mem _ hj)) h2
    have e : (vec n fun i => f i * memI i (k :: g)) = vec n fun i => (if i = k.toNat then f i else 0) + f i * memI i g := vec_congr fun i _ => by
      by_cases h : i = k.toNat
      · have hk : (i : Int) = k := by omega
        have hn : (i : Int) ∉ g := fun z => by have := h1 _ z; omega
        have m1 : memI i (k :: g) = 1 := if_pos (by rw [hk]; exact List.mem_cons_self)
        have m2 : memI i g = 0 := if_neg hn
        rw [m1, m2, if_pos h]
        omega
      · have hk : (i : Int) ≠ k := by omega
        have m1 : memI i (k :: g) = memI i g := by
          unfold memI
          by_cases hm : (i : Int) ∈ g
          · rw [if_pos hm, if_pos (List.mem_cons_of_mem _ hm)]
          · rw [if_neg hm, if_neg (fun z => (List.mem_cons.mp z).elim hk hm)]
        rw [m1, if_neg h]
        omega
    rw [e, sum_vec_add, sum_vec_one, if_pos (by omega), ih, List.map_cons, List.sum_cons]
theorem load_vec {rs : List Ring} {y : List Int} (hl : y.length = rs.length) : ((rs.zip y).map loadE).sum = (vec rs.length fun i => (ringAt rs i).ld * pa y i).sum := by
  congr 1
  apply List.ext_getElem
  · simp [vec_len, hl]
  · intro i h1 h2
    have hi : i < rs.length := by simpa [vec_len] using h2
    simp only [vec, List.getElem_map, List.getElem_zip, List.getElem_range]
    rw [pa_get (by omega)]
    unfold loadE ringAt
    rw [Int.toNat_natCast, List.getD_eq_getElem?_getD, List.getElem?_eq_getElem hi]
    rfl
theorem sum_map_sub {α : Type} (f g : α → Int) : ∀ xs : List α, (xs.map f).sum - (xs.map g).sum = (xs.map fun x => f x - g x).sum
  | [] => rfl
  | x :: xs => by
    have := sum_map_sub f g xs
    simp only [List.map_cons, List.sum_cons]
    omega
theorem frc_en {rs : List Ring} {cs : List Cord} {x g : List Int} {rt : Bool} (xl : x.length = rs.length) (hc : ∀ c ∈ cs, CIx x.length c) (hg : InR rs.length g) (hs : g.Pairwise (· < ·)) : frcL rs cs x g (unitI rt) = enL rs cs x - enL rs cs (mv g rt 1 x) := by
  unfold frcL enL
  rw [load_vec xl, load_vec (by rw [mv_len, xl])]
  have e1 : (vec rs.length fun i => (ringAt rs i).ld * pa (mv g rt 1 x) i) = vec rs.length fun i => (ringAt rs i).ld * pa x i + unitI rt * ((ringAt rs i).ld * memI i g) := vec_congr fun i hi => by
    rw [pa_mv1 (by omega), Int.mul_add]
    congr 1
    rw [← Int.mul_assoc, ← Int.mul_assoc, Int.mul_comm (unitI rt)]
  rw [e1, sum_vec_add, sum_vec_mul, sum_mem _ _ g hg hs]
  have e2 : (cs.map (pullC x g (unitI rt))).sum = (cs.map (drawnE x)).sum - (cs.map (drawnE (mv g rt 1 x))).sum := by
    rw [sum_map_sub]
    congr 1
    refine List.map_congr_left fun c h => ?_
    obtain ⟨a0, a1, b0, b1⟩ := hc c h
    unfold pullC drawnE
    rw [gap_mv1 (by omega) (by omega) a0 b0]
    rcases chg_cases g rt c.a c.b with q | q | q
    · rw [q, Int.add_zero, Int.sub_self, if_neg (by omega), if_neg (by omega)]
    · rw [q]
      by_cases hd : 0 ≤ gap x c.a c.b - c.len
      · rw [if_pos ⟨rfl, hd⟩, Int.max_eq_right hd, Int.max_eq_right (by omega), show gap x c.a c.b + 1 - c.len = gap x c.a c.b - c.len + 1 by omega, Int.mul_add]
        omega
      · rw [if_neg (by omega), if_neg (by omega), Int.max_eq_left (by omega), Int.max_eq_left (by omega)]
        omega
    · rw [q]
      by_cases hd : 0 < gap x c.a c.b - c.len
      · rw [if_neg (by omega), if_pos ⟨rfl, hd⟩, Int.max_eq_right (by omega), Int.max_eq_right (by omega), show gap x c.a c.b + -1 - c.len = gap x c.a c.b - c.len - 1 by omega, Int.mul_sub c.w (gap x c.a c.b - c.len) 1]
        omega
      · rw [if_neg (by omega), if_neg (by omega), Int.max_eq_left (by omega), Int.max_eq_left (by omega)]
        omega
  have e3 : (g.map fun k => (ringAt rs k).ld) = g.map fun k => (ringAt rs (k.toNat : Int)).ld := List.map_congr_left fun k hk => by
    rw [Int.toNat_of_nonneg (hg k hk).1]
  rw [e2, e3]
  omega
theorem frcO_eq {rs : List Ring} {cs : List Cord} {bs : List Bar} {x g : List Int} {rt : Bool} (v : VRig rs cs bs) (hp : Plc rs bs x) (hg : InR rs.length g) (hs : g.Pairwise (· < ·)) :
    frcO rs cs bs x g rt = if plcB rs bs (mv g rt 1 x) then some (enL rs cs x - enL rs cs (mv g rt 1 x)) else none := by
  unfold frcO
  have e : canB rs bs x g (unitI rt) = plcB rs bs (mv g rt 1 x) := by
    rw [Bool.eq_iff_iff, can_iff hp v.ix hg, plcB_iff]
  rw [e, frc_en hp.len (fun c hc => by rw [hp.len]; exact (v.cord c hc).1) hg hs]
/-! ### all groups -/
def grpsN : Nat → List (List Int)
  | 0 => [[]]
  | n + 1 => grpsN n ++ (grpsN n).map (· ++ [(n : Int)])
def grpT : Nat → List (List Int)
  | 0 => []
  | n + 1 => grpT n ++ (grpsN n).map (· ++ [(n : Int)])
theorem grps_cons : ∀ n, grpsN n = [] :: grpT n
  | 0 => rfl
  | n + 1 => by
    show grpsN n ++ _ = [] :: (grpT n ++ (grpsN n).map (· ++ [(n : Int)]))
    conv => lhs; arg 1; rw [grps_cons n]
    rfl
theorem grps_len : ∀ n, (grpsN n).length = 2 ^ n
  | 0 => rfl
  | n + 1 => by
    show (grpsN n ++ _).length = _
    rw [List.length_append, List.length_map, grps_len n, Nat.pow_succ]
    omega
theorem grps_mem : ∀ (n : Nat) (g : List Int), g ∈ grpsN n ↔ InR n g ∧ g.Pairwise (· < ·)
  | 0, g => by
    constructor
    · intro h
      have : g = [] := by simpa [grpsN] using h
      subst this
      exact ⟨fun k hk => by simp at hk, List.Pairwise.nil⟩
    · rintro ⟨h, _⟩
      cases g with
      | nil => simp [grpsN]
      | cons k g => have := h k List.mem_cons_self; omega
  | n + 1, g => by
    show g ∈ grpsN n ++ _ ↔ _
    rw [List.mem_append, grps_mem n g, List.mem_map]
    constructor
    · rintro (⟨h1, h2⟩ | ⟨h, hh, rfl⟩)
      · exact ⟨fun k hk => by have := h1 k hk; omega, h2⟩
      · obtain ⟨h1, h2⟩ := (grps_mem n h).mp hh
        refine ⟨fun k hk => ?_, List.pairwise_append.mpr ⟨h2, List.pairwise_singleton _ _, fun a ha b hb => ?_⟩⟩
        · rcases List.mem_append.mp hk with z | z
          · have := h1 k z; omega
          · rw [List.mem_singleton.mp z]; omega
        · rw [List.mem_singleton.mp hb]
          have := h1 a ha; omega
    · rintro ⟨h1, h2⟩
      by_cases e : g = []
      · subst e
        exact .inl ⟨fun k hk => by simp at hk, h2⟩
      · obtain ⟨i, l, rfl⟩ : ∃ i l, g = i ++ [l] := ⟨g.dropLast, g.getLast e, (List.dropLast_concat_getLast e).symm⟩
        obtain ⟨p1, _, p3⟩ := List.pairwise_append.mp h2
        have hl := h1 l (by simp)
        by_cases q : l = n
        · subst q
          exact .inr ⟨i, (grps_mem n i).mpr ⟨fun k hk => by
            have := p3 k hk n (by simp)
            have := h1 k (by simp [hk])
            omega, p1⟩, rfl⟩
        · refine .inl ⟨fun k hk => ?_, h2⟩
          rcases List.mem_append.mp hk with z | z
          · have := p3 k z l (by simp)
            have := h1 k (by simp [z])
            omega
          · rw [List.mem_singleton.mp z]; omega
theorem grps_sz : ∀ (n : Nat) (g : List Int), g ∈ grpsN n → g.length ≤ n
  | 0, g, h => by
    have : g = [] := by simpa [grpsN] using h
    subst this
    simp
  | n + 1, g, h => by
    rcases List.mem_append.mp h with z | z
    · have := grps_sz n g z
      omega
    · obtain ⟨i, hi, rfl⟩ := List.mem_map.mp z
      have := grps_sz n i hi
      rw [List.length_append]
      simp
      omega
theorem grpT_ne : ∀ (n : Nat) (g : List Int), g ∈ grpT n → g ≠ []
  | 0, g, h => by simp [grpT] at h
  | n + 1, g, h => by
    rcases List.mem_append.mp h with z | z
    · exact grpT_ne n g z
    · obtain ⟨i, _, rfl⟩ := List.mem_map.mp z
      simp
theorem grpT_mem {n : Nat} {g : List Int} : g ∈ grpT n ↔ Grp n g := by
  have h := grps_mem n g
  rw [grps_cons, List.mem_cons] at h
  constructor
  · intro z
    obtain ⟨h1, h2⟩ := h.mp (.inr z)
    exact ⟨grpT_ne n g z, h1, h2⟩
  · rintro ⟨h1, h2, h3⟩
    exact (h.mpr ⟨h2, h3⟩).resolve_left h1
theorem isort_front {α : Type} {lt : α → α → Bool} {x : α} {t : List α} (h : ∀ y ∈ t, lt y x = false) : isort lt (x :: t) = x :: isort lt t := by
  show insB lt x (isort lt t) = _
  have h2 : ∀ y ∈ isort lt t, lt y x = false := fun y hy => h y ((isort_perm t).mem_iff.mp hy)
  cases e : isort lt t with
  | nil => rfl
  | cons y ys =>
    unfold insB
    rw [if_neg (by rw [h2 y (by rw [e]; exact List.mem_cons_self)]; decide)]
/-- all groups, smaller ones first -/
def grpsL (n : Nat) : List (List Int) := isort (fun a b : List Int => decide (a.length < b.length)) (grpT n)
/-- all groups, ascending -/
def grpsX (n : Nat) : List (List Int) := isort HT.lexLt (grpT n)
theorem grpsL_mem {n : Nat} {g : List Int} : g ∈ grpsL n ↔ Grp n g := by
  unfold grpsL
  rw [(isort_perm _).mem_iff, grpT_mem]
theorem grpsX_mem {n : Nat} {g : List Int} : g ∈ grpsX n ↔ Grp n g := by
  unfold grpsX
  rw [(isort_perm _).mem_iff, grpT_mem]
theorem lex_nil (y : List Int) : HT.lexLt y [] = false := by
  cases y with
  | nil => exact HT.lexLt_nil_nil
  | cons a y => exact HT.lexLt_cons_nil a y

section
variable {F : String → Option Fn}
theorem cforce_spec (h1 : F "stretch_of" = some ⟨2, 2, b_stretch_of⟩ := by first | assumption | rfl) (h2 : F "cord_force" = some ⟨3, 4, b_cord_force⟩ := by first | assumption | rfl) (n : Nat) {c : Cord} {x g : List Int} {u : Int} (hc : CIx x.length c) (st : Sto) :
    callN F (n + 2) "cord_force" [cordD c, plcD x, .int (chgP g u c.a c.b)] st = some (.int (pullC x g u c), st) := by
  rw [call_eq h2 rfl]
  have k := stretch_cord_spec h1 n hc st
  have uc : ∀ i, oIx st (cordD c) (.int i) = atI [.int c.a, .int c.b, .int c.len, .int c.w] i := fun i => rfl
  generalize hC : cordD c = C0 at *
  unfold pullC
  generalize chgP g u c.a c.b = ch
  have e0 : startE 4 [C0, plcD x, .int ch] = [some C0, some (plcD x), some (.int ch), none] := rfl
  simp only [e0, b_cord_force]
  repeat (first | walk_at "ev" | simp only [k, uc])
  by_cases h1 : ch = 1
  · by_cases h2 : 0 ≤ gap x c.a c.b - c.len
    · rw [if_pos ⟨h1, h2⟩]
      repeat (first | walk_at "ev" | simp only [uc, decide_eq_true h1, decide_eq_true h2, e_kfnR])
    · rw [if_neg (fun z => h2 z.2), if_neg (by omega)]
      have h3 : ¬ ch = -1 := by omega
      repeat (first | walk_at "ev" | simp only [uc, decide_eq_true h1, decide_eq_false h2, decide_eq_false h3, e_kfnR])
  · rw [if_neg (fun z => h1 z.1)]
    by_cases h3 : ch = -1
    · by_cases h4 : 0 < gap x c.a c.b - c.len
      · rw [if_pos ⟨h3, h4⟩]
        repeat (first | walk_at "ev" | simp only [uc, decide_eq_false h1, decide_eq_true h3, decide_eq_true h4, e_kfnR])
      · rw [if_neg (fun z => h4 z.2)]
        repeat (first | walk_at "ev" | simp only [uc, decide_eq_false h1, decide_eq_true h3, decide_eq_false h4, e_kfnR])
    · rw [if_neg (fun z => h3 z.1)]
      repeat (first | walk_at "ev" | simp only [uc, decide_eq_false h1, decide_eq_false h3, e_kfnR])
theorem force_spec (h1 : F "stretch_of" = some ⟨2, 2, b_stretch_of⟩ := by first | assumption | rfl) (h2 : F "stretch_change" = some ⟨3, 3, b_stretch_change⟩ := by first | assumption | rfl) (h3 : F "can_move" = some ⟨4, 9, b_can_move⟩ := by first | assumption | rfl) (h4 : F "unit_of" = some ⟨1, 1, b_unit_of⟩ := by first | assumption | rfl)
    (h5 : F "cord_force" = some ⟨3, 4, b_cord_force⟩ := by first | assumption | rfl) (h6 : F "group_force" = some ⟨4, 8, b_group_force⟩ := by first | assumption | rfl) (n : Nat) {rs : List Ring} {cs : List Cord} {bs : List Bar} {x g : List Int} (rt : Bool)
    (v : VRig rs cs bs) (xl : x.length = rs.length) (hg : InR rs.length g) (st : Sto) :
    callN F (n + 3) "group_force" [rigD rs cs bs, plcD x, plcD g, sideD rt] st = some (oiD (frcO rs cs bs x g rt), st) := by
  rw [call_eq h6 rfl]
  have k1 := unit_spec h4 (n + 1) rt st
  have ub : -1 ≤ unitI rt ∧ unitI rt ≤ 1 := by rcases unit_pm rt with h | h <;> omega
  have k2 : callN F (n + 2) "can_move" [rigD rs cs bs, plcD x, plcD g, .int (unitI rt)] st = _ := can_spec h1 h2 h3 n (cs := .tup (cs.map cordD)) (x := x) (g := g) ub.1 ub.2 xl v.ix hg st
  generalize hR : rigD rs cs bs = R at *
  have uR : ∀ (s : Sto) i, oIx s R (.int i) = atI [.tup (rs.map ringD), .tup (cs.map cordD), .tup (bs.map barD)] i := fun s i => by rw [← hR]; rfl
  have e0 : startE 8 [R, plcD x, plcD g, sideD rt] = [some R, some (plcD x), some (plcD g), some (sideD rt), none, none, none, none] := rfl
  simp only [e0, b_group_force]
  unfold frcO
  cases hcan : canB rs bs x g (unitI rt) with
  | false =>
    rw [hcan] at k2
    repeat (first | walk_at "ev" | simp only [k1, k2, Bool.not_false, e_kfnR])
    rfl
  | true =>
    rw [hcan] at k2
    repeat (first | walk_at "ev" | simp only [k1, k2, Bool.not_true, uR])
    rw [lc_map cordD (fun c => .int (pullC x g (unitI rt) c)) cs ?h]
    case h =>
      intro c hc
      refine ⟨_, rfl, rfl, ?_⟩
      have a1 := change_spec h2 (n + 1) c.a c.b [.int c.len, .int c.w] g ub.1 ub.2 st
      have a1 : callN F (n + 2) "stretch_change" [cordD c, plcD g, .int (unitI rt)] st = _ := a1
      have a2 := cforce_spec h1 h5 n (c := c) (x := x) (g := g) (u := unitI rt) (by rw [xl]; exact (v.cord c hc).1) st
      repeat (first | walk_at "ev" | simp only [a1, a2])
    have em : (cs.map fun c => D.int (pullC x g (unitI rt) c)) = (cs.map (pullC x g (unitI rt))).map D.int := by rw [List.map_map]; rfl
    simp only [em]
    repeat (first | walk_at "ev" | simp only [uR])
    rw [lc_map D.int (fun k => .int (ringAt rs k).ld) g ?h]
    case h =>
      intro k hk
      refine ⟨_, rfl, rfl, ?_⟩
      obtain ⟨k0, k1⟩ := hg k hk
      have r1 := ringG k0 k1
      have q2 : oIx st (ringD (ringAt rs k)) (.int 2) = some (.int (ringAt rs k).ld) := rfl
      repeat (first | walk_at "ev" | simp only [uR, r1, q2])
    have em : (g.map fun k => D.int (ringAt rs k).ld) = (g.map fun k => (ringAt rs k).ld).map D.int := by rw [List.map_map]; rfl
    simp only [em]
    have m := fun z : Int => o_mul (s := st) (mulOk_l (a := unitI rt) (b := z) (by omega) (by omega))
    repeat (first | walk_at "ev" | simp only [m, e_kfnR])
    rfl
theorem grp_step {C : Orc} (body : Orc → DS) (hb : body C = sSeq (sAsg (eOp oAdd (eVar 1) (eLc [3] (iSeq (eVar 1)) (gN 3) bYes (eOp oAdd (eVar 3) (eTup (aCons (eVar 2) aNil))))) (gN 1)) sNil) (N : Int) (n : Nat) (hn : n ≤ 7) (v2 : Option D) (st : Sto) :
    body C [some (.int N), some (.lst ((grpsN n).map plcD)), some (.int (n : Nat)), none] st = some (.nx [some (.int N), some (.lst ((grpsN (n + 1)).map plcD)), some (.int (n : Nat)), none], st) := by
  rw [hb]
  repeat (first | walk_at "ev")
  rw [lc_map plcD (fun g => plcD (g ++ [(n : Int)])) (grpsN n) ?h]
  case h =>
    intro g hg
    refine ⟨_, rfl, rfl, ?_⟩
    have hl : g.length ≤ 7 := by
      have := grps_sz n g hg
      omega
    have ad : oAdd st (plcD g) (.tup [.int (n : Nat)]) = some (plcD (g ++ [(n : Int)])) := by
      show oAdd st (.tup (g.map D.int)) (.tup [.int (n : Nat)]) = some (.tup ((g ++ [(n : Int)]).map D.int))
      rw [add_tup (by simp; omega), List.map_append]
      rfl
    repeat (first | walk_at "ev" | simp only [ad])
  have p2 : 2 ^ n ≤ 2 ^ 7 := Nat.pow_le_pow_right (by omega) hn
  have ad : oAdd st (.lst ((grpsN n).map plcD)) (.lst ((grpsN n).map fun g => plcD (g ++ [(n : Int)]))) = some (.lst ((grpsN (n + 1)).map plcD)) := by
    show (if fits (((grpsN n).map plcD).length + ((grpsN n).map fun g => plcD (g ++ [(n : Int)])).length) then some (D.lst (_ ++ _)) else none) = _
    rw [fits_small (by rw [List.length_map, List.length_map, grps_len]; omega), if_pos rfl]
    congr 2
    show _ = (grpsN n ++ (grpsN n).map (· ++ [(n : Int)])).map plcD
    rw [List.map_append, List.map_map]
    rfl
  repeat (first | walk_at "ev" | simp only [ad])
end
end Tg
/-! All groups as the program and the law list them; the strongest slide; equilibria; groups that wander. -/
namespace Tg
open PySem PySem.Spec PyProof.Rows L2
/-- the best so far -/
def stp (f : List Int → Option Int) (b : Int × List Int) (g : List Int) : Int × List Int := match f g with
  | some v => if b.1 < v then (v, g) else b
  | none => b
def strg (f : List Int → Option Int) (gs : List (List Int)) : Int × List Int := gs.foldl (stp f) (0, [])
theorem stp_none {f : List Int → Option Int} {b : Int × List Int} {g : List Int} (h : f g = none) : stp f b g = b := by
  unfold stp
  rw [h]
theorem stp_yes {f : List Int → Option Int} {b : Int × List Int} {g : List Int} {v : Int} (h : f g = some v) (q : b.1 < v) : stp f b g = (v, g) := by
  unfold stp
  rw [h]
  exact if_pos q
theorem stp_no {f : List Int → Option Int} {b : Int × List Int} {g : List Int} {v : Int} (h : f g = some v) (q : ¬ b.1 < v) : stp f b g = b := by
  unfold stp
  rw [h]
  exact if_neg q
def pairD (b : Int × List Int) : D := .tup [.int b.1, plcD b.2]
section
variable {F : String → Option Fn}
theorem grp_loop {C : Orc} (body : Orc → DS) (hb : body C = sSeq (sAsg (eOp oAdd (eVar 1) (eLc [3] (iSeq (eVar 1)) (gN 3) bYes (eOp oAdd (eVar 3) (eTup (aCons (eVar 2) aNil))))) (gN 1)) sNil) (N : Nat) (hN : N ≤ 8) (st : Sto) :
    ∃ v2, forL always (gN 2) (body C) (rangeD 0 N) [some (.int (N : Nat)), some (.lst [.tup []]), none, none] st = some (.nx [some (.int (N : Nat)), some (.lst ((grpsN N).map plcD)), v2, none], st) := by
  obtain ⟨env', st', k, n, v2, rfl, rfl, hn, hy⟩ := for_rel (tg := gN 2) (body := body C) (fun i : Nat => D.int (0 + (i : Int)))
    (fun is env s => ∃ (n : Nat) (v2 : Option D), env = [some (.int (N : Nat)), some (.lst ((grpsN n).map plcD)), v2, none] ∧ s = st ∧ n ≤ N ∧ is = (List.range N).drop n)
    (by
      rintro i is env s ⟨n, v2, rfl, rfl, hn, hy⟩
      have hlt : n < N := by
        apply Classical.byContradiction
        intro h
        rw [List.drop_eq_nil_of_le (by rw [List.length_range]; omega)] at hy
        cases hy
      rw [List.drop_eq_getElem_cons (by rw [List.length_range]; exact hlt)] at hy
      obtain ⟨hi, hys⟩ := List.cons.inj hy
      rw [List.getElem_range] at hi
      subst hi
      refine ⟨_, _, rfl, ?_⟩
      rw [Int.zero_add]
      have k := grp_step body hb (N : Nat) i (by omega) v2 s
      exact ⟨_, _, k, i + 1, _, rfl, rfl, hlt, hys⟩)
    (List.range N) [some (.int (N : Nat)), some (.lst ((grpsN 0).map plcD)), none, none] st ⟨0, none, rfl, rfl, Nat.zero_le _, rfl⟩
  have : n = N := by
    apply Classical.byContradiction
    intro h
    rw [List.drop_eq_getElem_cons (by rw [List.length_range]; omega)] at hy
    cases hy
  subst this
  exact ⟨v2, k⟩
theorem groups_spec (h1 : F "all_groups" = some ⟨1, 4, b_all_groups⟩ := by first | assumption | rfl) (n : Nat) (N : Nat) (hN : N ≤ 8) (st : Sto) : callN F (n + 1) "all_groups" [.int (N : Nat)] st = some (.lst ((grpsL N).map plcD), st) := by
  rw [call_eq h1 rfl]
  obtain ⟨v2, k⟩ := grp_loop b_all_groups_f1 (C := callN F n) rfl N hN st
  have rg := e_krng1 (s := st) (j := (N : Int)) (by omega) (by omega)
  rw [Int.toNat_natCast] at rg
  have so : gSortLen st [.lst ((grpsN N).map plcD)] = some (.lst (([] :: grpsL N).map plcD)) := by
    have := o_sortLen (s := st) (gs := grpsN N)
    rw [this, grps_cons, isort_front (fun y _ => by simp)]
    rfl
  have sl : sliceD st (some 1) none (.lst (([] :: grpsL N).map plcD)) = some (.lst ((grpsL N).map plcD)) := by
    show some (D.lst (cutD _ (some 1) none)) = _
    rw [cut_from (by decide)]
    rfl
  have e0 : startE 4 [.int (N : Nat)] = [some (.int (N : Nat)), none, none, none] := rfl
  simp only [e0, b_all_groups]
  repeat (first | walk_at "ev" | simp only [rg, k, so, sl, e_kfnR])
theorem lgroups_spec (h1 : F "_law_groups" = some ⟨1, 4, b_l_groups⟩ := by first | assumption | rfl) (n : Nat) (N : Nat) (hN : N ≤ 8) (st : Sto) : callN F (n + 1) "_law_groups" [.int (N : Nat)] st = some (.lst ((grpsX N).map plcD), st) := by
  rw [call_eq h1 rfl]
  obtain ⟨v2, k⟩ := grp_loop b_l_groups_f1 (C := callN F n) rfl N hN st
  have rg := e_krng1 (s := st) (j := (N : Int)) (by omega) (by omega)
  rw [Int.toNat_natCast] at rg
  have so : gSorted st [.lst ((grpsN N).map plcD)] = some (.lst (([] :: grpsX N).map plcD)) := by
    rw [grps_cons]
    have := o_sortT (s := st) (gs := grpT N)
    rw [this, isort_front (fun y _ => lex_nil y)]
    rfl
  have sl : sliceD st (some 1) none (.lst (([] :: grpsX N).map plcD)) = some (.lst ((grpsX N).map plcD)) := by
    show some (D.lst (cutD _ (some 1) none)) = _
    rw [cut_from (by decide)]
    rfl
  have e0 : startE 4 [.int (N : Nat)] = [some (.int (N : Nat)), none, none, none] := rfl
  simp only [e0, b_l_groups]
  repeat (first | walk_at "ev" | simp only [rg, k, so, sl, e_kfnR])
theorem strong_spec (h1 : F "stretch_of" = some ⟨2, 2, b_stretch_of⟩ := by first | assumption | rfl) (h2 : F "stretch_change" = some ⟨3, 3, b_stretch_change⟩ := by first | assumption | rfl) (h3 : F "can_move" = some ⟨4, 9, b_can_move⟩ := by first | assumption | rfl) (h4 : F "unit_of" = some ⟨1, 1, b_unit_of⟩ := by first | assumption | rfl)
    (h5 : F "cord_force" = some ⟨3, 4, b_cord_force⟩ := by first | assumption | rfl) (h6 : F "group_force" = some ⟨4, 8, b_group_force⟩ := by first | assumption | rfl) (h7 : F "all_groups" = some ⟨1, 4, b_all_groups⟩ := by first | assumption | rfl) (h8 : F "strongest_slide" = some ⟨3, 6, b_strongest_slide⟩ := by first | assumption | rfl) (n : Nat) {rs : List Ring} {cs : List Cord} {bs : List Bar} {x : List Int} (rt : Bool)
    (v : VRig rs cs bs) (xl : x.length = rs.length) (st : Sto) :
    callN F (n + 4) "strongest_slide" [rigD rs cs bs, plcD x, sideD rt] st = some (pairD (strg (fun g => frcO rs cs bs x g rt) (grpsL rs.length)), st) := by
  rw [call_eq h8 rfl]
  have r2 := v.r2
  have kg := groups_spec h7 (n + 2) rs.length (by omega) st
  have kf := fun (g : List Int) (hg : InR rs.length g) (s : Sto) => force_spec h1 h2 h3 h4 h5 h6 n rt v xl hg s
  generalize hR : rigD rs cs bs = R at *
  obtain ⟨env', st', k, b, v4, v5, rfl, hst, _, hy⟩ := for_rel (tg := gN 4) (body := b_strongest_slide_f1 (callN F (n + 3))) plcD
    (fun gs env s => ∃ (b : Int × List Int) (v4 v5 : Option D), env = [some R, some (plcD x), some (sideD rt), some (pairD b), v4, v5] ∧ s = st ∧ (∀ g ∈ gs, InR rs.length g) ∧ gs.foldl (stp fun g => frcO rs cs bs x g rt) b = strg (fun g => frcO rs cs bs x g rt) (grpsL rs.length))
    (by
      rintro g gs env s ⟨b, v4, v5, rfl, rfl, hg, hy⟩
      refine ⟨_, _, rfl, ?_⟩
      have k1 := kf g (hg g List.mem_cons_self) s
      have i0 : oIx s (pairD b) (.int 0) = some (.int b.1) := rfl
      have nn : oIsNot s .non .non = some (.bl false) := rfl
      have ni : ∀ z, oIsNot s (.int z) .non = some (.bl true) := fun _ => rfl
      rw [List.foldl_cons] at hy
      simp only [b_strongest_slide_f1]
      cases hf : frcO rs cs bs x g rt with
      | none =>
        rw [hf] at k1
        have k1 : callN F (n + 3) "group_force" [R, plcD x, plcD g, sideD rt] s = some (.non, s) := k1
        rw [stp_none hf] at hy
        repeat (first | walk_at "ev" | simp only [k1, nn])
        exact ⟨_, _, rfl, b, _, _, rfl, rfl, fun g' h' => hg g' (List.mem_cons_of_mem _ h'), hy⟩
      | some w =>
        rw [hf] at k1
        have k1 : callN F (n + 3) "group_force" [R, plcD x, plcD g, sideD rt] s = some (.int w, s) := k1
        by_cases hw : b.1 < w
        · rw [stp_yes hf hw] at hy
          repeat (first | walk_at "ev" | simp only [k1, ni, i0, decide_eq_true hw])
          exact ⟨_, _, rfl, (w, g), _, _, rfl, rfl, fun g' h' => hg g' (List.mem_cons_of_mem _ h'), hy⟩
        · rw [stp_no hf hw] at hy
          repeat (first | walk_at "ev" | simp only [k1, ni, i0, decide_eq_false hw])
          exact ⟨_, _, rfl, b, _, _, rfl, rfl, fun g' h' => hg g' (List.mem_cons_of_mem _ h'), hy⟩)
    (grpsL rs.length) [some R, some (plcD x), some (sideD rt), some (pairD (0, [])), none, none] st ⟨(0, []), none, none, rfl, rfl, fun g hg => (grpsL_mem.mp hg).2.1, rfl⟩
  have hy : b = strg (fun g => frcO rs cs bs x g rt) (grpsL rs.length) := hy
  rw [hst, hy] at k
  have e0 : startE 6 [R, plcD x, sideD rt] = [some R, some (plcD x), some (sideD rt), none, none, none] := rfl
  have k : forL always (gN 4) (b_strongest_slide_f1 (callN F (n + 3))) ((grpsL rs.length).map plcD) [some R, some (plcD x), some (sideD rt), some (.tup [.int 0, .tup []]), none, none] st = _ := k
  have ln : gLen st [plcD x] = some (.int (rs.length : Nat)) := by
    show some (D.int ((x.map D.int).length : Nat)) = _
    rw [List.length_map, xl]
  simp only [e0, b_strongest_slide]
  repeat (first | walk_at "ev" | simp only [ln, xl, kg, k, e_kfnR])
end
end Tg
/-! Equilibria; groups that wander; the law's forces. -/
namespace Tg
open PySem PySem.Spec PyProof.Rows L2
theorem deps_ints (x : List Int) : deps (x.map D.int) = 0 := by
  induction x with
  | nil => rfl
  | cons z zs ih =>
    rw [List.map_cons]
    unfold deps
    rw [ih]
    rfl
theorem ok_pair (b : Int × List Int) : okD (pairD b) = true := by
  unfold okD pairD
  have h1 : lay (.tup [.int b.1, plcD b.2]) = true := by
    unfold lay lays lays lays
    simp only [lay, Bool.true_and, Bool.and_true]
    exact lay_ints b.2
  have h2 : dep (.tup [.int b.1, plcD b.2]) ≤ 64 := by
    simp only [dep, deps, deps_ints]
    decide
  rw [h1, decide_eq_true h2]
  rfl
theorem eq_pair {st : Sto} (b c : Int × List Int) : oEq st (pairD b) (pairD c) = some (.bl (decide (b = c))) := by
  have e4 : eqD (pairD b) (pairD c) = decide (b = c) := by
    have h2 := eqD_plc b.2 c.2
    have h3 := eqD_plc [b.1] [c.1]
    unfold eqD at h2 h3 ⊢
    simp only [pyD, pyDs, List.map_cons, List.map_nil, PyData.eqv, PyData.eqvAll, Bool.and_true, pairD] at h2 h3 ⊢
    rw [h2, h3]
    obtain ⟨b1, b2⟩ := b
    obtain ⟨c1, c2⟩ := c
    simp only [Prod.mk.injEq, List.cons.injEq, and_true]
    rw [← Bool.decide_and]
  have e1 : oEq st (pairD b) (pairD c) = if okD (pairD b) && okD (pairD c) then some (.bl (eqD (pairD b) (pairD c))) else none := rfl
  rw [e1, ok_pair, ok_pair, e4]
  rfl
section
variable {F : String → Option Fn}
def eqlB (rs : List Ring) (cs : List Cord) (bs : List Bar) (x : List Int) : Bool := [false, true].all fun rt => decide (strg (fun g => frcO rs cs bs x g rt) (grpsL rs.length) = (0, []))
theorem equil_spec (h1 : F "stretch_of" = some ⟨2, 2, b_stretch_of⟩ := by first | assumption | rfl) (h2 : F "stretch_change" = some ⟨3, 3, b_stretch_change⟩ := by first | assumption | rfl) (h3 : F "can_move" = some ⟨4, 9, b_can_move⟩ := by first | assumption | rfl) (h4 : F "unit_of" = some ⟨1, 1, b_unit_of⟩ := by first | assumption | rfl)
    (h5 : F "cord_force" = some ⟨3, 4, b_cord_force⟩ := by first | assumption | rfl) (h6 : F "group_force" = some ⟨4, 8, b_group_force⟩ := by first | assumption | rfl) (h7 : F "all_groups" = some ⟨1, 4, b_all_groups⟩ := by first | assumption | rfl) (h8 : F "strongest_slide" = some ⟨3, 6, b_strongest_slide⟩ := by first | assumption | rfl) (h9 : F "is_equilibrium" = some ⟨2, 3, b_is_equilibrium⟩ := by first | assumption | rfl) (n : Nat) {rs : List Ring} {cs : List Cord} {bs : List Bar} {x : List Int}
    (v : VRig rs cs bs) (xl : x.length = rs.length) (st : Sto) :
    callN F (n + 5) "is_equilibrium" [rigD rs cs bs, plcD x] st = some (.bl (eqlB rs cs bs x), st) := by
  rw [call_eq h9 rfl]
  have ks := fun (rt : Bool) (s : Sto) => strong_spec h1 h2 h3 h4 h5 h6 h7 h8 n rt v xl s
  generalize hR : rigD rs cs bs = R at *
  have e0 : startE 3 [R, plcD x] = [some R, some (plcD x), none] := rfl
  have z0 : D.tup [.int 0, .tup []] = pairD (0, []) := rfl
  have lc : lcL always (gN 2) bYes (eOp oEq (eCall (callN F (n + 4)) "strongest_slide" (aCons (eVar 0) (aCons (eVar 1) (aCons (eVar 2) aNil)))) (eTup (aCons (eC (.int 0)) (aCons (eTup aNil) aNil)))) [some R, some (plcD x), none] [.str (Str.ofString "left"), .str (Str.ofString "right")] st =
      some (([false, true].map fun rt => decide (strg (fun g => frcO rs cs bs x g rt) (grpsL rs.length) = (0, []))).map D.bl, st) := by
    have := lc_map (tg := gN 2) (ifs := bYes) (elt := eOp oEq (eCall (callN F (n + 4)) "strongest_slide" (aCons (eVar 0) (aCons (eVar 1) (aCons (eVar 2) aNil)))) (eTup (aCons (eC (.int 0)) (aCons (eTup aNil) aNil)))) (env := [some R, some (plcD x), none]) (s := st) sideD (fun rt => .bl (decide (strg (fun g => frcO rs cs bs x g rt) (grpsL rs.length) = (0, [])))) [false, true] (by
      intro rt _
      refine ⟨_, rfl, rfl, ?_⟩
      repeat (first | walk_at "ev" | simp only [ks, z0, eq_pair]))
    rw [List.map_map]
    exact this
  simp only [e0, b_is_equilibrium]
  repeat (first | walk_at "ev" | simp only [lc, e_kfnR])
  rw [List.all_map]
  rfl
end
end Tg
/-! Groups that wander; the law's forces. -/
namespace Tg
open PySem PySem.Spec PyProof.Rows L2
theorem mv_unit {g x : List Int} {rt : Bool} : mv g true (unitI rt) x = mv g rt 1 x := by
  unfold mv
  rw [show stepC true (unitI rt) = stepC rt 1 by cases rt <;> rfl]
theorem grpsX_pos {n : Nat} (h : 1 ≤ n) : 0 < (grpsX n).length ∧ (grpsX n).length ≤ 2 ^ n := by
  unfold grpsX
  have h1 := grps_len n
  rw [grps_cons, List.length_cons] at h1
  have : 2 ^ 1 ≤ 2 ^ n := Nat.pow_le_pow_right (by omega) h
  rw [(isort_perm _).length_eq]
  omega
section
variable {F : String → Option Fn}
theorem lmoved_spec (h1 : F "_law_moved" = some ⟨3, 5, b_l_moved⟩ := by first | assumption | rfl) (n : Nat) (x g : List Int) {c : Int} (c0 : -10000000000000 ≤ c) (c1 : c ≤ 10000000000000) (st : Sto) : callN F (n + 1) "_law_moved" [plcD x, plcD g, .int c] st = some (plcD (mv g true c x), st) := by
  rw [call_eq h1 rfl]
  have e0 : startE 5 [plcD x, plcD g, .int c] = [some (plcD x), some (plcD g), some (.int c), none, none] := rfl
  simp only [e0, b_l_moved]
  repeat (first | walk_at "ev" | simp only [en_zip])
  rw [lc_map (fun p : Int × Nat => D.tup [.int (p.2 : Nat), .int p.1]) (fun p => .int (if ((p.2 : Nat) : Int) ∈ g then p.1 + stepC true c else p.1)) x.zipIdx ?h]
  case h =>
    intro p _
    refine ⟨_, rfl, rfl, ?_⟩
    have m := fun z : Int => o_mul (s := st) (mulOk_l (a := c) (b := z) (by omega) (by omega))
    by_cases hp : ((p.2 : Nat) : Int) ∈ g
    · repeat (first | walk_at "ev" | simp only [in_ints, decide_eq_true hp, if_pos hp, if_true, m, Int.mul_one])
      rfl
    · repeat (first | walk_at "ev" | simp only [in_ints, decide_eq_false hp, if_neg hp, Bool.false_eq_true, if_false, m, Int.mul_zero, Int.add_zero])
  repeat (first | walk_at "ev" | simp only [e_kfnR])
  simp only [plcD, mv, List.map_map, Function.comp_def]
theorem lunit_spec (h1 : F "_law_unit" = some ⟨1, 1, b_l_unit⟩ := by first | assumption | rfl) (n : Nat) (rt : Bool) (st : Sto) : callN F (n + 1) "_law_unit" [sideD rt] st = some (.int (unitI rt), st) := by
  rw [call_eq h1 rfl]
  have e0 : startE 1 [sideD rt] = [some (.str (sideS rt))] := rfl
  simp only [e0, b_l_unit]
  repeat (first | walk_at "ev" | simp only [side_eq])
  cases rt <;> repeat (first | walk_at "ev" | simp only [unitI, if_true, Bool.false_eq_true, if_false, e_kfnR])
theorem lforce_spec (h1 : F "_law_integer" = some ⟨3, 3, b_l_integer⟩ := by first | assumption | rfl) (h2 : F "_law_sized" = some ⟨3, 3, b_l_sized⟩ := by first | assumption | rfl) (h3 : F "_law_stretches" = some ⟨2, 3, b_l_stretches⟩ := by first | assumption | rfl)
    (h4 : F "_law_is_placement" = some ⟨2, 6, b_l_is_placement⟩ := by first | assumption | rfl) (h5 : F "_law_energy" = some ⟨2, 7, b_l_energy⟩ := by first | assumption | rfl) (h6 : F "_law_moved" = some ⟨3, 5, b_l_moved⟩ := by first | assumption | rfl) (h7 : F "_law_force" = some ⟨4, 5, b_l_force⟩ := by first | assumption | rfl) (n : Nat) {rs : List Ring} {cs : List Cord} {bs : List Bar} {x g : List Int} (rt : Bool)
    (v : VRig rs cs bs) (hp : Plc rs bs x) (hg : Grp rs.length g) (st : Sto) :
    callN F (n + 3) "_law_force" [rigD rs cs bs, plcD x, plcD g, .int (unitI rt)] st = some (oiD (frcO rs cs bs x g rt), st) := by
  rw [call_eq h7 rfl, frcO_eq v hp hg.2.1 hg.2.2]
  have ub : -1 ≤ unitI rt ∧ unitI rt ≤ 1 := by rcases unit_pm rt with h | h <;> omega
  have k1 := lmoved_spec h6 (n + 1) x g (c := unitI rt) (by omega) (by omega) st
  rw [mv_unit] at k1
  have xl := hp.len
  have k2 : callN F (n + 2) "_law_is_placement" [rigD rs cs bs, plcD (mv g rt 1 x)] st = _ := lis_placement_spec h1 h2 h3 h4 n v.ix st
  have k3 : callN F (n + 2) "_law_energy" [rigD rs cs bs, plcD x] st = _ := lenergy_spec h3 h5 n (v.e xl) st
  have k4 : callN F (n + 2) "_law_energy" [rigD rs cs bs, plcD (mv g rt 1 x)] st = _ := lenergy_spec h3 h5 n (v.e (by rw [mv_len, xl])) st
  generalize hR : rigD rs cs bs = R at *
  have e0 : startE 5 [R, plcD x, plcD g, .int (unitI rt)] = [some R, some (plcD x), some (plcD g), some (.int (unitI rt)), none] := rfl
  simp only [e0, b_l_force]
  cases hb : plcB rs bs (mv g rt 1 x) with
  | false =>
    rw [hb] at k2
    repeat (first | walk_at "ev" | simp only [k1, k2, Bool.not_false, e_kfnR])
    rfl
  | true =>
    rw [hb] at k2
    repeat (first | walk_at "ev" | simp only [k1, k2, k3, k4, Bool.not_true, e_kfnR])
    rfl
theorem wander_spec (hN : F "_law_next" = some ⟨2, 9, b_l_next⟩ := by first | assumption | rfl) (hO : F "_law_one" = some ⟨2, 2, b_l_one⟩ := by first | assumption | rfl) (h1 : F "_law_integer" = some ⟨3, 3, b_l_integer⟩ := by first | assumption | rfl) (h2 : F "_law_sized" = some ⟨3, 3, b_l_sized⟩ := by first | assumption | rfl) (h3 : F "_law_stretches" = some ⟨2, 3, b_l_stretches⟩ := by first | assumption | rfl)
    (h4 : F "_law_is_placement" = some ⟨2, 6, b_l_is_placement⟩ := by first | assumption | rfl) (h6 : F "_law_moved" = some ⟨3, 5, b_l_moved⟩ := by first | assumption | rfl) (h7 : F "_law_groups" = some ⟨1, 4, b_l_groups⟩ := by first | assumption | rfl) (h8 : F "_law_wander" = some ⟨3, 8, b_l_wander⟩ := by first | assumption | rfl) (n : Nat) {rs : List Ring} {cs : List Cord} {bs : List Bar} {x : List Int}
    (v : VRig rs cs bs) (hp : Plc rs bs x) {s : Dr} {b : Int} (hd : DOk s b) (hb : 19 ≤ b) (o : Sto) :
    ∃ y s', callN F (n + 3) "_law_wander" [.loc 1, rigD rs cs bs, plcD x] (mkSt s o) = some (plcD y, mkSt s' o) ∧ Plc rs bs y ∧ DOk s' (b - 19) := by
  have r1 := v.r1
  have r2 := v.r2
  have dr := draws_of (F := F) hN (n + 1)
  have on := ones_of (F := F) hN hO n
  have kg := lgroups_spec h7 (n + 1) rs.length (by omega) (mkSt s o)
  obtain ⟨t, s1, k1, t0, t1, d1⟩ := dr.n hd o 7 (by omega) (by omega) (by omega)
  have kp : ∀ (y : List Int) (st : Sto), callN F (n + 2) "_law_is_placement" [rigD rs cs bs, plcD y] st = some (.bl (plcB rs bs y), st) := fun y st => lis_placement_spec h1 h2 h3 h4 n v.ix st
  obtain ⟨p1, p2⟩ := grpsX_pos r1
  have p3 : 2 ^ rs.length ≤ 2 ^ 8 := Nat.pow_le_pow_right (by omega) r2
  generalize hR : rigD rs cs bs = R at *
  obtain ⟨env', st', k, y, s2, v4, v5, v6, v7, rfl, rfl, hy, d2⟩ := for_rel (tg := gN 4) (body := b_l_wander_f1 (callN F (n + 2))) (fun i : Nat => D.int (0 + (i : Int)))
    (fun is env st => ∃ (y : List Int) (s2 : Dr) (v4 v5 v6 v7 : Option D), env = [some (.loc 1), some R, some (plcD y), some (.lst ((grpsX rs.length).map plcD)), v4, v5, v6, v7] ∧ st = mkSt s2 o ∧ Plc rs bs y ∧ DOk s2 (b - 19 + 3 * is.length))
    (by
      rintro i is env st ⟨y, s2, v4, v5, v6, v7, rfl, rfl, hy, d2⟩
      rw [List.length_cons] at d2
      refine ⟨_, _, rfl, ?_⟩
      obtain ⟨gd, s3, k2, hg, d3⟩ := on.l d2 o ((grpsX rs.length).map plcD) (by omega) (by rw [List.length_map]; omega) (by rw [List.length_map]; omega)
      obtain ⟨g, hg, rfl⟩ := List.mem_map.mp hg
      obtain ⟨f, s4, k3, f0, f1, d4⟩ := dr.n d3 o 1000000 (by omega) (by omega) (by omega)
      obtain ⟨cd, s5, k4, hc, d5⟩ := on.l d4 o [.int 1, .int (-1), .int 1, .int (-1), .int 2, .int (-3), .int (1 + f), .int (0 - (1 + f))] (by omega) (by simp) (by simp)
      obtain ⟨c, rfl, c0, c1⟩ : ∃ c : Int, cd = .int c ∧ -1000001 ≤ c ∧ c ≤ 1000001 := by
        simp only [List.mem_cons, List.not_mem_nil, or_false] at hc
        rcases hc with rfl | rfl | rfl | rfl | rfl | rfl | rfl | rfl <;> exact ⟨_, rfl, by omega, by omega⟩
      have k5 := lmoved_spec h6 (n + 1) y g (c := c) (by omega) (by omega) (mkSt s5 o)
      have k6 := kp (mv g true c y) (mkSt s5 o)
      have p6 : ∀ t : Sto, oPow t (.int 10) (.int 6) = some (.int 1000000) := fun _ => rfl
      have eg : D.tup (g.map D.int) = plcD g := rfl
      simp only [b_l_wander_f1]
      cases hb : plcB rs bs (mv g true c y) with
      | false =>
        rw [hb] at k6
        repeat (first | walk_at "ev" | simp only [k2, p6, k3, k4, k5, k6])
        exact ⟨_, _, rfl, y, s5, _, _, _, _, rfl, rfl, hy, d5.mono (by omega)⟩
      | true =>
        rw [hb] at k6
        repeat (first | walk_at "ev" | simp only [k2, p6, k3, k4, k5, k6])
        exact ⟨_, _, rfl, mv g true c y, s5, _, _, _, _, rfl, rfl, plcB_iff.mp hb, d5.mono (by omega)⟩)
    (List.range t.toNat) [some (.loc 1), some R, some (plcD x), some (.lst ((grpsX rs.length).map plcD)), none, none, none, none] (mkSt s1 o) ⟨x, s1, none, none, none, none, rfl, rfl, hp, d1.mono (by rw [List.length_range]; omega)⟩
  refine ⟨y, s2, ?_, hy, d2.mono (by simp)⟩
  have rg := e_krng1 (s := mkSt s1 o) (j := t) (by omega) (by omega)
  have k : forL always (gN 4) (b_l_wander_f1 (callN F (n + 2))) (rangeD 0 t.toNat) [some (.loc 1), some R, some (plcD x), some (.lst ((grpsX rs.length).map plcD)), none, none, none, none] (mkSt s1 o) = _ := k
  have ln : gLen (mkSt s o) [plcD x] = some (.int (rs.length : Nat)) := by
    show some (D.int ((x.map D.int).length : Nat)) = _
    rw [List.length_map, hp.len]
  have hl := hp.len
  rw [call_eq h8 rfl]
  have e0 : startE 8 [.loc 1, R, plcD x] = [some (.loc 1), some R, some (plcD x), none, none, none, none, none] := rfl
  simp only [e0, b_l_wander]
  repeat (first | walk_at "ev" | simp only [hl, kg, k1, rg, k, e_kfnR])
end
end Tg
/-! What can be shown as text: rigs and placements. -/
namespace Tg
open PySem PySem.Spec PyProof.Rows L2
theorem nice_int_list {xs : List Int} (n : Nat) (hn : xs.length ≤ n) (h : ∀ z ∈ xs, -10000000000000 ≤ z ∧ z ≤ 10000000000000) : Nice 1 (5 + n * 82) (plcD xs) := nice_tup (k := 0) (B := 80) (by
  intro d hd
  obtain ⟨z, hz, rfl⟩ := List.mem_map.mp hd
  have := h z hz
  exact nice_int (by omega) (by omega)) (by rw [List.length_map]; exact hn)
theorem VRig.nice {rs : List Ring} {cs : List Cord} {bs : List Bar} (v : VRig rs cs bs) : Nice 3 12086 (rigD rs cs bs) := by
  have a1 : Nice 2 4025 (.tup (rs.map ringD)) := (nice_tup (n := 8) (k := 1) (B := 251) (by
    intro d hd
    obtain ⟨r, hr, rfl⟩ := List.mem_map.mp hd
    have := v.ring r hr
    exact nice_int_list (xs := [r.lo, r.hi, r.ld]) 3 (by simp) (by intro z hz; simp only [List.mem_cons, List.not_mem_nil, or_false] at hz; rcases hz with rfl | rfl | rfl <;> omega)) (by rw [List.length_map]; exact v.r2)).mono (by omega) (by omega)
  have a2 : Nice 2 4025 (.tup (cs.map cordD)) := (nice_tup (n := 12) (k := 1) (B := 333) (by
    intro d hd
    obtain ⟨r, hr, rfl⟩ := List.mem_map.mp hd
    obtain ⟨⟨x1, x2, x3, x4⟩, _, x5, x6, x7, x8⟩ := v.cord r hr
    have r2 := v.r2
    exact nice_int_list (xs := [r.a, r.b, r.len, r.w]) 4 (by simp) (by intro z hz; simp only [List.mem_cons, List.not_mem_nil, or_false] at hz; rcases hz with rfl | rfl | rfl | rfl <;> omega)) (by rw [List.length_map]; exact v.c1)).mono (by omega) (by omega)
  have a3 : Nice 2 4025 (.tup (bs.map barD)) := (nice_tup (n := 8) (k := 1) (B := 251) (by
    intro d hd
    obtain ⟨r, hr, rfl⟩ := List.mem_map.mp hd
    obtain ⟨⟨x1, x2, x3, x4⟩, _, x5, x6⟩ := v.bar r hr
    have r2 := v.r2
    exact nice_int_list (xs := [r.a, r.b, r.len]) 3 (by simp) (by intro z hz; simp only [List.mem_cons, List.not_mem_nil, or_false] at hz; rcases hz with rfl | rfl | rfl <;> omega)) (by rw [List.length_map]; exact v.b1)).mono (by omega) (by omega)
  exact nice_tup (n := 3) (k := 2) (B := 4025) (by
    intro d hd
    simp only [List.mem_cons, List.not_mem_nil, or_false] at hd
    rcases hd with rfl | rfl | rfl
    · exact a1
    · exact a2
    · exact a3) (by simp)
theorem Plc.nice {rs : List Ring} {cs : List Cord} {bs : List Bar} {x : List Int} (h : Plc rs bs x) (v : VRig rs cs bs) : Nice 1 661 (plcD x) := nice_int_list 8 (by rw [h.len]; exact v.r2) (by
  intro z hz
  obtain ⟨i, hi, rfl⟩ := List.mem_iff_getElem.mp hz
  have xl := h.len
  have lo := h.lo i (by omega)
  have hi' := h.hi i (by omega)
  rw [(lo_at (by omega)).1] at lo
  rw [(lo_at (by omega)).2] at hi'
  have rr := v.ring (ringAt rs i) (by unfold ringAt; rw [Int.toNat_natCast, List.getD_eq_getElem?_getD, List.getElem?_eq_getElem (by omega)]; exact List.getElem_mem _)
  rw [pa_get hi] at lo hi'
  omega)
/-- a rig and a placement in one list -/
theorem repr_rp {rs : List Ring} {cs : List Cord} {bs : List Bar} {x : List Int} (h : Plc rs bs x) (v : VRig rs cs bs) (s : Sto) : gRepr s [.lst [rigD rs cs bs, plcD x]] = some (.str (shownD (.lst [rigD rs cs bs, plcD x]))) :=
  repr_nice (nice_lst (n := 2) (k := 3) (B := 12086) (by
    intro d hd
    simp only [List.mem_cons, List.not_mem_nil, or_false] at hd
    rcases hd with rfl | rfl
    · exact v.nice
    · exact (h.nice v).mono (by omega) (by omega)) (by simp)) (by omega) (by omega)
theorem RigOk.up {most : Int} {R : Rig} (h : RigOk most R) (hm : most ≤ 8) : RigOk 8 R := { h with n2 := by have := h.n2; omega }
theorem pl_oi {k : Nat} (f : Option Int) : Pl k (oiD f) := by
  cases f with
  | none => exact ⟨rfl, by simp only [oiD, dep]; omega⟩
  | some i => exact pl_int
theorem pl_plc {k : Nat} (x : List Int) : Pl (k + 1) (plcD x) := pl_tup (pl_map fun _ _ => pl_int)
end Tg
/-! Tensions that support a placement make it one of least energy; where no group slides the energy is least; unions and common rings of groups. -/
namespace Tg
open PySem PySem.Spec PyProof.Rows L2
theorem pullA_cons {ls : List Ln} {l : Ln} {k : Int} : pullA (l :: ls) k = (if l.a = k then l.t else 0) + pullA ls k := by
  unfold pullA
  by_cases h : l.a = k
  · rw [List.filter_cons_of_pos (by simpa using h), if_pos h, List.map_cons, List.sum_cons]
  · rw [List.filter_cons_of_neg (by simpa using h), if_neg h, Int.zero_add]
theorem pullB_cons {ls : List Ln} {l : Ln} {k : Int} : pullB (l :: ls) k = (if l.z = k then l.t else 0) + pullB ls k := by
  unfold pullB
  by_cases h : l.z = k
  · rw [List.filter_cons_of_pos (by simpa using h), if_pos h, List.map_cons, List.sum_cons]
  · rw [List.filter_cons_of_neg (by simpa using h), if_neg h, Int.zero_add]
/-- what tensions do along a move, by parts and by rings -/
theorem part_ring (n : Nat) (e : Nat → Int) : ∀ ls : List Ln, (∀ l ∈ ls, LnIx n l) → (ls.map fun l => l.t * (e l.z.toNat - e l.a.toNat)).sum = (vec n fun i => e i * (pullB ls i - pullA ls i)).sum
  | [], _ => by
    have : (vec n fun i => e i * (pullB [] i - pullA [] i)) = vec n fun i => 0 * e i := vec_congr fun i _ => by simp [pullA, pullB]
    rw [this, sum_vec_mul]
    simp
  | l :: ls, h => by
    obtain ⟨a0, a1, z0, z1⟩ := h l List.mem_cons_self
    have ih := part_ring n e ls fun q hq => h q (List.mem_cons_of_mem _ hq)
    have e1 : (vec n fun i => e i * (pullB (l :: ls) i - pullA (l :: ls) i)) = vec n fun i => ((if i = l.z.toNat then l.t * e i else 0) + (if i = l.a.toNat then (-l.t) * e i else 0)) + e i * (pullB ls i - pullA ls i) := vec_congr fun i _ => by
      rw [pullA_cons, pullB_cons]
      have p : ∀ (k : Int) (t : Int), 0 ≤ k → (if k = (i : Int) then t else 0) = if i = k.toNat then t else 0 := fun k t h0 => by
        by_cases hk : k = i
        · rw [if_pos hk, if_pos (by omega)]
        · rw [if_neg hk, if_neg (by omega)]
      rw [p l.z l.t z0, p l.a l.t a0]
      by_cases hz : i = l.z.toNat
      · by_cases ha : i = l.a.toNat
        · rw [if_pos hz, if_pos ha, if_pos hz, if_pos ha, Int.neg_mul, show l.t + pullB ls i - (l.t + pullA ls i) = pullB ls i - pullA ls i by omega]
          omega
        · rw [if_pos hz, if_neg ha, if_pos hz, if_neg ha, show l.t + pullB ls i - (0 + pullA ls i) = l.t + (pullB ls i - pullA ls i) by omega, Int.mul_add, Int.mul_comm (e i) l.t]
          omega
      · by_cases ha : i = l.a.toNat
        · rw [if_neg hz, if_pos ha, if_neg hz, if_pos ha, show 0 + pullB ls i - (l.t + pullA ls i) = -l.t + (pullB ls i - pullA ls i) by omega, Int.mul_add, Int.mul_comm (e i) (-l.t)]
          omega
        · rw [if_neg hz, if_neg ha, if_neg hz, if_neg ha, show 0 + pullB ls i - (0 + pullA ls i) = pullB ls i - pullA ls i by omega]
          omega
    rw [e1, sum_vec_add, sum_vec_add, sum_vec_one (fun i => l.t * e i), sum_vec_one (fun i => (-l.t) * e i), if_pos (by omega), if_pos (by omega), ← ih, List.map_cons, List.sum_cons, Int.mul_sub, Int.neg_mul]
    omega
/-- tensions support a placement -/
structure Sup (rs : List Ring) (cs : List (Cord × Int)) (bs : List (Bar × Int)) (x : List Int) : Prop where
  cord : ∀ q ∈ cs, (0 ≤ q.2 ∧ q.2 ≤ q.1.w) ∧ (q.2 < q.1.w → gap x q.1.a q.1.b ≤ q.1.len) ∧ (0 < q.2 → q.1.len ≤ gap x q.1.a q.1.b)
  bar : ∀ q ∈ bs, 0 ≤ q.2 ∧ (0 < q.2 → q.1.len ≤ gap x q.1.a q.1.b)
  ring : ∀ k, k < rs.length → (pa (resL rs (lnL cs bs)) k < 0 → pa x k ≤ pa (losL rs) k) ∧ (0 < pa (resL rs (lnL cs bs)) k → pa (hisL rs) k ≤ pa x k)
/-- what a move to y loses at a cord, a bar, a ring -/
def lossC (x y : List Int) (q : Cord × Int) : Int := drawnE y q.1 - drawnE x q.1 - q.2 * (gap y q.1.a q.1.b - gap x q.1.a q.1.b)
def lossB (x y : List Int) (q : Bar × Int) : Int := q.2 * (gap x q.1.a q.1.b - gap y q.1.a q.1.b)
def lossR (r : List Int) (x y : List Int) (k : Nat) : Int := pa r k * (pa x k - pa y k)
theorem sum_map_add {α : Type} (f g : α → Int) : ∀ xs : List α, (xs.map fun x => f x + g x).sum = (xs.map f).sum + (xs.map g).sum
  | [] => rfl
  | x :: xs => by
    have := sum_map_add f g xs
    simp only [List.map_cons, List.sum_cons]
    omega
theorem sum_zero {α : Type} : ∀ xs : List α, (xs.map fun _ => (0 : Int)).sum = 0
  | [] => rfl
  | _ :: xs => by
    rw [List.map_cons, List.sum_cons, sum_zero xs]
    rfl
theorem en_loss {rs : List Ring} {cs : List (Cord × Int)} {bs : List (Bar × Int)} {x y : List Int} (xl : x.length = rs.length) (yl : y.length = rs.length) (hc : ∀ q ∈ cs, CIx rs.length q.1) (hb : ∀ q ∈ bs, BIx rs.length q.1) :
    enL rs (cs.map (·.1)) y - enL rs (cs.map (·.1)) x = (cs.map (lossC x y)).sum + (bs.map (lossB x y)).sum + (vec rs.length (lossR (resL rs (lnL cs bs)) x y)).sum := by
  have k1 := part_ring rs.length (fun i => pa y i - pa x i) (lnL cs bs) (by
    intro l hl
    unfold lnL at hl
    rcases List.mem_append.mp hl with h | h
    · obtain ⟨q, hq, rfl⟩ := List.mem_map.mp h
      exact hc q hq
    · obtain ⟨q, hq, rfl⟩ := List.mem_map.mp h
      exact hb q hq)
  have k2 : ((lnL cs bs).map fun l => l.t * (pa y l.z.toNat - pa x l.z.toNat - (pa y l.a.toNat - pa x l.a.toNat))).sum = (cs.map fun q => q.2 * (gap y q.1.a q.1.b - gap x q.1.a q.1.b)).sum + (bs.map fun q => q.2 * (gap y q.1.a q.1.b - gap x q.1.a q.1.b)).sum := by
    unfold lnL
    rw [List.map_append, List.sum_append, List.map_map, List.map_map]
    congr 2
    · exact List.map_congr_left fun q _ => by
        show q.2 * (pa y q.1.b.toNat - pa x q.1.b.toNat - (pa y q.1.a.toNat - pa x q.1.a.toNat)) = _
        rw [gap_pa, gap_pa]
        congr 1
        omega
    · exact List.map_congr_left fun q _ => by
        show q.2 * (pa y q.1.b.toNat - pa x q.1.b.toNat - (pa y q.1.a.toNat - pa x q.1.a.toNat)) = _
        rw [gap_pa, gap_pa]
        congr 1
        omega
  rw [k2] at k1
  have k3 : (vec rs.length (lossR (resL rs (lnL cs bs)) x y)) = vec rs.length fun i => ((ringAt rs i).ld * pa x i + (-1) * ((ringAt rs i).ld * pa y i)) + (pa y i - pa x i) * (pullB (lnL cs bs) i - pullA (lnL cs bs) i) := vec_congr fun i hi => by
    unfold lossR
    rw [pa_resL hi]
    have e : pa (rs.map Ring.ld) i = (ringAt rs i).ld := by
      unfold ringAt
      rw [pa_map hi, Int.toNat_natCast, List.getD_eq_getElem?_getD, List.getElem?_eq_getElem hi]
      rfl
    rw [e]
    generalize (ringAt rs i).ld = a
    generalize pullA (lnL cs bs) i = b
    generalize pullB (lnL cs bs) i = c
    generalize pa x i = u
    generalize pa y i = w
    rw [show a + b - c = a + (b - c) by omega, Int.add_mul, Int.mul_sub a, show (w - u) * (c - b) = (b - c) * (u - w) by rw [← Int.neg_sub u w, ← Int.neg_sub b c, Int.neg_mul_neg, Int.mul_comm]]
    omega
  unfold enL
  rw [load_vec xl, load_vec yl, k3, sum_vec_add, sum_vec_add, sum_vec_mul, ← k1, List.map_map, List.map_map]
  have k4 : (cs.map (lossC x y)).sum = (cs.map (drawnE y ∘ (·.1))).sum - (cs.map (drawnE x ∘ (·.1))).sum - (cs.map fun q => q.2 * (gap y q.1.a q.1.b - gap x q.1.a q.1.b)).sum := by
    rw [sum_map_sub, sum_map_sub]
    rfl
  have k5 : (bs.map (lossB x y)).sum + (bs.map fun q => q.2 * (gap y q.1.a q.1.b - gap x q.1.a q.1.b)).sum = 0 := by
    rw [← sum_map_add]
    have : (bs.map fun q => lossB x y q + q.2 * (gap y q.1.a q.1.b - gap x q.1.a q.1.b)) = bs.map fun _ => (0 : Int) := List.map_congr_left fun q _ => by
      unfold lossB
      rw [← Int.mul_add, show gap x q.1.a q.1.b - gap y q.1.a q.1.b + (gap y q.1.a q.1.b - gap x q.1.a q.1.b) = 0 by omega, Int.mul_zero]
    rw [this]
    exact sum_zero bs
  omega
theorem sum_nonneg : ∀ {xs : List Int}, (∀ z ∈ xs, 0 ≤ z) → 0 ≤ xs.sum ∧ (xs.sum = 0 → ∀ z ∈ xs, z = 0)
  | [], _ => ⟨by simp, fun _ z hz => by simp at hz⟩
  | x :: xs, h => by
    obtain ⟨a, b⟩ := sum_nonneg fun z hz => h z (List.mem_cons_of_mem _ hz)
    have := h x List.mem_cons_self
    rw [List.sum_cons]
    refine ⟨by omega, fun e z hz => ?_⟩
    rcases List.mem_cons.mp hz with rfl | hz
    · omega
    · exact b (by omega) z hz
theorem lossC_nonneg {x y : List Int} {q : Cord × Int} (h : (0 ≤ q.2 ∧ q.2 ≤ q.1.w) ∧ (q.2 < q.1.w → gap x q.1.a q.1.b ≤ q.1.len) ∧ (0 < q.2 → q.1.len ≤ gap x q.1.a q.1.b)) : 0 ≤ lossC x y q ∧ (lossC x y q = 0 → (q.2 < q.1.w → gap y q.1.a q.1.b ≤ q.1.len) ∧ (0 < q.2 → q.1.len ≤ gap y q.1.a q.1.b)) := by
  obtain ⟨⟨h0, h1⟩, h2, h3⟩ := h
  unfold lossC drawnE
  generalize gap x q.1.a q.1.b = u at *
  generalize gap y q.1.a q.1.b = v at *
  generalize q.2 = t at *
  generalize q.1.w = w at *
  generalize q.1.len = l at *
  -- w * max 0 (v - l) - w * max 0 (u - l) - t * (v - u)
  have ex : w * max 0 (u - l) = t * (u - l) := by
    by_cases e0 : t = 0
    · subst e0
      by_cases e1 : w = 0
      · subst e1; simp
      · have := h2 (by omega)
        rw [Int.max_eq_left (by omega)]
        simp
    · have a := h3 (by omega)
      by_cases e1 : t < w
      · have b := h2 e1
        have : u - l = 0 := by omega
        rw [this]
        simp
      · have : t = w := by omega
        subst this
        rw [Int.max_eq_right (by omega)]
  have key : w * max 0 (v - l) - w * max 0 (u - l) - t * (v - u) = w * max 0 (v - l) - t * (v - l) := by
    rw [ex]
    have : t * (v - u) = t * (v - l) - t * (u - l) := by rw [← Int.mul_sub]; congr 1; omega
    rw [this]
    omega
  rw [key]
  by_cases hv : 0 ≤ v - l
  · rw [Int.max_eq_right hv, ← Int.sub_mul]
    have p : 0 ≤ (w - t) * (v - l) := Int.mul_nonneg (by omega) hv
    refine ⟨p, fun e => ⟨fun hw => ?_, fun _ => by omega⟩⟩
    rcases Int.mul_eq_zero.mp e with z | z <;> omega
  · rw [Int.max_eq_left (by omega), Int.mul_zero, Int.zero_sub]
    have p : 0 ≤ t * (l - v) := Int.mul_nonneg h0 (by omega)
    have e2 : -(t * (v - l)) = t * (l - v) := by rw [← Int.mul_neg]; congr 1; omega
    rw [e2]
    refine ⟨p, fun e => ⟨fun _ => by omega, fun ht => ?_⟩⟩
    rcases Int.mul_eq_zero.mp e with z | z <;> omega
/-- least energy, and where else it is attained -/
theorem sup_min {rs : List Ring} {cs : List (Cord × Int)} {bs : List (Bar × Int)} {x y : List Int} (S : Sup rs cs bs x) (hx : Plc rs (bs.map (·.1)) x) (hy : Plc rs (bs.map (·.1)) y) (hc : ∀ q ∈ cs, CIx rs.length q.1) (hb : ∀ q ∈ bs, BIx rs.length q.1) :
    enL rs (cs.map (·.1)) x ≤ enL rs (cs.map (·.1)) y ∧ (enL rs (cs.map (·.1)) y = enL rs (cs.map (·.1)) x → Sup rs cs bs y) := by
  have k := en_loss hx.len hy.len hc hb
  have a1 := sum_nonneg (xs := cs.map (lossC x y)) (by
    intro z hz
    obtain ⟨q, hq, rfl⟩ := List.mem_map.mp hz
    exact (lossC_nonneg (S.cord q hq)).1)
  have b0 : ∀ q ∈ bs, 0 ≤ lossB x y q := fun q hq => by
    obtain ⟨t0, t1⟩ := S.bar q hq
    have g1 : gap y q.1.a q.1.b ≤ q.1.len := hy.bar q.1 (List.mem_map.mpr ⟨q, hq, rfl⟩)
    unfold lossB
    by_cases e : q.2 = 0
    · rw [e]; simp
    · have := t1 (by omega)
      exact Int.mul_nonneg t0 (by omega)
  have a2 := sum_nonneg (xs := bs.map (lossB x y)) (by
    intro z hz
    obtain ⟨q, hq, rfl⟩ := List.mem_map.mp hz
    exact b0 q hq)
  have r0 : ∀ i, i < rs.length → 0 ≤ lossR (resL rs (lnL cs bs)) x y i := fun i hi => by
    obtain ⟨t0, t1⟩ := S.ring i hi
    have l1 := hy.lo i hi
    have l2 := hy.hi i hi
    unfold lossR
    by_cases e : pa (resL rs (lnL cs bs)) i < 0
    · have := t0 e
      exact Int.mul_nonneg_of_nonpos_of_nonpos (by omega) (by omega)
    · by_cases e2 : 0 < pa (resL rs (lnL cs bs)) i
      · have := t1 e2
        exact Int.mul_nonneg (by omega) (by omega)
      · have : pa (resL rs (lnL cs bs)) i = 0 := by omega
        rw [this]; simp
  have a3 := sum_nonneg (xs := vec rs.length (lossR (resL rs (lnL cs bs)) x y)) (by
    intro z hz
    obtain ⟨i, hi, rfl⟩ := List.mem_map.mp hz
    exact r0 i (List.mem_range.mp hi))
  refine ⟨by omega, fun e => ?_⟩
  refine ⟨fun q hq => ?_, fun q hq => ?_, fun i hi => ?_⟩
  · have z := a1.2 (by omega) _ (List.mem_map.mpr ⟨q, hq, rfl⟩)
    exact ⟨(S.cord q hq).1, (lossC_nonneg (S.cord q hq)).2 z⟩
  · have z := a2.2 (by omega) _ (List.mem_map.mpr ⟨q, hq, rfl⟩)
    obtain ⟨t0, t1⟩ := S.bar q hq
    refine ⟨t0, fun ht => ?_⟩
    have := t1 ht
    unfold lossB at z
    rcases Int.mul_eq_zero.mp z with z | z <;> omega
  · have z := a3.2 (by omega) (lossR (resL rs (lnL cs bs)) x y i) (List.mem_map.mpr ⟨i, List.mem_range.mpr hi, rfl⟩)
    obtain ⟨t0, t1⟩ := S.ring i hi
    unfold lossR at z
    refine ⟨fun h => ?_, fun h => ?_⟩
    · have := t0 h
      rcases Int.mul_eq_zero.mp z with z | z <;> omega
    · have := t1 h
      rcases Int.mul_eq_zero.mp z with z | z <;> omega
end Tg
/-! Where no group slides, the energy is least; unions and common rings of groups; what the strongest slide is. -/
namespace Tg
open PySem PySem.Spec PyProof.Rows L2
def grpOf (n : Nat) (p : Nat → Bool) : List Int := ((List.range n).filter p).map fun i : Nat => (i : Int)
theorem grpOf_mem {n i : Nat} {p : Nat → Bool} : (i : Int) ∈ grpOf n p ↔ i < n ∧ p i = true := by
  unfold grpOf
  rw [List.mem_map]
  constructor
  · rintro ⟨j, hj, e⟩
    have : j = i := by omega
    subst this
    rw [List.mem_filter, List.mem_range] at hj
    exact hj
  · intro h
    exact ⟨i, by rw [List.mem_filter, List.mem_range]; exact h, rfl⟩
theorem grpOf_in {n : Nat} {p : Nat → Bool} : InR n (grpOf n p) ∧ (grpOf n p).Pairwise (· < ·) := by
  unfold grpOf
  refine ⟨fun k hk => ?_, ?_⟩
  · obtain ⟨j, hj, rfl⟩ := List.mem_map.mp hk
    rw [List.mem_filter, List.mem_range] at hj
    omega
  · rw [List.pairwise_map]
    refine (List.Pairwise.filter p (List.pairwise_lt_range (n := n))).imp fun {a b} h => ?_
    omega
theorem grpOf_grp {n i : Nat} {p : Nat → Bool} (hi : i < n) (hp : p i = true) : Grp n (grpOf n p) := by
  obtain ⟨a, b⟩ := grpOf_in (n := n) (p := p)
  refine ⟨fun e => ?_, a, b⟩
  have := grpOf_mem.mpr ⟨hi, hp⟩
  rw [e] at this
  simp at this
theorem grp_self {n : Nat} {g : List Int} (h : InR n g) (hs : g.Pairwise (· < ·)) : grpOf n (fun i => decide ((i : Int) ∈ g)) = g := by
  obtain ⟨a, b⟩ := grpOf_in (n := n) (p := fun i => decide ((i : Int) ∈ g))
  refine List.Perm.eq_of_pairwise (le := fun a b : Int => a < b) (fun a b _ _ h1 h2 => by omega) b hs ?_
  rw [List.perm_ext_iff_of_nodup (b.imp fun {x y} h => by omega) (hs.imp fun {x y} h => by omega)]
  intro z
  constructor
  · intro hz
    obtain ⟨h0, h1⟩ := a z hz
    have e : z = ((z.toNat : Nat) : Int) := by omega
    rw [e] at hz ⊢
    exact of_decide_eq_true (grpOf_mem.mp hz).2
  · intro hz
    obtain ⟨h0, h1⟩ := h z hz
    have e : z = ((z.toNat : Nat) : Int) := by omega
    rw [e] at hz ⊢
    exact grpOf_mem.mpr ⟨by omega, decide_eq_true hz⟩
theorem mv_empty {rt : Bool} {x : List Int} : mv [] rt 1 x = x := by
  apply ext_pa mv_len
  intro i hi
  rw [mv_len] at hi
  rw [pa_mv hi]
  simp
/-- |y - x| -/
def dist (x y : List Int) : Nat := ((List.range x.length).map fun i => (pa y i - pa x i).natAbs).sum
theorem sum_nat_lt {f g : Nat → Nat} : ∀ n, (∀ i, i < n → f i ≤ g i) → (∃ i, i < n ∧ f i < g i) → ((List.range n).map f).sum < ((List.range n).map g).sum
  | 0, _, ⟨i, hi, _⟩ => by omega
  | n + 1, h, ⟨i, hi, hlt⟩ => by
    have le : ∀ m, (∀ i, i < m → f i ≤ g i) → ((List.range m).map f).sum ≤ ((List.range m).map g).sum := by
      intro m
      induction m with
      | zero => intro _; simp
      | succ m ih =>
        intro hm
        rw [List.range_succ, List.map_append, List.map_append, List.sum_append, List.sum_append]
        have := ih fun i hi => hm i (by omega)
        have := hm m (by omega)
        simp only [List.map_cons, List.map_nil, List.sum_cons, List.sum_nil]
        omega
    rw [List.range_succ, List.map_append, List.map_append, List.sum_append, List.sum_append]
    simp only [List.map_cons, List.map_nil, List.sum_cons, List.sum_nil]
    by_cases e : i = n
    · subst e
      have := le i fun j hj => h j (by omega)
      omega
    · have := sum_nat_lt n (fun j hj => h j (by omega)) ⟨i, by omega, hlt⟩
      have := h n (by omega)
      omega
theorem pw_up {c : Int} (hc : 0 ≤ c) : Pw (fun a b => max a (b - c)) (fun a b => min (a + c) b) := ⟨fun a b => by omega, fun a a' b b' l => by omega⟩
theorem pw_dn {c : Int} (hc : 0 ≤ c) : Pw (fun a b => min a (b + c)) (fun a b => max (a - c) b) := ⟨fun a b => by omega, fun a a' b b' l => by omega⟩
theorem max_at2 (n : Nat) (f : Nat → Int) (h : 0 < n) : ∃ i, i < n ∧ ∀ j, j < n → f j ≤ f i := by
  obtain ⟨a, b⟩ := maxOf_spec ((List.range n).map f) (by simpa using h)
  obtain ⟨i, hi, e⟩ := List.mem_map.mp a
  refine ⟨i, List.mem_range.mp hi, fun j hj => ?_⟩
  rw [e]
  exact b _ (List.mem_map.mpr ⟨j, List.mem_range.mpr hj, rfl⟩)
theorem local_min {rs : List Ring} {cs : List Cord} {bs : List Bar} {x : List Int} (v : VRig rs cs bs) (hx : Plc rs bs x)
    (loc : ∀ g rt, Grp rs.length g → Plc rs bs (mv g rt 1 x) → enL rs cs x ≤ enL rs cs (mv g rt 1 x)) : ∀ (m : Nat) (y : List Int), Plc rs bs y → dist x y ≤ m → enL rs cs x ≤ enL rs cs y := by
  have xl := hx.len
  have r1 := v.r1
  intro m
  induction m with
  | zero =>
    intro y hy hd
    have yl := hy.len
    have : y = x := by
      apply ext_pa (by omega)
      intro i hi
      apply Classical.byContradiction
      intro hne
      have := sum_nat_lt (f := fun _ => 0) (g := fun i => (pa y i - pa x i).natAbs) x.length (fun i _ => Nat.zero_le _) ⟨i, by omega, by omega⟩
      unfold dist at hd
      omega
    rw [this]
    exact Int.le_refl _
  | succ m ih =>
    intro y hy hd
    have yl := hy.len
    obtain ⟨i, hi, hmax⟩ := max_at2 rs.length (fun i => pa y i - pa x i) (by omega)
    by_cases hpos : 0 < pa y i - pa x i
    · obtain ⟨c, hc⟩ : ∃ c, c = pa y i - pa x i - 1 := ⟨_, rfl⟩
      have c0 : 0 ≤ c := by omega
      have P := pw_up c0
      have ecv := en_cvx P (rs := rs) (cs := cs) (x := x) (y := y) (by omega) (v.e xl)
      have gg := grpOf_grp (n := rs.length) (p := fun j => decide (pa y j - pa x j = pa y i - pa x i)) hi (by simp)
      have e1 : zw (fun a b => max a (b - c)) x y = mv (grpOf rs.length fun j => decide (pa y j - pa x j = pa y i - pa x i)) true 1 x := by
        apply ext_pa (by rw [zw_len (by omega), mv_len])
        intro j hj
        rw [zw_len (by omega)] at hj
        have := hmax j (by omega)
        rw [pa_zw hj (by omega), pa_mv hj]
        by_cases hm : pa y j - pa x j = pa y i - pa x i
        · rw [if_pos (grpOf_mem.mpr ⟨by omega, decide_eq_true hm⟩)]
          show max (pa x j) (pa y j - c) = pa x j + 1
          omega
        · rw [if_neg (fun z => hm (of_decide_eq_true (grpOf_mem.mp z).2))]
          omega
      have p1 : Plc rs bs (zw (fun a b => max a (b - c)) x y) := plc_zw hx hy v.ix (fun l a b h1 h2 => by omega) (fun l a b h1 h2 => by omega) (fun a a' b b' l h1 h2 => by omega)
      have p2 : Plc rs bs (zw (fun a b => min (a + c) b) x y) := plc_zw hx hy v.ix (fun l a b h1 h2 => by omega) (fun l a b h1 h2 => by omega) (fun a a' b b' l h1 h2 => by omega)
      rw [e1] at p1
      have h1 := loc _ _ gg p1
      rw [← e1] at h1
      have h2 := ih _ p2 (by
        have := sum_nat_lt (f := fun j => (pa (zw (fun a b => min (a + c) b) x y) j - pa x j).natAbs) (g := fun j => (pa y j - pa x j).natAbs) x.length (fun j hj => by
          have := hmax j (by omega)
          rw [pa_zw hj (by omega)]
          omega) ⟨i, by omega, by
          rw [pa_zw (by omega) (by omega)]
          omega⟩
        unfold dist at hd ⊢
        omega)
      omega
    · obtain ⟨k, hk, hmin⟩ := max_at2 rs.length (fun i => pa x i - pa y i) (by omega)
      by_cases hneg : 0 < pa x k - pa y k
      · obtain ⟨c, hc⟩ : ∃ c, c = pa x k - pa y k - 1 := ⟨_, rfl⟩
        have c0 : 0 ≤ c := by omega
        have P := pw_dn c0
        have ecv := en_cvx P (rs := rs) (cs := cs) (x := x) (y := y) (by omega) (v.e xl)
        have gg := grpOf_grp (n := rs.length) (p := fun j => decide (pa x j - pa y j = pa x k - pa y k)) hk (by simp)
        have e1 : zw (fun a b => min a (b + c)) x y = mv (grpOf rs.length fun j => decide (pa x j - pa y j = pa x k - pa y k)) false 1 x := by
          apply ext_pa (by rw [zw_len (by omega), mv_len])
          intro j hj
          rw [zw_len (by omega)] at hj
          have := hmin j (by omega)
          rw [pa_zw hj (by omega), pa_mv hj]
          by_cases hm : pa x j - pa y j = pa x k - pa y k
          · rw [if_pos (grpOf_mem.mpr ⟨by omega, decide_eq_true hm⟩)]
            show min (pa x j) (pa y j + c) = pa x j + (0 - 1)
            omega
          · rw [if_neg (fun z => hm (of_decide_eq_true (grpOf_mem.mp z).2))]
            omega
        have p1 : Plc rs bs (zw (fun a b => min a (b + c)) x y) := plc_zw hx hy v.ix (fun l a b h1 h2 => by omega) (fun l a b h1 h2 => by omega) (fun a a' b b' l h1 h2 => by omega)
        have p2 : Plc rs bs (zw (fun a b => max (a - c) b) x y) := plc_zw hx hy v.ix (fun l a b h1 h2 => by omega) (fun l a b h1 h2 => by omega) (fun a a' b b' l h1 h2 => by omega)
        rw [e1] at p1
        have h1 := loc _ _ gg p1
        rw [← e1] at h1
        have h2 := ih _ p2 (by
          have := sum_nat_lt (f := fun j => (pa (zw (fun a b => max (a - c) b) x y) j - pa x j).natAbs) (g := fun j => (pa y j - pa x j).natAbs) x.length (fun j hj => by
            have := hmin j (by omega)
            rw [pa_zw hj (by omega)]
            omega) ⟨k, by omega, by
            rw [pa_zw (by omega) (by omega)]
            omega⟩
          unfold dist at hd ⊢
          omega)
        omega
      · have : y = x := by
          apply ext_pa (by omega)
          intro j hj
          have a := hmax j (by omega)
          have b := hmin j (by omega)
          omega
        rw [this]
        exact Int.le_refl _
/-! ### the strongest slide -/
theorem fold_spec (f : List Int → Option Int) : ∀ (gs : List (List Int)) (b0 : Int × List Int), b0.1 ≤ (gs.foldl (stp f) b0).1 ∧ (∀ g ∈ gs, ∀ w, f g = some w → w ≤ (gs.foldl (stp f) b0).1) ∧
    (gs.foldl (stp f) b0 = b0 ∨ (b0.1 < (gs.foldl (stp f) b0).1 ∧ ∃ pre post, gs = pre ++ (gs.foldl (stp f) b0).2 :: post ∧ f (gs.foldl (stp f) b0).2 = some (gs.foldl (stp f) b0).1 ∧ ∀ g ∈ pre, ∀ w, f g = some w → w < (gs.foldl (stp f) b0).1))
  | [], b0 => ⟨Int.le_refl _, fun g hg => by simp at hg, .inl rfl⟩
  | g :: gs, b0 => by
    rw [List.foldl_cons]
    obtain ⟨h1, h2, h3⟩ := fold_spec f gs (stp f b0 g)
    have a : b0.1 ≤ (stp f b0 g).1 ∧ (∀ w, f g = some w → w ≤ (stp f b0 g).1) ∧ (stp f b0 g = b0 ∨ (b0.1 < (stp f b0 g).1 ∧ (stp f b0 g).2 = g ∧ f g = some (stp f b0 g).1)) := by
      cases hf : f g with
      | none => rw [stp_none hf]; exact ⟨Int.le_refl _, fun w e => (by cases e), .inl rfl⟩
      | some w =>
        by_cases hw : b0.1 < w
        · rw [stp_yes hf hw]
          exact ⟨(by show b0.1 ≤ w; omega), fun w' e => (by cases e; exact Int.le_refl _), .inr ⟨hw, rfl, rfl⟩⟩
        · rw [stp_no hf hw]
          exact ⟨Int.le_refl _, fun w' e => (by cases e; omega), .inl rfl⟩
    obtain ⟨a1, a2, a3⟩ := a
    refine ⟨by omega, fun g' hg' w e => ?_, ?_⟩
    · rcases List.mem_cons.mp hg' with rfl | hg'
      · have := a2 w e; omega
      · exact h2 g' hg' w e
    · rcases h3 with h3 | ⟨h3, pre, post, e1, e2, e3⟩
      · rcases a3 with a3 | ⟨a3, a4, a5⟩
        · exact .inl (h3.trans a3)
        · rw [h3]
          exact .inr ⟨a3, [], gs, by rw [a4]; rfl, by rw [a4]; exact a5, fun g hg => by simp at hg⟩
      · refine .inr ⟨by omega, g :: pre, post, by rw [List.cons_append, ← e1], e2, fun g' hg' w e => ?_⟩
        rcases List.mem_cons.mp hg' with rfl | hg'
        · have := a2 w e; omega
        · exact e3 g' hg' w e
theorem grpsL_sorted (n : Nat) : (grpsL n).Pairwise fun a b => a.length ≤ b.length := by
  have O : SrtO.Swo fun a b : List Int => decide (a.length < b.length) := ⟨fun a b h => by
    have := of_decide_eq_true h
    exact decide_eq_false (by omega), fun a b c h1 h2 => by
    have := of_decide_eq_false h1
    have := of_decide_eq_false h2
    exact decide_eq_false (by omega)⟩
  exact (isort_srtd O (grpT n)).imp fun {a b} h => by
    have := of_decide_eq_false h
    omega
theorem strg_spec (f : List Int → Option Int) (n : Nat) : 0 ≤ (strg f (grpsL n)).1 ∧ (∀ g, Grp n g → ∀ w, f g = some w → w ≤ (strg f (grpsL n)).1) ∧
    (strg f (grpsL n) = (0, []) ∨ (0 < (strg f (grpsL n)).1 ∧ Grp n (strg f (grpsL n)).2 ∧ f (strg f (grpsL n)).2 = some (strg f (grpsL n)).1 ∧ ∀ g, Grp n g → f g = some (strg f (grpsL n)).1 → (strg f (grpsL n)).2.length ≤ g.length)) := by
  obtain ⟨h1, h2, h3⟩ := fold_spec f (grpsL n) (0, [])
  change 0 ≤ (strg f (grpsL n)).1 at h1
  refine ⟨h1, fun g hg w e => h2 g (grpsL_mem.mpr hg) w e, ?_⟩
  rcases h3 with h3 | ⟨h3, pre, post, e1, e2, e3⟩
  · exact .inl h3
  · change grpsL n = pre ++ (strg f (grpsL n)).2 :: post at e1
    have hin : (strg f (grpsL n)).2 ∈ grpsL n := by
      generalize (strg f (grpsL n)).2 = z at e1 ⊢
      rw [e1]
      simp
    refine .inr ⟨h3, grpsL_mem.mp hin, e2, fun g hg e => ?_⟩
    have hm := grpsL_mem.mpr hg
    have hs := grpsL_sorted n
    generalize hz2 : (strg f (grpsL n)).2 = z2 at e1 ⊢
    rw [e1] at hm hs
    rcases List.mem_append.mp hm with z | z
    · have := e3 g z _ e
      change (strg f (grpsL n)).1 < (strg f (grpsL n)).1 at this
      omega
    · rcases List.mem_cons.mp z with rfl | z
      · exact Nat.le_refl _
      · exact (List.pairwise_cons.mp (List.pairwise_append.mp hs).2.1).1 g z
theorem eql_iff {rs : List Ring} {cs : List Cord} {bs : List Bar} {x : List Int} (v : VRig rs cs bs) (hx : Plc rs bs x) : eqlB rs cs bs x = true ↔ ∀ y, Plc rs bs y → enL rs cs x ≤ enL rs cs y := by
  have e : eqlB rs cs bs x = true ↔ ∀ rt, strg (fun g => frcO rs cs bs x g rt) (grpsL rs.length) = (0, []) := by
    unfold eqlB
    simp only [List.all_cons, List.all_nil, Bool.and_true, Bool.and_eq_true, decide_eq_true_eq]
    exact ⟨fun h rt => by cases rt; exact h.1; exact h.2, fun h => ⟨h false, h true⟩⟩
  rw [e]
  constructor
  · intro h y hy
    refine local_min v hx (fun g rt hg hp => ?_) (dist x y) y hy (Nat.le_refl _)
    obtain ⟨_, h2, _⟩ := strg_spec (fun g => frcO rs cs bs x g rt) rs.length
    have := h2 g hg _ (by
      show frcO rs cs bs x g rt = _
      rw [frcO_eq v hx hg.2.1 hg.2.2, if_pos (plcB_iff.mpr hp)])
    rw [h rt] at this
    omega
  · intro h rt
    obtain ⟨_, _, h3⟩ := strg_spec (fun g => frcO rs cs bs x g rt) rs.length
    rcases h3 with h3 | ⟨h3, hg, e2, _⟩
    · exact h3
    · exfalso
      have e2 : frcO rs cs bs x (strg (fun g => frcO rs cs bs x g rt) (grpsL rs.length)).2 rt = some (strg (fun g => frcO rs cs bs x g rt) (grpsL rs.length)).1 := e2
      rw [frcO_eq v hx hg.2.1 hg.2.2] at e2
      split at e2
      · next hp =>
        have := h _ (plcB_iff.mp hp)
        have := Option.some.inj e2
        omega
      · cases e2
/-! ### unions and common rings -/
def uniG (n : Nat) (a b : List Int) : List Int := grpOf n fun i => decide ((i : Int) ∈ a) || decide ((i : Int) ∈ b)
def intG (n : Nat) (a b : List Int) : List Int := grpOf n fun i => decide ((i : Int) ∈ a) && decide ((i : Int) ∈ b)
theorem sub_mod {rs : List Ring} {cs : List Cord} {bs : List Bar} {x a b : List Int} {rt : Bool} (v : VRig rs cs bs) (xl : x.length = rs.length) (ha : Plc rs bs (mv a rt 1 x)) (hb : Plc rs bs (mv b rt 1 x)) :
    Plc rs bs (mv (uniG rs.length a b) rt 1 x) ∧ Plc rs bs (mv (intG rs.length a b) rt 1 x) ∧ enL rs cs (mv (uniG rs.length a b) rt 1 x) + enL rs cs (mv (intG rs.length a b) rt 1 x) ≤ enL rs cs (mv a rt 1 x) + enL rs cs (mv b rt 1 x) := by
  have la : (mv a rt 1 x).length = rs.length := by rw [mv_len, xl]
  have lb : (mv b rt 1 x).length = rs.length := by rw [mv_len, xl]
  have e1 : zw max (mv a rt 1 x) (mv b rt 1 x) = if rt then mv (uniG rs.length a b) rt 1 x else mv (intG rs.length a b) rt 1 x := by
    cases rt with
    | true =>
      rw [if_pos rfl]
      apply ext_pa (by rw [zw_len (by omega), mv_len, mv_len])
      intro i hi
      rw [zw_len (by omega), mv_len] at hi
      rw [pa_zw (by omega) (by omega), pa_mv hi, pa_mv hi, pa_mv hi]
      have : ((i : Int) ∈ uniG rs.length a b) ↔ ((i : Int) ∈ a ∨ (i : Int) ∈ b) := by
        unfold uniG
        rw [grpOf_mem]
        simp only [Bool.or_eq_true, decide_eq_true_eq]
        exact ⟨fun z => z.2, fun z => ⟨by omega, z⟩⟩
      show max (if (i : Int) ∈ a then pa x i + 1 else pa x i) (if (i : Int) ∈ b then pa x i + 1 else pa x i) = if (i : Int) ∈ uniG rs.length a b then pa x i + 1 else pa x i
      by_cases h1 : (i : Int) ∈ a <;> by_cases h2 : (i : Int) ∈ b <;> simp only [this, h1, h2, if_true, if_false, or_true, true_or, or_false, false_or] <;> omega
    | false =>
      rw [if_neg Bool.false_ne_true]
      apply ext_pa (by rw [zw_len (by omega), mv_len, mv_len])
      intro i hi
      rw [zw_len (by omega), mv_len] at hi
      rw [pa_zw (by omega) (by omega), pa_mv hi, pa_mv hi, pa_mv hi]
      have : ((i : Int) ∈ intG rs.length a b) ↔ ((i : Int) ∈ a ∧ (i : Int) ∈ b) := by
        unfold intG
        rw [grpOf_mem]
        simp only [Bool.and_eq_true, decide_eq_true_eq]
        exact ⟨fun z => z.2, fun z => ⟨by omega, z⟩⟩
      show max (if (i : Int) ∈ a then pa x i + (0 - 1) else pa x i) (if (i : Int) ∈ b then pa x i + (0 - 1) else pa x i) = if (i : Int) ∈ intG rs.length a b then pa x i + (0 - 1) else pa x i
      by_cases h1 : (i : Int) ∈ a <;> by_cases h2 : (i : Int) ∈ b <;> simp only [this, h1, h2, if_true, if_false, and_true, true_and, and_false, false_and] <;> omega
  have e2 : zw min (mv a rt 1 x) (mv b rt 1 x) = if rt then mv (intG rs.length a b) rt 1 x else mv (uniG rs.length a b) rt 1 x := by
    cases rt with
    | true =>
      rw [if_pos rfl]
      apply ext_pa (by rw [zw_len (by omega), mv_len, mv_len])
      intro i hi
      rw [zw_len (by omega), mv_len] at hi
      rw [pa_zw (by omega) (by omega), pa_mv hi, pa_mv hi, pa_mv hi]
      have : ((i : Int) ∈ intG rs.length a b) ↔ ((i : Int) ∈ a ∧ (i : Int) ∈ b) := by
        unfold intG
        rw [grpOf_mem]
        simp only [Bool.and_eq_true, decide_eq_true_eq]
        exact ⟨fun z => z.2, fun z => ⟨by omega, z⟩⟩
      show min (if (i : Int) ∈ a then pa x i + 1 else pa x i) (if (i : Int) ∈ b then pa x i + 1 else pa x i) = if (i : Int) ∈ intG rs.length a b then pa x i + 1 else pa x i
      by_cases h1 : (i : Int) ∈ a <;> by_cases h2 : (i : Int) ∈ b <;> simp only [this, h1, h2, if_true, if_false, and_true, true_and, and_false, false_and] <;> omega
    | false =>
      rw [if_neg Bool.false_ne_true]
      apply ext_pa (by rw [zw_len (by omega), mv_len, mv_len])
      intro i hi
      rw [zw_len (by omega), mv_len] at hi
      rw [pa_zw (by omega) (by omega), pa_mv hi, pa_mv hi, pa_mv hi]
      have : ((i : Int) ∈ uniG rs.length a b) ↔ ((i : Int) ∈ a ∨ (i : Int) ∈ b) := by
        unfold uniG
        rw [grpOf_mem]
        simp only [Bool.or_eq_true, decide_eq_true_eq]
        exact ⟨fun z => z.2, fun z => ⟨by omega, z⟩⟩
      show min (if (i : Int) ∈ a then pa x i + (0 - 1) else pa x i) (if (i : Int) ∈ b then pa x i + (0 - 1) else pa x i) = if (i : Int) ∈ uniG rs.length a b then pa x i + (0 - 1) else pa x i
      by_cases h1 : (i : Int) ∈ a <;> by_cases h2 : (i : Int) ∈ b <;> simp only [this, h1, h2, if_true, if_false, or_true, true_or, or_false, false_or] <;> omega
  have p1 : Plc rs bs (zw max (mv a rt 1 x) (mv b rt 1 x)) := plc_zw ha hb v.ix (fun l a b h1 h2 => by omega) (fun l a b h1 h2 => by omega) (fun a a' b b' l h1 h2 => by omega)
  have p2 : Plc rs bs (zw min (mv a rt 1 x) (mv b rt 1 x)) := plc_zw ha hb v.ix (fun l a b h1 h2 => by omega) (fun l a b h1 h2 => by omega) (fun a a' b b' l h1 h2 => by omega)
  have ecv := en_cvx pw_mm (rs := rs) (cs := cs) (x := mv a rt 1 x) (y := mv b rt 1 x) (by omega) (v.e la)
  cases rt with
  | true =>
    simp only [if_true] at e1 e2
    rw [e1] at p1 ecv
    rw [e2] at p2 ecv
    exact ⟨p1, p2, by omega⟩
  | false =>
    simp only [Bool.false_eq_true, if_false] at e1 e2
    rw [e1] at p1 ecv
    rw [e2] at p2 ecv
    exact ⟨p2, p1, by omega⟩
end Tg
/-! Balanced rigs: their tensions support their positions; the closed table of the rules holds what they support. -/
namespace Tg
open PySem PySem.Spec PyProof.Rows L2
theorem Bal.sup {most : Int} {qs : List Spot} {rs : List Ring} {cs : List (Cord × Int)} {bs : List (Bar × Int)} (h : Bal most qs rs cs bs) : Sup rs cs bs (qs.map Spot.p) := by
  have hl : (qs.map Spot.p).length = rs.length := by rw [List.length_map, h.rl]
  refine ⟨fun q hq => ?_, fun q hq => ?_, fun k hk => ?_⟩
  · obtain ⟨_, t0, t1, t2, t3⟩ := h.cord q hq
    refine ⟨⟨t0, t1⟩, fun hc => ?_, fun hc => ?_⟩
    · apply Classical.byContradiction
      intro hn
      have := t3 (by omega)
      omega
    · apply Classical.byContradiction
      intro hn
      have := t2 (by omega)
      omega
  · obtain ⟨_, t0, t1, t2, t3⟩ := h.bar q hq
    refine ⟨t0, fun hc => ?_⟩
    apply Classical.byContradiction
    intro hn
    have := t3 (by omega)
    omega
  · have hq : k < qs.length := by rw [← h.rl]; exact hk
    obtain ⟨e1, e2, x, x0, x1, e3, u1, u2⟩ := h.ring k hq hk
    have er : pa (resL rs (lnL cs bs)) k = x := by
      rw [pa_resL hk, pa_map hk, e3]
      omega
    have ep : pa (qs.map Spot.p) k = qs[k].p := pa_map hq
    have el : pa (losL rs) k = rs[k].lo := by unfold losL; rw [pa_map hk]
    have eh : pa (hisL rs) k = rs[k].hi := by unfold hisL; rw [pa_map hk]
    rw [er, ep, el, eh, e1, e2]
    exact ⟨fun hx => by have := u2 hx; omega, fun hx => by have := u1 hx; omega⟩
/-- the tensions of a balanced rig in their ranges -/
theorem Bal.tn {most : Int} {qs : List Spot} {rs : List Ring} {cs : List (Cord × Int)} {bs : List (Bar × Int)} (h : Bal most qs rs cs bs) : (∀ q ∈ cs, 0 ≤ q.2 ∧ q.2 ≤ q.1.w) ∧ ∀ q ∈ bs, 0 ≤ q.2 :=
  ⟨fun q hq => (h.sup.cord q hq).1, fun q hq => (h.sup.bar q hq).1⟩
theorem Bal.cix {most : Int} {qs : List Spot} {rs : List Ring} {cs : List (Cord × Int)} {bs : List (Bar × Int)} (h : Bal most qs rs cs bs) : (∀ q ∈ cs, CIx rs.length q.1) ∧ ∀ q ∈ bs, BIx rs.length q.1 :=
  ⟨fun q hq => by rw [h.rl]; exact (h.cord q hq).1.1, fun q hq => by rw [h.rl]; exact (h.bar q hq).1.1⟩
theorem keeps_sup {rs : List Ring} {cs : List (Cord × Int)} {bs : List (Bar × Int)} (v : VRig rs (cs.map (·.1)) (bs.map (·.1))) (tc : ∀ q ∈ cs, 0 ≤ q.2 ∧ q.2 ≤ q.1.w) (tb : ∀ q ∈ bs, 0 ≤ q.2) {T0 T : Tab} (t : RulT rs cs bs T0 T) {x : List Int} (hl : x.length = rs.length) :
    Keeps (rs.length + 1) T (nodes x) ↔ Plc rs (bs.map (·.1)) x ∧ Sup rs cs bs x := by
  rw [t.kp, t.lim.plc v hl]
  have e0 := nodes_end hl
  constructor
  · rintro ⟨h1, h2, h3, h4⟩
    refine ⟨h1, fun q hq => ⟨tc q hq, fun h => ?_, fun h => ?_⟩, fun q hq => ⟨tb q hq, fun h => ?_⟩, fun k hk => ⟨fun h => ?_, fun h => ?_⟩⟩
    · exact (h2 q hq).1 h
    · have := (h2 q hq).2 h
      show q.1.len ≤ nodes x q.1.b.toNat - nodes x q.1.a.toNat
      omega
    · have := h3 q hq h
      show q.1.len ≤ nodes x q.1.b.toNat - nodes x q.1.a.toNat
      omega
    · have := (h4 k hk).1 h
      rw [e0] at this
      show nodes x k ≤ _
      omega
    · have := (h4 k hk).2 h
      rw [e0] at this
      show _ ≤ nodes x k
      omega
  · rintro ⟨h1, S⟩
    refine ⟨h1, fun q hq => ⟨fun h => ?_, fun h => ?_⟩, fun q hq h => ?_, fun k hk => ⟨fun h => ?_, fun h => ?_⟩⟩
    · exact (S.cord q hq).2.1 h
    · have : q.1.len ≤ nodes x q.1.b.toNat - nodes x q.1.a.toNat := (S.cord q hq).2.2 h
      omega
    · have : q.1.len ≤ nodes x q.1.b.toNat - nodes x q.1.a.toNat := (S.bar q hq).2 h
      omega
    · have : nodes x k ≤ _ := (S.ring k hk).1 h
      rw [e0]
      omega
    · have : _ ≤ nodes x k := (S.ring k hk).2 h
      rw [e0]
      omega
/-- the rail's bounds in a closed table -/
structure TabOk (rs : List Ring) (cs : List (Cord × Int)) (bs : List (Bar × Int)) (C : Tab) : Prop where
  cl : Closed (rs.length + 1) C
  kp : ∀ x : List Int, x.length = rs.length → (Keeps (rs.length + 1) C (nodes x) ↔ Plc rs (bs.map (·.1)) x ∧ Sup rs cs bs x)
  rail : ∀ k, k < rs.length → ta C rs.length k ≤ 1000000000000 ∧ ta C k rs.length ≤ 1000000000000
section
variable {F : String → Option Fn}
theorem bal_tab (hM : F "_law_limits" = some ⟨1, 12, b_l_limits⟩ := by first | assumption | rfl) (hL : F "_law_left_forces" = some ⟨2, 8, b_l_left_forces⟩ := by first | assumption | rfl) (hU : F "_law_rules" = some ⟨2, 11, b_l_rules⟩ := by first | assumption | rfl) (hC : F "_law_closure" = some ⟨1, 7, b_l_closure⟩ := by first | assumption | rfl) (n : Nat) {most : Int} {qs : List Spot} {rs : List Ring} {cs : List (Cord × Int)} {bs : List (Bar × Int)} (B : Bal most qs rs cs bs) (s : Dr) (o : Sto) :
    ∃ (L : Nat) (st2 tg : Sto) (C : Tab), callN F (n + 2) "_law_rules" [rigD rs (cs.map (·.1)) (bs.map (·.1)), .tup [plcD (cs.map (·.2)), plcD (bs.map (·.2))]] (mkSt s o) = some (.loc L, st2) ∧ callN F (n + 2) "_law_closure" [.loc L] st2 = some (.tup (C.map plcD), mkSt s (o ++ tg)) ∧ TabOk rs cs bs C := by
  have v := B.v
  have r2 := v.r2
  have hlh : ∀ k, k < rs.length → pa (losL rs) k ≤ pa (hisL rs) k := fun k hk => by
    have := v.ring rs[k] (List.getElem_mem hk)
    unfold hisL losL
    rw [pa_map hk, pa_map hk]
    omega
  obtain ⟨T0, T, g2, k2, t⟩ := rules_spec hM hL hU n (rs := rs) (cs := cs) (bs := bs) r2 (fun q hq => by rw [B.rl]; exact ⟨(B.cord q hq).1.1, (B.cord q hq).1.2.1⟩) (fun q hq => by rw [B.rl]; exact ⟨(B.bar q hq).1.1, (B.bar q hq).1.2.1⟩) hlh (mkSt s o)
  obtain ⟨g3, k3⟩ := closure_specG hC (n + 1) t.sq (by omega) (mkSt s o) g2
  have pl : (qs.map Spot.p).length = rs.length := by rw [List.length_map, B.rl]
  have ks := fun {x : List Int} (hl : x.length = rs.length) => keeps_sup v B.tn.1 B.tn.2 t hl
  have kp := (ks pl).mpr ⟨B.plc, B.sup⟩
  obtain ⟨cl, ck⟩ := closeT_ok t.sq t.dg kp
  obtain ⟨tg, htg⟩ : ∃ tg, tabSt (mkSt s o) (rs.length + 1) T ++ g2 ++ g3 = mkSt s (o ++ tg) := ⟨rowsC T ++ [locsD (mkSt s o).length (rs.length + 1)] ++ g2 ++ g3, by
    unfold tabSt
    simp only [mk_ap, List.append_assoc]⟩
  rw [htg] at k3
  refine ⟨_, _, tg, _, k2, k3, cl, fun x hl => (ck _).trans (ks hl), fun k hk => ?_⟩
  have a := close_le (List.range (rs.length + 1)) T (fun k hk => List.mem_range.mp hk) t.sq t.dg _ kp rs.length k (by omega) (by omega)
  have b := close_le (List.range (rs.length + 1)) T (fun k hk => List.mem_range.mp hk) t.sq t.dg _ kp k rs.length (by omega) (by omega)
  obtain ⟨e1, e2⟩ := t.rl k hk
  have := v.ring rs[k] (List.getElem_mem hk)
  unfold hisL at e1
  unfold losL at e2
  rw [pa_map hk] at e1 e2
  unfold closeT
  omega
end
/-- pointwise operations keep a table's bounds -/
theorem keeps_zw {n : Nat} {C : Tab} {x y : List Int} {f : Int → Int → Int} (xl : x.length = n) (yl : y.length = n) (hx : Keeps (n + 1) C (nodes x)) (hy : Keeps (n + 1) C (nodes y)) (h0 : ∀ l a b, a ≤ l → b ≤ l → f a b ≤ l) (h1 : ∀ l a b, l ≤ a → l ≤ b → l ≤ f a b) (h3 : ∀ a a' b b' l, b - a ≤ l → b' - a' ≤ l → f b b' - f a a' ≤ l) : Keeps (n + 1) C (nodes (zw f x y)) := by
  have zl : (zw f x y).length = n := by rw [zw_len (by omega), xl]
  have e : ∀ i, i < n → nodes (zw f x y) i = f (nodes x i) (nodes y i) := fun i hi => pa_zw (by omega) (by omega)
  intro a b ha hb
  have u := hx a b ha hb
  have w := hy a b ha hb
  by_cases ea : a = n
  · subst ea
    rw [nodes_end zl]
    rw [nodes_end xl] at u
    rw [nodes_end yl] at w
    by_cases eb : b = a
    · subst eb
      rw [nodes_end zl]
      rw [nodes_end xl] at u
      exact u
    · rw [e b (by omega)]
      have := h0 (ta C a b) (nodes x b) (nodes y b) (by omega) (by omega)
      omega
  · by_cases eb : b = n
    · subst eb
      rw [nodes_end zl, e a (by omega)]
      rw [nodes_end xl] at u
      rw [nodes_end yl] at w
      have := h1 (-(ta C a b)) (nodes x a) (nodes y a) (by omega) (by omega)
      omega
    · rw [e a (by omega), e b (by omega)]
      exact h3 _ _ _ _ _ u w
end Tg
/-! The law's own look whether tensions support a placement. -/
namespace Tg
open PySem PySem.Spec PyProof.Rows L2
-- lib _law_tensions_fit 5b20da b_l_tensions_fit 3 12
noncomputable def b_l_tensions_fit_f1 (C : Orc) : DS := (sSeq (sIf (bOr (bVal (eOp oLt (eVar 5) (eOp oMul (eOp oIx (eVar 3) (eC (.int 3))) (eBlt gInt (aCons (eOp oGt (eVar 4) (eOp oIx (eVar 3) (eC (.int 2)))) aNil))))) (bVal (eOp oGt (eVar 5) (eOp oMul (eOp oIx (eVar 3) (eC (.int 3))) (eBlt gInt (aCons (eOp oGe (eVar 4) (eOp oIx (eVar 3) (eC (.int 2)))) aNil)))))) (sSeq (sRet (eC (.bl false)))
    sNil) sNil)
    sNil)
noncomputable def b_l_tensions_fit_f2 (C : Orc) : DS := (sSeq (sIf (bOr (bVal (eOp oLt (eVar 5) (eC (.int 0)))) (bAnd (bVal (eOp oLt (eVar 4) (eOp oIx (eVar 6) (eC (.int 2))))) (bVal (eOp oGt (eVar 5) (eC (.int 0)))))) (sSeq (sRet (eC (.bl false)))
    sNil) sNil)
    sNil)
noncomputable def b_l_tensions_fit_f3 (C : Orc) : DS := (sSeq (sIf (bOr (bAnd (bVal (eOp oLt (eVar 11) (eC (.int 0)))) (bVal (eOp oNe (eVar 10) (eVar 7)))) (bAnd (bVal (eOp oGt (eVar 11) (eC (.int 0)))) (bVal (eOp oNe (eVar 10) (eVar 8))))) (sSeq (sRet (eC (.bl false)))
    sNil) sNil)
    sNil)
noncomputable def b_l_tensions_fit (C : Orc) : DS := (sSeq (sFor (iZip3 (eOp oIx (eVar 0) (eC (.int 1))) (eCall C "_law_stretches" (aCons (eOp oIx (eVar 0) (eC (.int 1))) (aCons (eVar 1) aNil))) (eOp oIx (eVar 2) (eC (.int 0)))) (gT 3 (gsCons (gN 3) (gsCons (gN 4) (gsCons (gN 5) gsNil)))) (b_l_tensions_fit_f1 C))
    (sSeq (sFor (iZip3 (eOp oIx (eVar 0) (eC (.int 2))) (eCall C "_law_stretches" (aCons (eOp oIx (eVar 0) (eC (.int 2))) (aCons (eVar 1) aNil))) (eOp oIx (eVar 2) (eC (.int 1)))) (gT 3 (gsCons (gN 6) (gsCons (gN 4) (gsCons (gN 5) gsNil)))) (b_l_tensions_fit_f2 C))
    (sSeq (sFor (iZip3 (eOp oIx (eVar 0) (eC (.int 0))) (eVar 1) (eCall C "_law_left_forces" (aCons (eVar 0) (aCons (eVar 2) aNil)))) (gT 3 (gsCons (gT 3 (gsCons (gN 7) (gsCons (gN 8) (gsCons (gN 9) gsNil)))) (gsCons (gN 10) (gsCons (gN 11) gsNil)))) (b_l_tensions_fit_f3 C))
    (sSeq (sRet (eC (.bl true)))
    sNil))))

def cFit (x : List Int) (q : Cord × Int) : Bool := decide ((if q.1.len < gap x q.1.a q.1.b then q.1.w else 0) ≤ q.2) && decide (q.2 ≤ if q.1.len ≤ gap x q.1.a q.1.b then q.1.w else 0)
def bFit (x : List Int) (q : Bar × Int) : Bool := decide (0 ≤ q.2) && !(decide (gap x q.1.a q.1.b < q.1.len) && decide (0 < q.2))
def rFit (q : (Ring × Int) × Int) : Bool := !((decide (q.2 < 0) && !decide (q.1.2 = q.1.1.lo)) || (decide (0 < q.2) && !decide (q.1.2 = q.1.1.hi)))
def supB (rs : List Ring) (cs : List (Cord × Int)) (bs : List (Bar × Int)) (x : List Int) : Bool := cs.all (cFit x) && (bs.all (bFit x) && ((rs.zip x).zip (resL rs (lnL cs bs))).all rFit)
theorem for_testC {α : Type} {chk : Sto → Bool} {tg : DG} {body : DS} (f : α → D) (p : α → Bool) (E : En → Prop) {st : Sto} (hc : chk st = true) : ∀ (xs : List α) (env : En), E env →
    (∀ x ∈ xs, ∀ env, E env → ∃ e, tg (f x) env st = some (e, st) ∧ (p x = true → ∃ e2, body e st = some (.nx e2, st) ∧ E e2) ∧ (p x = false → body e st = some (.rt (.bl false), st))) →
    (xs.all p = true ∧ ∃ env', forL chk tg body (xs.map f) env st = some (.nx env', st) ∧ E env') ∨ (xs.all p = false ∧ forL chk tg body (xs.map f) env st = some (.rt (.bl false), st))
  | [], env, h, _ => .inl ⟨rfl, env, by rw [List.map_nil]; unfold forL; rw [hc]; rfl, h⟩
  | x :: xs, env, h, step => by
    obtain ⟨e, h1, h2, h3⟩ := step x List.mem_cons_self env h
    rw [List.map_cons, List.all_cons]
    unfold forL
    rw [hc, if_pos rfl, h1]
    cases hp : p x with
    | true =>
      obtain ⟨e2, h4, h5⟩ := h2 hp
      have ih := for_testC f p E hc xs e2 h5 fun y hy => step y (List.mem_cons_of_mem _ hy)
      simp only [Option.bind_some, h4, Bool.true_and]
      exact ih
    | false =>
      simp only [Option.bind_some, h3 hp, Bool.false_and]
      exact .inr ⟨trivial, trivial⟩
theorem tri_map {α : Type} (f g h : α → D) : ∀ xs : List α, triD (xs.map f) (xs.map g) (xs.map h) = xs.map fun x => .tup [f x, g x, h x]
  | [] => rfl
  | x :: xs => by
    rw [List.map_cons, List.map_cons, List.map_cons, List.map_cons, ← tri_map f g h xs]
    rfl
theorem tri_zip : ∀ (rs : List Ring) (x r : List Int), triD (rs.map ringD) (x.map D.int) (r.map D.int) = ((rs.zip x).zip r).map fun q => .tup [ringD q.1.1, .int q.1.2, .int q.2]
  | [], _, _ => by simp [triD]
  | _ :: _, [], _ => by simp [triD]
  | _ :: _, _ :: _, [] => by simp [triD]
  | a :: rs, b :: x, c :: r => by
    rw [List.map_cons, List.map_cons, List.map_cons, List.zip_cons_cons, List.zip_cons_cons, List.map_cons, ← tri_zip rs x r]
    rfl
section
variable {F : String → Option Fn}
set_option maxHeartbeats 8000000 in
theorem tfit_spec (hS : F "_law_stretches" = some ⟨2, 3, b_l_stretches⟩ := by first | assumption | rfl) (hL : F "_law_left_forces" = some ⟨2, 8, b_l_left_forces⟩ := by first | assumption | rfl) (hT : F "_law_tensions_fit" = some ⟨3, 12, b_l_tensions_fit⟩ := by first | assumption | rfl) (n : Nat) {rs : List Ring} {cs : List (Cord × Int)} {bs : List (Bar × Int)} {x : List Int}
    (v : VRig rs (cs.map (·.1)) (bs.map (·.1))) (xl : x.length = rs.length) (st : Sto) :
    ∃ g, callN F (n + 2) "_law_tensions_fit" [rigD rs (cs.map (·.1)) (bs.map (·.1)), plcD x, .tup [plcD (cs.map (·.2)), plcD (bs.map (·.2))]] st = some (.bl (supB rs cs bs x), st ++ g) := by
  have cix : ∀ q ∈ cs, CIx rs.length q.1 := fun q hq => (v.cord q.1 (List.mem_map.mpr ⟨q, hq, rfl⟩)).1
  have bix : ∀ q ∈ bs, BIx rs.length q.1 := fun q hq => (v.bar q.1 (List.mem_map.mpr ⟨q, hq, rfl⟩)).1
  have cw : ∀ q ∈ cs, 1 ≤ q.1.w ∧ q.1.w ≤ 1000000000 := fun q hq => by
    have := (v.cord q.1 (List.mem_map.mpr ⟨q, hq, rfl⟩)).2.2.2.2
    exact this
  have k1 := lstretches_cords hS n (y := x) (bs := cs.map (·.1)) (fun c hc => by
    obtain ⟨q, hq, rfl⟩ := List.mem_map.mp hc
    rw [xl]
    exact cix q hq) st
  have k2 := lstretches_bars hS n (y := x) (bs := bs.map (·.1)) (fun c hc => by
    obtain ⟨q, hq, rfl⟩ := List.mem_map.mp hc
    rw [xl]
    exact bix q hq) st
  have k3 := left_spec hL n (rs := rs) (cs := cs) (bs := bs) (by
    intro l hl
    unfold lnL at hl
    rcases List.mem_append.mp hl with h | h
    · obtain ⟨q, hq, rfl⟩ := List.mem_map.mp h
      exact cix q hq
    · obtain ⟨q, hq, rfl⟩ := List.mem_map.mp h
      exact bix q hq) st
  generalize hR : rigD rs (cs.map (·.1)) (bs.map (·.1)) = R at *
  generalize hQ : D.tup [plcD (cs.map (·.2)), plcD (bs.map (·.2))] = Q at *
  have u : ∀ (s : Sto) i, oIx s R (.int i) = atI [.tup (rs.map ringD), .tup ((cs.map (·.1)).map cordD), .tup ((bs.map (·.1)).map barD)] i := fun s i => by rw [← hR]; rfl
  have w : ∀ (s : Sto) i, oIx s Q (.int i) = atI [plcD (cs.map (·.2)), plcD (bs.map (·.2))] i := fun s i => by rw [← hQ]; rfl
  have t1 : triD ((cs.map (·.1)).map cordD) (((cs.map (·.1)).map fun c => gap x c.a c.b).map D.int) ((cs.map (·.2)).map D.int) = cs.map fun q => .tup [cordD q.1, .int (gap x q.1.a q.1.b), .int q.2] := by
    rw [List.map_map, List.map_map, List.map_map, List.map_map]
    exact tri_map _ _ _ cs
  have t2 : triD ((bs.map (·.1)).map barD) (((bs.map (·.1)).map fun c => gap x c.a c.b).map D.int) ((bs.map (·.2)).map D.int) = bs.map fun q => .tup [barD q.1, .int (gap x q.1.a q.1.b), .int q.2] := by
    rw [List.map_map, List.map_map, List.map_map, List.map_map]
    exact tri_map _ _ _ bs
  have gi : ∀ (s : Sto) (p : Bool), gInt s [.bl p] = some (.int (if p then 1 else 0)) := fun _ _ => rfl
  have L1 := for_test (tg := gT 3 (gsCons (gN 3) (gsCons (gN 4) (gsCons (gN 5) gsNil)))) (body := b_l_tensions_fit_f1 (callN F (n + 1))) (st := st) (fun q : Cord × Int => D.tup [cordD q.1, .int (gap x q.1.a q.1.b), .int q.2]) (cFit x)
    (fun env => ∃ v3 v4 v5, env = [some R, some (plcD x), some Q, v3, v4, v5, none, none, none, none, none, none]) cs [some R, some (plcD x), some Q, none, none, none, none, none, none, none, none, none] ⟨none, none, none, rfl⟩ (by
      rintro q hq env ⟨v3, v4, v5, rfl⟩
      refine ⟨_, rfl, ?_⟩
      obtain ⟨w1, w2⟩ := cw q hq
      have uc : ∀ i, oIx st (cordD q.1) (.int i) = atI [.int q.1.a, .int q.1.b, .int q.1.len, .int q.1.w] i := fun i => rfl
      have m := fun z : Int => o_mul (s := st) (mulOk_l (a := q.1.w) (b := z) (by omega) (by omega))
      have e1 : q.1.w * (if decide (q.1.len < gap x q.1.a q.1.b) = true then 1 else 0) = if q.1.len < gap x q.1.a q.1.b then q.1.w else 0 := by by_cases h : q.1.len < gap x q.1.a q.1.b <;> simp [h]
      have e2 : q.1.w * (if decide (q.1.len ≤ gap x q.1.a q.1.b) = true then 1 else 0) = if q.1.len ≤ gap x q.1.a q.1.b then q.1.w else 0 := by by_cases h : q.1.len ≤ gap x q.1.a q.1.b <;> simp [h]
      unfold cFit
      generalize hA : (if q.1.len < gap x q.1.a q.1.b then q.1.w else 0) = A at *
      generalize hB : (if q.1.len ≤ gap x q.1.a q.1.b then q.1.w else 0) = B at *
      simp only [b_l_tensions_fit_f1]
      refine ⟨fun hp => ?_, fun hp => ?_⟩
      · simp only [Bool.and_eq_true, decide_eq_true_eq] at hp
        have h1 : ¬ q.2 < A := by omega
        have h2 : ¬ B < q.2 := by omega
        repeat (first | walk_at "ev" | simp only [uc, gi, m, e1, e2, decide_eq_false h1, decide_eq_false h2])
        exact ⟨_, rfl, _, _, _, rfl⟩
      · simp only [Bool.and_eq_false_iff, decide_eq_false_iff_not] at hp
        by_cases h1 : q.2 < A
        · repeat (first | walk_at "ev" | simp only [uc, gi, m, e1, e2, decide_eq_true h1])
        · have h2 : B < q.2 := by omega
          repeat (first | walk_at "ev" | simp only [uc, gi, m, e1, e2, decide_eq_false h1, decide_eq_true h2]))
  have e0 : startE 12 [R, plcD x, Q] = [some R, some (plcD x), some Q, none, none, none, none, none, none, none, none, none] := rfl
  rw [call_eq hT rfl]
  unfold supB
  simp only [e0, b_l_tensions_fit]
  rcases L1 with ⟨a1, env1, l1, v3, v4, v5, rfl⟩ | ⟨a1, l1⟩
  · rw [a1, Bool.true_and]
    have L2 := for_test (tg := gT 3 (gsCons (gN 6) (gsCons (gN 4) (gsCons (gN 5) gsNil)))) (body := b_l_tensions_fit_f2 (callN F (n + 1))) (st := st) (fun q : Bar × Int => D.tup [barD q.1, .int (gap x q.1.a q.1.b), .int q.2]) (bFit x)
      (fun env => ∃ v4 v5 v6, env = [some R, some (plcD x), some Q, v3, v4, v5, v6, none, none, none, none, none]) bs [some R, some (plcD x), some Q, v3, v4, v5, none, none, none, none, none, none] ⟨_, _, _, rfl⟩ (by
        rintro q hq env ⟨v4, v5, v6, rfl⟩
        refine ⟨_, rfl, ?_⟩
        have uc : ∀ i, oIx st (barD q.1) (.int i) = atI [.int q.1.a, .int q.1.b, .int q.1.len] i := fun i => rfl
        unfold bFit
        simp only [b_l_tensions_fit_f2]
        by_cases h0 : 0 ≤ q.2
        · have h1 : ¬ q.2 < 0 := by omega
          by_cases h2 : gap x q.1.a q.1.b < q.1.len
          · by_cases h3 : 0 < q.2
            · refine ⟨fun hp => ?_, fun hp => ?_⟩
              · simp [h0, h2, h3] at hp
              · repeat (first | walk_at "ev" | simp only [uc, decide_eq_false h1, decide_eq_true h2, decide_eq_true h3])
            · refine ⟨fun hp => ?_, fun hp => ?_⟩
              · repeat (first | walk_at "ev" | simp only [uc, decide_eq_false h1, decide_eq_true h2, decide_eq_false h3])
                exact ⟨_, rfl, _, _, _, rfl⟩
              · simp [h0, h2, h3] at hp
          · refine ⟨fun hp => ?_, fun hp => ?_⟩
            · repeat (first | walk_at "ev" | simp only [uc, decide_eq_false h1, decide_eq_false h2])
              exact ⟨_, rfl, _, _, _, rfl⟩
            · simp [h0, h2] at hp
        · have h1 : q.2 < 0 := by omega
          refine ⟨fun hp => ?_, fun hp => ?_⟩
          · simp [h0] at hp
          · repeat (first | walk_at "ev" | simp only [uc, decide_eq_true h1]))
    rcases L2 with ⟨a2, env2, l2, v4', v5', v6', rfl⟩ | ⟨a2, l2⟩
    · rw [a2, Bool.true_and]
      have chk : both always (both always (unchanged st.length ((resL rs (lnL cs bs)).map D.int))) (st ++ [(resL rs (lnL cs bs)).map D.int]) = true := by
        show (true && (true && unchanged st.length _ _)) = true
        rw [Bool.true_and, Bool.true_and]
        exact unchanged_iff.mpr (by rw [List.getElem?_append_right (Nat.le_refl _), Nat.sub_self]; rfl)
      have zs : zip3Src (st ++ [(resL rs (lnL cs bs)).map D.int]) (.tup (rs.map ringD)) (plcD x) (.loc st.length) = some (both always (both always (unchanged st.length ((resL rs (lnL cs bs)).map D.int))), ((rs.zip x).zip (resL rs (lnL cs bs))).map fun q => .tup [ringD q.1.1, .int q.1.2, .int q.2]) := by
        rw [← tri_zip]
        unfold zip3Src
        have : ksrc (st ++ [(resL rs (lnL cs bs)).map D.int]) (.loc st.length) = some (.l, unchanged st.length ((resL rs (lnL cs bs)).map D.int), (resL rs (lnL cs bs)).map D.int) := by
          show (((st ++ [(resL rs (lnL cs bs)).map D.int])[st.length]?).map _) = _
          rw [List.getElem?_append_right (Nat.le_refl _), Nat.sub_self]
          rfl
        rw [this]
        rfl
      have L3 := for_testC (chk := both always (both always (unchanged st.length ((resL rs (lnL cs bs)).map D.int)))) (tg := gT 3 (gsCons (gT 3 (gsCons (gN 7) (gsCons (gN 8) (gsCons (gN 9) gsNil)))) (gsCons (gN 10) (gsCons (gN 11) gsNil)))) (body := b_l_tensions_fit_f3 (callN F (n + 1))) (st := st ++ [(resL rs (lnL cs bs)).map D.int]) (fun q : (Ring × Int) × Int => D.tup [ringD q.1.1, .int q.1.2, .int q.2]) rFit
        (fun env => ∃ v7 v8 v9 v10 v11, env = [some R, some (plcD x), some Q, v3, v4', v5', v6', v7, v8, v9, v10, v11]) chk ((rs.zip x).zip (resL rs (lnL cs bs))) [some R, some (plcD x), some Q, v3, v4', v5', v6', none, none, none, none, none] ⟨_, _, _, _, _, rfl⟩ (by
          rintro q hq env ⟨v7, v8, v9, v10, v11, rfl⟩
          refine ⟨_, rfl, ?_⟩
          unfold rFit
          simp only [b_l_tensions_fit_f3]
          by_cases h0 : q.2 < 0
          · have h1 : ¬ 0 < q.2 := by omega
            by_cases h2 : q.1.2 = q.1.1.lo
            · refine ⟨fun hp => ?_, fun hp => ?_⟩
              · repeat (first | walk_at "ev" | simp only [decide_eq_true h0, decide_eq_true h2, decide_eq_false h1, Bool.not_true])
                exact ⟨_, rfl, _, _, _, _, _, rfl⟩
              · simp [h0, h1, h2] at hp
            · refine ⟨fun hp => ?_, fun hp => ?_⟩
              · simp [h0, h1, h2] at hp
              · repeat (first | walk_at "ev" | simp only [decide_eq_true h0, decide_eq_false h2, Bool.not_false])
          · by_cases h1 : 0 < q.2
            · by_cases h2 : q.1.2 = q.1.1.hi
              · refine ⟨fun hp => ?_, fun hp => ?_⟩
                · repeat (first | walk_at "ev" | simp only [decide_eq_false h0, decide_eq_true h2, decide_eq_true h1, Bool.not_true])
                  exact ⟨_, rfl, _, _, _, _, _, rfl⟩
                · simp [h0, h1, h2] at hp
              · refine ⟨fun hp => ?_, fun hp => ?_⟩
                · simp [h0, h1, h2] at hp
                · repeat (first | walk_at "ev" | simp only [decide_eq_false h0, decide_eq_false h2, decide_eq_true h1, Bool.not_false])
            · refine ⟨fun hp => ?_, fun hp => ?_⟩
              · repeat (first | walk_at "ev" | simp only [decide_eq_false h0, decide_eq_false h1])
                exact ⟨_, rfl, _, _, _, _, _, rfl⟩
              · simp [h0, h1] at hp)
      refine ⟨[(resL rs (lnL cs bs)).map D.int], ?_⟩
      rcases L3 with ⟨a3, env3, l3, v7, v8, v9, v10, v11, rfl⟩ | ⟨a3, l3⟩
      · rw [a3]
        repeat (first | walk_at "ev" | simp only [u, w, k1, k2, k3, t1, t2, l1, l2, zs, l3, e_kfnR])
      · rw [a3]
        repeat (first | walk_at "ev" | simp only [u, w, k1, k2, k3, t1, t2, l1, l2, zs, l3, e_kfnR])
    · rw [a2, Bool.false_and]
      refine ⟨[], ?_⟩
      repeat (first | walk_at "ev" | simp only [u, w, k1, k2, t1, t2, l1, l2, e_kfnR])
      rw [List.append_nil]
  · rw [a1, Bool.false_and]
    refine ⟨[], ?_⟩
    repeat (first | walk_at "ev" | simp only [u, w, k1, t1, l1, e_kfnR])
    rw [List.append_nil]
end
theorem supB_iff {rs : List Ring} {cs : List (Cord × Int)} {bs : List (Bar × Int)} {x : List Int} (v : VRig rs (cs.map (·.1)) (bs.map (·.1))) (hp : Plc rs (bs.map (·.1)) x) : supB rs cs bs x = true ↔ Sup rs cs bs x := by
  unfold supB
  rw [Bool.and_eq_true, Bool.and_eq_true, List.all_eq_true, List.all_eq_true, List.all_eq_true]
  have xl := hp.len
  have rl : (resL rs (lnL cs bs)).length = rs.length := resL_len
  constructor
  · rintro ⟨h1, h2, h3⟩
    refine ⟨fun q hq => ?_, fun q hq => ?_, fun k hk => ?_⟩
    · have := h1 q hq
      have w := (v.cord q.1 (List.mem_map.mpr ⟨q, hq, rfl⟩)).2.2.2.2
      simp only [cFit, Bool.and_eq_true, decide_eq_true_eq] at this
      by_cases a : q.1.len < gap x q.1.a q.1.b
      · rw [if_pos a, if_pos (by omega)] at this
        omega
      · rw [if_neg a] at this
        by_cases b : q.1.len ≤ gap x q.1.a q.1.b
        · rw [if_pos b] at this
          omega
        · rw [if_neg b] at this
          omega
    · have := h2 q hq
      simp only [bFit, Bool.and_eq_true, Bool.not_eq_true', Bool.and_eq_false_iff, decide_eq_true_eq, decide_eq_false_iff_not] at this
      exact ⟨this.1, fun h => by omega⟩
    · have := h3 ((rs[k], x[k]), (resL rs (lnL cs bs))[k]) (by
        rw [List.mem_iff_getElem?]
        exact ⟨k, by rw [List.getElem?_zip_eq_some]; exact ⟨by rw [List.getElem?_zip_eq_some]; exact ⟨List.getElem?_eq_getElem hk, List.getElem?_eq_getElem (by omega)⟩, List.getElem?_eq_getElem (by omega)⟩⟩)
      simp only [rFit, Bool.not_eq_true', Bool.or_eq_false_iff, Bool.and_eq_false_iff, Bool.not_eq_false', decide_eq_true_eq, decide_eq_false_iff_not] at this
      have el : pa (losL rs) k = rs[k].lo := by unfold losL; rw [pa_map hk]
      have eh : pa (hisL rs) k = rs[k].hi := by unfold hisL; rw [pa_map hk]
      rw [pa_get (x := resL rs (lnL cs bs)) (by omega), pa_get (x := x) (by omega), el, eh]
      omega
  · intro S
    refine ⟨fun q hq => ?_, fun q hq => ?_, fun z hz => ?_⟩
    · obtain ⟨⟨a, b⟩, c, d⟩ := S.cord q hq
      simp only [cFit, Bool.and_eq_true, decide_eq_true_eq]
      by_cases e : q.1.len < gap x q.1.a q.1.b
      · rw [if_pos e, if_pos (by omega)]
        omega
      · rw [if_neg e]
        by_cases f : q.1.len ≤ gap x q.1.a q.1.b
        · rw [if_pos f]
          omega
        · rw [if_neg f]
          omega
    · obtain ⟨a, b⟩ := S.bar q hq
      simp only [bFit, Bool.and_eq_true, Bool.not_eq_true', Bool.and_eq_false_iff, decide_eq_true_eq, decide_eq_false_iff_not]
      exact ⟨a, by omega⟩
    · obtain ⟨k, hk⟩ := List.mem_iff_getElem?.mp hz
      obtain ⟨z1, z2⟩ := List.getElem?_zip_eq_some.mp hk
      obtain ⟨z3, z4⟩ := List.getElem?_zip_eq_some.mp z1
      obtain ⟨hr, e1⟩ := List.getElem?_eq_some_iff.mp z3
      obtain ⟨hx, e2⟩ := List.getElem?_eq_some_iff.mp z4
      obtain ⟨hs, e3⟩ := List.getElem?_eq_some_iff.mp z2
      obtain ⟨a, b⟩ := S.ring k hr
      have el : pa (losL rs) k = rs[k].lo := by unfold losL; rw [pa_map hr]
      have eh : pa (hisL rs) k = rs[k].hi := by unfold hisL; rw [pa_map hr]
      have l1 := hp.lo k hr
      have l2 := hp.hi k hr
      rw [pa_get hs, pa_get hx, el, e1, e2, e3] at a
      rw [pa_get hs, pa_get hx, eh, e1, e2, e3] at b
      rw [el, pa_get hx, e1, e2] at l1
      rw [eh, pa_get hx, e1, e2] at l2
      simp only [rFit, Bool.not_eq_true', Bool.or_eq_false_iff, Bool.and_eq_false_iff, Bool.not_eq_false', decide_eq_true_eq, decide_eq_false_iff_not]
      omega
end Tg
namespace W_k13
open PySem PySem.Spec PyProof.Rows L2 Tg
/-! the text of the law by places -/
def topS (i : Nat) : Stmt := PySem.Challenge.pw_tugrings_k13_equilibria_have_least_energ.main.body.getD i (.Pass ⟨0, 0, 0, 0⟩)
noncomputable def b_l_short_rig (C : Orc) : DS := (sSeq (sAsg (eCall C "_law_rig" (aCons (eVar 0) (aCons (eVar 1) (aCons (eC (.int 2)) aNil)))) (gT 2 (gsCons (gN 2) (gsCons (gN 3) gsNil))))
    (sSeq (sAsg (eVar 2) (gT 3 (gsCons (gN 4) (gsCons (gN 5) (gsCons (gN 6) gsNil)))))
    (sSeq (sAsg (eBlt gTuple (aCons (eLc [7, 8, 9] (iSeq (eVar 4)) (gT 3 (gsCons (gN 7) (gsCons (gN 8) (gsCons (gN 9) gsNil)))) bYes (eTup (aCons (eVar 7) (aCons (eVar 8) (aCons (eOp oSub (eOp oMod (eVar 9) (eC (.int 7))) (eC (.int 3))) aNil))))) aNil)) (gN 4))
    (sSeq (sAsg (eBlt gTuple (aCons (eLc [10] (iSeq (eVar 5)) (gN 10) bYes (eOp oAdd (eSl (eVar 10) oNo (oSo (eC (.int 3)))) (eTup (aCons (eOp oAdd (eC (.int 1)) (eOp oMod (eOp oIx (eVar 10) (eC (.int 3))) (eC (.int 4)))) aNil)))) aNil)) (gN 5))
    (sSeq (sRet (eLst (aCons (eTup (aCons (eVar 4) (aCons (eVar 5) (aCons (eVar 6) aNil)))) (aCons (eVar 3) aNil))))
    sNil)))))
noncomputable def b_l_built_cord (C : Orc) : DS := (sSeq (sAsg (eCall C "_law_pair" (aCons (eVar 0) (aCons (eBlt gLen (aCons (eVar 1) aNil)) aNil))) (gT 2 (gsCons (gN 2) (gsCons (gN 3) gsNil))))
    (sSeq (sAsg (eOp oSub (eOp oIx (eVar 1) (eVar 3)) (eOp oIx (eVar 1) (eVar 2))) (gN 4))
    (sSeq (sPar2 5 6 (aCons (eOp oAdd (eC (.int 1)) (eCall C "_law_next" (aCons (eVar 0) (aCons (eC (.int 900)) aNil)))) (aCons (eCall C "_law_amount" (aCons (eVar 0) (aCons (eC (.int 50)) aNil))) aNil)))
    (sSeq (sAsg (eCall C "_law_next" (aCons (eVar 0) (aCons (eC (.int 4)) aNil))) (gN 7))
    (sSeq (sIf (bVal (eOp oEq (eVar 7) (eC (.int 0)))) (sSeq (sRet (eTup (aCons (eTup (aCons (eVar 2) (aCons (eVar 3) (aCons (eOp oAdd (eOp oAdd (eVar 4) (eC (.int 1))) (eVar 6)) (aCons (eVar 5) aNil))))) (aCons (eC (.int 0)) aNil))))
    sNil) sNil)
    (sSeq (sIf (bVal (eOp oEq (eVar 7) (eC (.int 1)))) (sSeq (sRet (eTup (aCons (eTup (aCons (eVar 2) (aCons (eVar 3) (aCons (eOp oSub (eOp oSub (eVar 4) (eC (.int 1))) (eVar 6)) (aCons (eVar 5) aNil))))) (aCons (eVar 5) aNil))))
    sNil) sNil)
    (sSeq (sAsg (eCall C "_law_one" (aCons (eVar 0) (aCons (eLst (aCons (eC (.int 0)) (aCons (eVar 5) (aCons (eCall C "_law_next" (aCons (eVar 0) (aCons (eOp oAdd (eVar 5) (eC (.int 1))) aNil))) aNil)))) aNil))) (gN 8))
    (sSeq (sRet (eTup (aCons (eTup (aCons (eVar 2) (aCons (eVar 3) (aCons (eVar 4) (aCons (eVar 5) aNil))))) (aCons (eVar 8) aNil))))
    sNil))))))))
noncomputable def b_l_built_bar (C : Orc) : DS := (sSeq (sAsg (eCall C "_law_pair" (aCons (eVar 0) (aCons (eBlt gLen (aCons (eVar 1) aNil)) aNil))) (gT 2 (gsCons (gN 2) (gsCons (gN 3) gsNil))))
    (sSeq (sPar2 4 5 (aCons (eOp oSub (eOp oIx (eVar 1) (eVar 3)) (eOp oIx (eVar 1) (eVar 2))) (aCons (eCall C "_law_amount" (aCons (eVar 0) (aCons (eC (.int 50)) aNil))) aNil)))
    (sSeq (sIf (bVal (eOp oEq (eCall C "_law_next" (aCons (eVar 0) (aCons (eC (.int 3)) aNil))) (eC (.int 0)))) (sSeq (sRet (eTup (aCons (eTup (aCons (eVar 2) (aCons (eVar 3) (aCons (eOp oAdd (eOp oAdd (eVar 4) (eC (.int 1))) (eVar 5)) aNil)))) (aCons (eC (.int 0)) aNil))))
    sNil) sNil)
    (sSeq (sRet (eTup (aCons (eTup (aCons (eVar 2) (aCons (eVar 3) (aCons (eVar 4) aNil)))) (aCons (eVar 5) aNil))))
    sNil))))
noncomputable def b_l_built_ring (C : Orc) : DS := (sSeq (sPar2 4 5 (aCons (eOp oSub (eVar 1) (eCall C "_law_amount" (aCons (eVar 0) (aCons (eVar 3) aNil)))) (aCons (eOp oAdd (eVar 1) (eCall C "_law_amount" (aCons (eVar 0) (aCons (eVar 3) aNil)))) aNil)))
    (sSeq (sPar2 6 7 (aCons (eCall C "_law_next" (aCons (eVar 0) (aCons (eC (.int 4)) aNil))) (aCons (eCall C "_law_amount" (aCons (eVar 0) (aCons (eC (.int 20)) aNil))) aNil)))
    (sSeq (sIf (bVal (eOp oEq (eVar 6) (eC (.int 0)))) (sSeq (sRet (eTup (aCons (eVar 1) (aCons (eVar 5) (aCons (eOp oSub (eOp oSub (eC (.int 0)) (eVar 2)) (eVar 7)) aNil)))))
    sNil) sNil)
    (sSeq (sIf (bVal (eOp oEq (eVar 6) (eC (.int 1)))) (sSeq (sRet (eTup (aCons (eVar 4) (aCons (eVar 1) (aCons (eOp oSub (eVar 7) (eVar 2)) aNil)))))
    sNil) sNil)
    (sSeq (sRet (eTup (aCons (eVar 4) (aCons (eVar 5) (aCons (eOp oSub (eC (.int 0)) (eVar 2)) aNil)))))
    sNil)))))
noncomputable def b_l_built_f1 (C : Orc) : DS := (sSeq (sAsg (eOp oAdd (eOp oIx (eVar 6) (eOp oIx (eVar 9) (eC (.int 0)))) (eVar 10)) (gSb (eVar 6) (eOp oIx (eVar 9) (eC (.int 0)))))
    (sSeq (sAsg (eOp oSub (eOp oIx (eVar 6) (eOp oIx (eVar 9) (eC (.int 1)))) (eVar 10)) (gSb (eVar 6) (eOp oIx (eVar 9) (eC (.int 1)))))
    sNil))
noncomputable def b_l_built (C : Orc) : DS := (sSeq (sAsg (eTup (aCons (eOp oAdd (eC (.int 2)) (eCall C "_law_next" (aCons (eVar 0) (aCons (eC (.int 5)) aNil)))) (aCons (eCall C "_law_one" (aCons (eVar 0) (aCons (eLst (aCons (eC (.int 3)) (aCons (eOp oPow (eC (.int 10)) (eC (.int 4))) (aCons (eOp oPow (eC (.int 10)) (eC (.int 11))) aNil)))) aNil))) aNil))) (gT 2 (gsCons (gN 1) (gsCons (gN 2) gsNil))))
    (sSeq (sAsg (eCall C "_law_one" (aCons (eVar 0) (aCons (eLst (aCons (eC (.int 0)) (aCons (eOp oSub (eOp oPow (eC (.int 10)) (eC (.int 12))) (eOp oMul (eC (.int 2)) (eVar 2))) (aCons (eOp oSub (eVar 2) (eOp oPow (eC (.int 10)) (eC (.int 12)))) (aCons (eOp oMul (eC (.int 7)) (eOp oPow (eC (.int 10)) (eC (.int 11)))) aNil))))) aNil))) (gN 3))
    (sSeq (sAsg (eBlt gTuple (aCons (eLc [5] (iRng (aCons (eVar 1) aNil)) (gN 5) bYes (eOp oAdd (eVar 3) (eCall C "_law_amount" (aCons (eVar 0) (aCons (eVar 2) aNil))))) aNil)) (gN 4))
    (sSeq (sAsg (eRepM (eMLst (aCons (eC (.int 0)) aNil)) (eVar 1)) (gN 6))
    (sSeq (sAsg (eLc [5] (iRng (aCons (eCall C "_law_next" (aCons (eVar 0) (aCons (eC (.int 10)) aNil))) aNil)) (gN 5) bYes (eCall C "_law_built_cord" (aCons (eVar 0) (aCons (eVar 4) aNil)))) (gN 7))
    (sSeq (sAsg (eLc [5] (iRng (aCons (eCall C "_law_next" (aCons (eVar 0) (aCons (eC (.int 4)) aNil))) aNil)) (gN 5) bYes (eCall C "_law_built_bar" (aCons (eVar 0) (aCons (eVar 4) aNil)))) (gN 8))
    (sSeq (sFor (iSeq (eOp oAdd (eVar 7) (eVar 8))) (gT 2 (gsCons (gN 9) (gsCons (gN 10) gsNil))) (b_l_built_f1 C))
    (sSeq (sAsg (eBlt gTuple (aCons (eLc [12, 13] (iZip (eVar 4) (eVar 6)) (gT 2 (gsCons (gN 12) (gsCons (gN 13) gsNil))) bYes (eCall C "_law_built_ring" (aCons (eVar 0) (aCons (eVar 12) (aCons (eVar 13) (aCons (eVar 2) aNil)))))) aNil)) (gN 11))
    (sSeq (sRet (eLst (aCons (eTup (aCons (eVar 11) (aCons (eBlt gTuple (aCons (eLc [9] (iSeq (eVar 7)) (gN 9) bYes (eOp oIx (eVar 9) (eC (.int 0)))) aNil)) (aCons (eBlt gTuple (aCons (eLc [14] (iSeq (eVar 8)) (gN 14) bYes (eOp oIx (eVar 14) (eC (.int 0)))) aNil)) aNil)))) (aCons (eVar 4) aNil))))
    sNil)))))))))
noncomputable def b_l_small_right_f1 (C : Orc) : DS := (sSeq (sAsg (eOp oMod (eOp oAdd (eVar 8) (eOp oMul (eC (.int 7)) (eVar 9))) (eBlt gLen (aCons (eVar 4) aNil))) (gN 10))
    (sSeq (sIf (bNot (bVal (eCall C "_law_equal" (aCons (eCall C "is_equilibrium" (aCons (eVar 2) (aCons (eOp oIx (eVar 4) (eVar 10)) aNil))) (aCons (eOp oEq (eOp oIx (eVar 5) (eVar 10)) (eVar 7)) aNil))))) (sSeq (sRet (eC (.bl false)))
    sNil) sNil)
    sNil))
noncomputable def b_l_small_right (C : Orc) : DS := (sSeq (sAsg (eCall C "_law_short_rig" (aCons (eVar 0) (aCons (eVar 1) aNil))) (gT 2 (gsCons (gN 2) (gsCons (gN 3) gsNil))))
    (sSeq (sAsg (eCall C "_law_all" (aCons (eVar 2) aNil)) (gN 4))
    (sSeq (sAsg (eLc [6] (iSeq (eVar 4)) (gN 6) bYes (eCall C "_law_energy" (aCons (eVar 2) (aCons (eVar 6) aNil)))) (gN 5))
    (sSeq (sPar2 7 8 (aCons (eBlt gMinL (aCons (eVar 5) aNil)) (aCons (eCall C "_law_next" (aCons (eVar 0) (aCons (eBlt gLen (aCons (eVar 4) aNil)) aNil))) aNil)))
    (sSeq (sFor (iRng (aCons (eBlt gMin2 (aCons (eC (.int 60)) (aCons (eBlt gLen (aCons (eVar 4) aNil)) aNil))) aNil)) (gN 9) (b_l_small_right_f1 C))
    (sSeq (sRet (eC (.bl true)))
    sNil))))))
noncomputable def b_law_f1 (C : Orc) : DS := (sSeq (sAsg (eCall C "_law_wander" (aCons (eVar 1) (aCons (eVar 3) (aCons (eVar 4) aNil)))) (gN 7))
    (sSeq (sIf (bNot (bVal (eCall C "_law_equal" (aCons (eCall C "is_equilibrium" (aCons (eVar 3) (aCons (eVar 7) aNil))) (aCons (eOp oEq (eCall C "_law_energy" (aCons (eVar 3) (aCons (eVar 7) aNil))) (eVar 5)) aNil))))) (sSeq (sRet (eC (.bl false)))
    sNil) sNil)
    sNil))
noncomputable def b_law_f2 (C : Orc) : DS := (sSeq (sAsg (eCall C "_law_built" (aCons (eVar 1) aNil)) (gT 2 (gsCons (gN 3) (gsCons (gN 4) gsNil))))
    (sSeq (sAsg (eCall C "_law_energy" (aCons (eVar 3) (aCons (eVar 4) aNil))) (gN 5))
    (sSeq (sIf (bVal (eOp oIsNot (eCall C "is_equilibrium" (aCons (eVar 3) (aCons (eVar 4) aNil))) (eC (.bl true)))) (sSeq (sRet (eC (.bl false)))
    sNil) sNil)
    (sSeq (sFor (iRng (aCons (eC (.int 6)) aNil)) (gN 6) (b_law_f1 C))
    sNil))))
noncomputable def b_law (C : Orc) : DS := (sSeq (sAsg (eCall C "_law_draws" (aCons (eVar 0) aNil)) (gN 1))
    (sSeq (sIf (bOr (bNot (bVal (eCall C "_law_small_right" (aCons (eVar 1) (aCons (eC (.int 4)) aNil))))) (bNot (bVal (eCall C "_law_small_right" (aCons (eVar 1) (aCons (eC (.int 3)) aNil)))))) (sSeq (sRet (eC (.bl false)))
    sNil) sNil)
    (sSeq (sFor (iRng (aCons (eC (.int 3)) aNil)) (gN 2) (b_law_f2 C))
    (sSeq (sRet (eC (.bl true)))
    sNil))))
noncomputable def F : String → Option Fn
  | "stretch_of" => some ⟨2, 2, b_stretch_of⟩
  | "unit_of" => some ⟨1, 1, b_unit_of⟩
  | "stretch_change" => some ⟨3, 3, b_stretch_change⟩
  | "can_move" => some ⟨4, 9, b_can_move⟩
  | "cord_force" => some ⟨3, 4, b_cord_force⟩
  | "group_force" => some ⟨4, 8, b_group_force⟩
  | "all_groups" => some ⟨1, 4, b_all_groups⟩
  | "strongest_slide" => some ⟨3, 6, b_strongest_slide⟩
  | "is_equilibrium" => some ⟨2, 3, b_is_equilibrium⟩
  | "_law_draws" => some ⟨1, 3, b_l_draws⟩
  | "_law_next" => some ⟨2, 9, b_l_next⟩
  | "_law_one" => some ⟨2, 2, b_l_one⟩
  | "_law_equal" => some ⟨2, 4, b_l_equal2⟩
  | "_law_integer" => some ⟨3, 3, b_l_integer⟩
  | "_law_amount" => some ⟨2, 3, b_l_amount⟩
  | "_law_pair" => some ⟨2, 3, b_l_pair⟩
  | "_law_rig" => some ⟨3, 17, b_l_rig2⟩
  | "_law_sized" => some ⟨3, 3, b_l_sized⟩
  | "_law_stretches" => some ⟨2, 3, b_l_stretches⟩
  | "_law_is_placement" => some ⟨2, 6, b_l_is_placement⟩
  | "_law_energy" => some ⟨2, 7, b_l_energy⟩
  | "_law_all" => some ⟨1, 8, b_l_all⟩
  | "_law_groups" => some ⟨1, 4, b_l_groups⟩
  | "_law_moved" => some ⟨3, 5, b_l_moved⟩
  | "_law_wander" => some ⟨3, 8, b_l_wander⟩
  | "_law_short_rig" => some ⟨2, 11, b_l_short_rig⟩
  | "_law_built_cord" => some ⟨2, 9, b_l_built_cord⟩
  | "_law_built_bar" => some ⟨2, 6, b_l_built_bar⟩
  | "_law_built_ring" => some ⟨4, 8, b_l_built_ring⟩
  | "_law_built" => some ⟨1, 15, b_l_built⟩
  | "_law_small_right" => some ⟨2, 11, b_l_small_right⟩
  | "law" => some ⟨1, 8, b_law⟩
  | _ => none
def tb : List (Str × String × Nat) := ("stretch_of", "stretch_of", 2) :: ("unit_of", "unit_of", 1) :: ("stretch_change", "stretch_change", 3) :: ("can_move", "can_move", 4) :: ("cord_force", "cord_force", 3) :: ("group_force", "group_force", 4) :: ("all_groups", "all_groups", 1) :: ("strongest_slide", "strongest_slide", 3) :: ("is_equilibrium", "is_equilibrium", 2) :: ("_law_draws", "_law_draws", 1) :: ("_law_next", "_law_next", 2) :: ("_law_one", "_law_one", 2) :: ("_law_equal", "_law_equal", 2) :: ("_law_integer", "_law_integer", 3) :: ("_law_amount", "_law_amount", 2) :: ("_law_pair", "_law_pair", 2) :: ("_law_rig", "_law_rig", 3) :: ("_law_sized", "_law_sized", 3) :: ("_law_stretches", "_law_stretches", 2) :: ("_law_is_placement", "_law_is_placement", 2) :: ("_law_energy", "_law_energy", 2) :: ("_law_all", "_law_all", 1) :: ("_law_groups", "_law_groups", 1) :: ("_law_moved", "_law_moved", 3) :: ("_law_wander", "_law_wander", 3) :: ("_law_short_rig", "_law_short_rig", 2) :: ("_law_built_cord", "_law_built_cord", 2) :: ("_law_built_bar", "_law_built_bar", 2) :: ("_law_built_ring", "_law_built_ring", 4) :: ("_law_built", "_law_built", 1) :: ("_law_small_right", "_law_small_right", 2) :: ("law", "law", 1) :: []
def cints : List (Str × Int) := []
def cstrs : List (Str × Str) := [("LEFT", "left"), ("RIGHT", "right")]
def blt : List Str := ["all", "any", "bool", "enumerate", "int", "isinstance", "len", "list", "max", "min", "range", "sorted", "str", "sum", "tuple", "zip"]
abbrev glb : List (Str × Gv) := mkGlb tb cints cstrs
def d_stretch_of : Df := ⟨"stretch_of", "stretch_of", topS 1, ["part", "placement"], ["part", "placement"], []⟩
theorem ok_stretch_of : DfOk F glb blt d_stretch_of := ⟨⟨rfl, rfl, rfl, by decide +kernel, rfl, by decide +kernel, by decide +kernel⟩, b_stretch_of, by kernel_rfl, fun C => by kernel_rfl⟩
theorem bn_stretch_of : Bnd d_stretch_of := fun K f fd F => F.bindsN fun _ _ _ _ _ _ us hl => match us, hl with | [_, _], _ => rfl
def d_unit_of : Df := ⟨"unit_of", "unit_of", topS 5, ["side"], ["side"], []⟩
theorem ok_unit_of : DfOk F glb blt d_unit_of := ⟨⟨rfl, rfl, rfl, by decide +kernel, rfl, by decide +kernel, by decide +kernel⟩, b_unit_of, by kernel_rfl, fun C => by kernel_rfl⟩
theorem bn_unit_of : Bnd d_unit_of := fun K f fd F => F.bindsN fun _ _ _ _ _ _ us hl => match us, hl with | [_], _ => rfl
def d_stretch_change : Df := ⟨"stretch_change", "stretch_change", topS 6, ["part", "group", "unit"], ["part", "group", "unit"], []⟩
theorem ok_stretch_change : DfOk F glb blt d_stretch_change := ⟨⟨rfl, rfl, rfl, by decide +kernel, rfl, by decide +kernel, by decide +kernel⟩, b_stretch_change, by kernel_rfl, fun C => by kernel_rfl⟩
theorem bn_stretch_change : Bnd d_stretch_change := fun K f fd F => F.bindsN fun _ _ _ _ _ _ us hl => match us, hl with | [_, _, _], _ => rfl
def d_can_move : Df := ⟨"can_move", "can_move", topS 7, ["rig", "placement", "group", "unit", "rings", "cords", "bars", "ring", "bar"], ["rig", "placement", "group", "unit"], []⟩
theorem ok_can_move : DfOk F glb blt d_can_move := ⟨⟨rfl, rfl, rfl, by decide +kernel, rfl, by decide +kernel, by decide +kernel⟩, b_can_move, by kernel_rfl, fun C => by kernel_rfl⟩
theorem bn_can_move : Bnd d_can_move := fun K f fd F => F.bindsN fun _ _ _ _ _ _ us hl => match us, hl with | [_, _, _, _], _ => rfl
def d_cord_force : Df := ⟨"cord_force", "cord_force", topS 8, ["cord", "placement", "change", "beyond"], ["cord", "placement", "change"], []⟩
theorem ok_cord_force : DfOk F glb blt d_cord_force := ⟨⟨rfl, rfl, rfl, by decide +kernel, rfl, by decide +kernel, by decide +kernel⟩, b_cord_force, by kernel_rfl, fun C => by kernel_rfl⟩
theorem bn_cord_force : Bnd d_cord_force := fun K f fd F => F.bindsN fun _ _ _ _ _ _ us hl => match us, hl with | [_, _, _], _ => rfl
def d_group_force : Df := ⟨"group_force", "group_force", topS 9, ["rig", "placement", "group", "side", "unit", "pulls", "cord", "ring"], ["rig", "placement", "group", "side"], []⟩
theorem ok_group_force : DfOk F glb blt d_group_force := ⟨⟨rfl, rfl, rfl, by decide +kernel, rfl, by decide +kernel, by decide +kernel⟩, b_group_force, by kernel_rfl, fun C => by kernel_rfl⟩
theorem bn_group_force : Bnd d_group_force := fun K f fd F => F.bindsN fun _ _ _ _ _ _ us hl => match us, hl with | [_, _, _, _], _ => rfl
def d_all_groups : Df := ⟨"all_groups", "all_groups", topS 10, ["many", "found", "ring", "group"], ["many"], []⟩
theorem ok_all_groups : DfOk F glb blt d_all_groups := ⟨⟨rfl, rfl, rfl, by decide +kernel, rfl, by decide +kernel, by decide +kernel⟩, b_all_groups, by kernel_rfl, fun C => by kernel_rfl⟩
theorem bn_all_groups : Bnd d_all_groups := fun K f fd F => F.bindsN fun _ _ _ _ _ _ us hl => match us, hl with | [_], _ => rfl
def d_strongest_slide : Df := ⟨"strongest_slide", "strongest_slide", topS 11, ["rig", "placement", "side", "found", "group", "force"], ["rig", "placement", "side"], []⟩
theorem ok_strongest_slide : DfOk F glb blt d_strongest_slide := ⟨⟨rfl, rfl, rfl, by decide +kernel, rfl, by decide +kernel, by decide +kernel⟩, b_strongest_slide, by kernel_rfl, fun C => by kernel_rfl⟩
theorem bn_strongest_slide : Bnd d_strongest_slide := fun K f fd F => F.bindsN fun _ _ _ _ _ _ us hl => match us, hl with | [_, _, _], _ => rfl
def d_is_equilibrium : Df := ⟨"is_equilibrium", "is_equilibrium", topS 12, ["rig", "placement", "side"], ["rig", "placement"], []⟩
theorem ok_is_equilibrium : DfOk F glb blt d_is_equilibrium := ⟨⟨rfl, rfl, rfl, by decide +kernel, rfl, by decide +kernel, by decide +kernel⟩, b_is_equilibrium, by kernel_rfl, fun C => by kernel_rfl⟩
theorem bn_is_equilibrium : Bnd d_is_equilibrium := fun K f fd F => F.bindsN fun _ _ _ _ _ _ us hl => match us, hl with | [_, _], _ => rfl
def d_l_draws : Df := ⟨"_law_draws", "_law_draws", topS 14, ["_law_script", "_law_cells", "_law_cell"], ["_law_script"], [(44, 11), (44, 27)]⟩
theorem ok_l_draws : DfOk F glb blt d_l_draws := ⟨⟨rfl, rfl, rfl, by decide +kernel, rfl, by decide +kernel, by decide +kernel⟩, b_l_draws, by kernel_rfl, fun C => by kernel_rfl⟩
theorem bn_l_draws : Bnd d_l_draws := fun K f fd F => F.bindsN fun _ _ _ _ _ _ us hl => match us, hl with | [_], _ => rfl
def d_l_next : Df := ⟨"_law_next", "_law_next", topS 15, ["_law_drawn", "_law_many", "_law_cells", "_law_turn", "_law_rests", "_law_spot", "_law_digit", "_law_mixed", "_law_again"], ["_law_drawn", "_law_many"], []⟩
theorem ok_l_next : DfOk F glb blt d_l_next := ⟨⟨rfl, rfl, rfl, by decide +kernel, rfl, by decide +kernel, by decide +kernel⟩, b_l_next, by kernel_rfl, fun C => by kernel_rfl⟩
theorem bn_l_next : Bnd d_l_next := fun K f fd F => F.bindsN fun _ _ _ _ _ _ us hl => match us, hl with | [_, _], _ => rfl
def d_l_one : Df := ⟨"_law_one", "_law_one", topS 16, ["_law_drawn", "_law_items"], ["_law_drawn", "_law_items"], []⟩
theorem ok_l_one : DfOk F glb blt d_l_one := ⟨⟨rfl, rfl, rfl, by decide +kernel, rfl, by decide +kernel, by decide +kernel⟩, b_l_one, by kernel_rfl, fun C => by kernel_rfl⟩
theorem bn_l_one : Bnd d_l_one := fun K f fd F => F.bindsN fun _ _ _ _ _ _ us hl => match us, hl with | [_, _], _ => rfl
def d_l_equal : Df := ⟨"_law_equal", "_law_equal", topS 17, ["_law_one_here", "_law_other", "_law_a", "_law_b"], ["_law_one_here", "_law_other"], []⟩
theorem ok_l_equal : DfOk F glb blt d_l_equal := ⟨⟨rfl, rfl, rfl, by decide +kernel, rfl, by decide +kernel, by decide +kernel⟩, b_l_equal2, by kernel_rfl, fun C => by kernel_rfl⟩
theorem bn_l_equal : Bnd d_l_equal := fun K f fd F => F.bindsN fun _ _ _ _ _ _ us hl => match us, hl with | [_, _], _ => rfl
def d_l_integer : Df := ⟨"_law_integer", "_law_integer", topS 18, ["_law_value", "_law_low", "_law_high"], ["_law_value", "_law_low", "_law_high"], []⟩
theorem ok_l_integer : DfOk F glb blt d_l_integer := ⟨⟨rfl, rfl, rfl, by decide +kernel, rfl, by decide +kernel, by decide +kernel⟩, b_l_integer, by kernel_rfl, fun C => by kernel_rfl⟩
theorem bn_l_integer : Bnd d_l_integer := fun K f fd F => F.bindsN fun _ _ _ _ _ _ us hl => match us, hl with | [_, _, _], _ => rfl
def d_l_amount : Df := ⟨"_law_amount", "_law_amount", topS 19, ["_law_drawn", "_law_size", "_law_few"], ["_law_drawn", "_law_size"], []⟩
theorem ok_l_amount : DfOk F glb blt d_l_amount := ⟨⟨rfl, rfl, rfl, by decide +kernel, rfl, by decide +kernel, by decide +kernel⟩, b_l_amount, by kernel_rfl, fun C => by kernel_rfl⟩
theorem bn_l_amount : Bnd d_l_amount := fun K f fd F => F.bindsN fun _ _ _ _ _ _ us hl => match us, hl with | [_, _], _ => rfl
def d_l_pair : Df := ⟨"_law_pair", "_law_pair", topS 20, ["_law_drawn", "_law_count", "_law_one_here"], ["_law_drawn", "_law_count"], []⟩
theorem ok_l_pair : DfOk F glb blt d_l_pair := ⟨⟨rfl, rfl, rfl, by decide +kernel, rfl, by decide +kernel, by decide +kernel⟩, b_l_pair, by kernel_rfl, fun C => by kernel_rfl⟩
theorem bn_l_pair : Bnd d_l_pair := fun K f fd F => F.bindsN fun _ _ _ _ _ _ us hl => match us, hl with | [_, _], _ => rfl
def d_l_rig : Df := ⟨"_law_rig", "_law_rig", topS 21, ["_law_drawn", "_law_most", "_law_size", "_law_count", "_law_heavy", "_law_shift", "_law_places", "_law_rings", "_law_k", "_law_place", "_law_low", "_law_high", "_law_cords", "_law_bars", "_law_one_here", "_law_other", "_law_length"], ["_law_drawn", "_law_most", "_law_size"], [(78, 31), (78, 35), (84, 29), (84, 33)]⟩
theorem ok_l_rig : DfOk F glb blt d_l_rig := ⟨⟨rfl, rfl, rfl, by decide +kernel, rfl, by decide +kernel, by decide +kernel⟩, b_l_rig2, by kernel_rfl, fun C => by kernel_rfl⟩
theorem bn_l_rig : Bnd d_l_rig := fun K f fd F => F.bindsN fun _ _ _ _ _ _ us hl => match us, hl with | [_, _, _], _ => rfl
def d_l_sized : Df := ⟨"_law_sized", "_law_sized", topS 22, ["_law_value", "_law_low", "_law_high"], ["_law_value", "_law_low", "_law_high"], []⟩
theorem ok_l_sized : DfOk F glb blt d_l_sized := ⟨⟨rfl, rfl, rfl, by decide +kernel, rfl, by decide +kernel, by decide +kernel⟩, b_l_sized, by kernel_rfl, fun C => by kernel_rfl⟩
theorem bn_l_sized : Bnd d_l_sized := fun K f fd F => F.bindsN fun _ _ _ _ _ _ us hl => match us, hl with | [_, _, _], _ => rfl
def d_l_stretches : Df := ⟨"_law_stretches", "_law_stretches", topS 23, ["_law_lines", "_law_places", "_law_line"], ["_law_lines", "_law_places"], []⟩
theorem ok_l_stretches : DfOk F glb blt d_l_stretches := ⟨⟨rfl, rfl, rfl, by decide +kernel, rfl, by decide +kernel, by decide +kernel⟩, b_l_stretches, by kernel_rfl, fun C => by kernel_rfl⟩
theorem bn_l_stretches : Bnd d_l_stretches := fun K f fd F => F.bindsN fun _ _ _ _ _ _ us hl => match us, hl with | [_, _], _ => rfl
def d_l_is_placement : Df := ⟨"_law_is_placement", "_law_is_placement", topS 24, ["_law_rig_here", "_law_value", "_law_place", "_law_ring", "_law_far", "_law_bar"], ["_law_rig_here", "_law_value"], []⟩
theorem ok_l_is_placement : DfOk F glb blt d_l_is_placement := ⟨⟨rfl, rfl, rfl, by decide +kernel, rfl, by decide +kernel, by decide +kernel⟩, b_l_is_placement, by kernel_rfl, fun C => by kernel_rfl⟩
theorem bn_l_is_placement : Bnd d_l_is_placement := fun K f fd F => F.bindsN fun _ _ _ _ _ _ us hl => match us, hl with | [_, _], _ => rfl
def d_l_energy : Df := ⟨"_law_energy", "_law_energy", topS 25, ["_law_rig_here", "_law_places", "_law_found", "_law_far", "_law_cord", "_law_ring", "_law_place"], ["_law_rig_here", "_law_places"], []⟩
theorem ok_l_energy : DfOk F glb blt d_l_energy := ⟨⟨rfl, rfl, rfl, by decide +kernel, rfl, by decide +kernel, by decide +kernel⟩, b_l_energy, by kernel_rfl, fun C => by kernel_rfl⟩
theorem bn_l_energy : Bnd d_l_energy := fun K f fd F => F.bindsN fun _ _ _ _ _ _ us hl => match us, hl with | [_, _], _ => rfl
def d_l_all : Df := ⟨"_law_all", "_law_all", topS 26, ["_law_rig_here", "_law_found", "_law_low", "_law_high", "_law_load", "_law_longer", "_law_places", "_law_place"], ["_law_rig_here"], [(113, 22)]⟩
theorem ok_l_all : DfOk F glb blt d_l_all := ⟨⟨rfl, rfl, rfl, by decide +kernel, rfl, by decide +kernel, by decide +kernel⟩, b_l_all, by kernel_rfl, fun C => by kernel_rfl⟩
theorem bn_l_all : Bnd d_l_all := fun K f fd F => F.bindsN fun _ _ _ _ _ _ us hl => match us, hl with | [_], _ => rfl
def d_l_groups : Df := ⟨"_law_groups", "_law_groups", topS 27, ["_law_count", "_law_found", "_law_ring", "_law_group"], ["_law_count"], []⟩
theorem ok_l_groups : DfOk F glb blt d_l_groups := ⟨⟨rfl, rfl, rfl, by decide +kernel, rfl, by decide +kernel, by decide +kernel⟩, b_l_groups, by kernel_rfl, fun C => by kernel_rfl⟩
theorem bn_l_groups : Bnd d_l_groups := fun K f fd F => F.bindsN fun _ _ _ _ _ _ us hl => match us, hl with | [_], _ => rfl
def d_l_moved : Df := ⟨"_law_moved", "_law_moved", topS 28, ["_law_places", "_law_group", "_law_offset", "_law_ring", "_law_place"], ["_law_places", "_law_group", "_law_offset"], []⟩
theorem ok_l_moved : DfOk F glb blt d_l_moved := ⟨⟨rfl, rfl, rfl, by decide +kernel, rfl, by decide +kernel, by decide +kernel⟩, b_l_moved, by kernel_rfl, fun C => by kernel_rfl⟩
theorem bn_l_moved : Bnd d_l_moved := fun K f fd F => F.bindsN fun _ _ _ _ _ _ us hl => match us, hl with | [_, _, _], _ => rfl
def d_l_wander : Df := ⟨"_law_wander", "_law_wander", topS 29, ["_law_drawn", "_law_rig_here", "_law_places", "_law_groups_here", "_law_turn", "_law_group", "_law_far", "_law_other"], ["_law_drawn", "_law_rig_here", "_law_places"], []⟩
theorem ok_l_wander : DfOk F glb blt d_l_wander := ⟨⟨rfl, rfl, rfl, by decide +kernel, rfl, by decide +kernel, by decide +kernel⟩, b_l_wander, by kernel_rfl, fun C => by kernel_rfl⟩
theorem bn_l_wander : Bnd d_l_wander := fun K f fd F => F.bindsN fun _ _ _ _ _ _ us hl => match us, hl with | [_, _, _], _ => rfl
def d_l_short_rig : Df := ⟨"_law_short_rig", "_law_short_rig", topS 30, ["_law_drawn", "_law_most", "_law_rig_here", "_law_places", "_law_rings", "_law_cords", "_law_bars", "_law_low", "_law_high", "_law_load", "_law_cord"], ["_law_drawn", "_law_most"], []⟩
theorem ok_l_short_rig : DfOk F glb blt d_l_short_rig := ⟨⟨rfl, rfl, rfl, by decide +kernel, rfl, by decide +kernel, by decide +kernel⟩, b_l_short_rig, by kernel_rfl, fun C => by kernel_rfl⟩
theorem bn_l_short_rig : Bnd d_l_short_rig := fun K f fd F => F.bindsN fun _ _ _ _ _ _ us hl => match us, hl with | [_, _], _ => rfl
def d_l_built_cord : Df := ⟨"_law_built_cord", "_law_built_cord", topS 31, ["_law_drawn", "_law_places", "_law_one_here", "_law_other", "_law_far", "_law_weight", "_law_more", "_law_way", "_law_tension"], ["_law_drawn", "_law_places"], []⟩
theorem ok_l_built_cord : DfOk F glb blt d_l_built_cord := ⟨⟨rfl, rfl, rfl, by decide +kernel, rfl, by decide +kernel, by decide +kernel⟩, b_l_built_cord, by kernel_rfl, fun C => by kernel_rfl⟩
theorem bn_l_built_cord : Bnd d_l_built_cord := fun K f fd F => F.bindsN fun _ _ _ _ _ _ us hl => match us, hl with | [_, _], _ => rfl
def d_l_built_bar : Df := ⟨"_law_built_bar", "_law_built_bar", topS 32, ["_law_drawn", "_law_places", "_law_one_here", "_law_other", "_law_far", "_law_more"], ["_law_drawn", "_law_places"], []⟩
theorem ok_l_built_bar : DfOk F glb blt d_l_built_bar := ⟨⟨rfl, rfl, rfl, by decide +kernel, rfl, by decide +kernel, by decide +kernel⟩, b_l_built_bar, by kernel_rfl, fun C => by kernel_rfl⟩
theorem bn_l_built_bar : Bnd d_l_built_bar := fun K f fd F => F.bindsN fun _ _ _ _ _ _ us hl => match us, hl with | [_, _], _ => rfl
def d_l_built_ring : Df := ⟨"_law_built_ring", "_law_built_ring", topS 33, ["_law_drawn", "_law_place", "_law_pull", "_law_size", "_law_low", "_law_high", "_law_way", "_law_press"], ["_law_drawn", "_law_place", "_law_pull", "_law_size"], []⟩
theorem ok_l_built_ring : DfOk F glb blt d_l_built_ring := ⟨⟨rfl, rfl, rfl, by decide +kernel, rfl, by decide +kernel, by decide +kernel⟩, b_l_built_ring, by kernel_rfl, fun C => by kernel_rfl⟩
theorem bn_l_built_ring : Bnd d_l_built_ring := fun K f fd F => F.bindsN fun _ _ _ _ _ _ us hl => match us, hl with | [_, _, _, _], _ => rfl
def d_l_built : Df := ⟨"_law_built", "_law_built", topS 34, ["_law_drawn", "_law_count", "_law_size", "_law_shift", "_law_places", "_law_k", "_law_pulls", "_law_lines", "_law_links", "_law_line", "_law_tension", "_law_rings", "_law_place", "_law_pull", "_law_link"], ["_law_drawn"], [(169, 17)]⟩
theorem ok_l_built : DfOk F glb blt d_l_built := ⟨⟨rfl, rfl, rfl, by decide +kernel, rfl, by decide +kernel, by decide +kernel⟩, b_l_built, by kernel_rfl, fun C => by kernel_rfl⟩
theorem bn_l_built : Bnd d_l_built := fun K f fd F => F.bindsN fun _ _ _ _ _ _ us hl => match us, hl with | [_], _ => rfl
def d_l_small_right : Df := ⟨"_law_small_right", "_law_small_right", topS 35, ["_law_drawn", "_law_most", "_law_rig_here", "_law_start", "_law_every", "_law_energies", "_law_places", "_law_least", "_law_first", "_law_k", "_law_at"], ["_law_drawn", "_law_most"], []⟩
theorem ok_l_small_right : DfOk F glb blt d_l_small_right := ⟨⟨rfl, rfl, rfl, by decide +kernel, rfl, by decide +kernel, by decide +kernel⟩, b_l_small_right, by kernel_rfl, fun C => by kernel_rfl⟩
theorem bn_l_small_right : Bnd d_l_small_right := fun K f fd F => F.bindsN fun _ _ _ _ _ _ us hl => match us, hl with | [_, _], _ => rfl
def d_law : Df := ⟨"law", "law", topS 36, ["_law_script", "_law_drawn", "_law_turn", "_law_rig_here", "_law_places", "_law_least", "_law_again", "_law_other"], ["_law_script"], []⟩
theorem ok_law : DfOk F glb blt d_law := ⟨⟨rfl, rfl, rfl, by decide +kernel, rfl, by decide +kernel, by decide +kernel⟩, b_law, by kernel_rfl, fun C => by kernel_rfl⟩
theorem bn_law : Bnd d_law := fun K f fd F => F.bindsN fun _ _ _ _ _ _ us hl => match us, hl with | [_], _ => rfl
def ds : List Df := d_stretch_of :: d_unit_of :: d_stretch_change :: d_can_move :: d_cord_force :: d_group_force :: d_all_groups :: d_strongest_slide :: d_is_equilibrium :: d_l_draws :: d_l_next :: d_l_one :: d_l_equal :: d_l_integer :: d_l_amount :: d_l_pair :: d_l_rig :: d_l_sized :: d_l_stretches :: d_l_is_placement :: d_l_energy :: d_l_all :: d_l_groups :: d_l_moved :: d_l_wander :: d_l_short_rig :: d_l_built_cord :: d_l_built_bar :: d_l_built_ring :: d_l_built :: d_l_small_right :: d_law :: []
theorem ok_all : ∀ d ∈ ds, DfOk F glb blt d := by
  intro d hd
  simp only [ds, List.mem_cons, List.not_mem_nil, or_false] at hd
  rcases hd with rfl | rfl | rfl | rfl | rfl | rfl | rfl | rfl | rfl | rfl | rfl | rfl | rfl | rfl | rfl | rfl | rfl | rfl | rfl | rfl | rfl | rfl | rfl | rfl | rfl | rfl | rfl | rfl | rfl | rfl | rfl | rfl
  · exact ok_stretch_of
  · exact ok_unit_of
  · exact ok_stretch_change
  · exact ok_can_move
  · exact ok_cord_force
  · exact ok_group_force
  · exact ok_all_groups
  · exact ok_strongest_slide
  · exact ok_is_equilibrium
  · exact ok_l_draws
  · exact ok_l_next
  · exact ok_l_one
  · exact ok_l_equal
  · exact ok_l_integer
  · exact ok_l_amount
  · exact ok_l_pair
  · exact ok_l_rig
  · exact ok_l_sized
  · exact ok_l_stretches
  · exact ok_l_is_placement
  · exact ok_l_energy
  · exact ok_l_all
  · exact ok_l_groups
  · exact ok_l_moved
  · exact ok_l_wander
  · exact ok_l_short_rig
  · exact ok_l_built_cord
  · exact ok_l_built_bar
  · exact ok_l_built_ring
  · exact ok_l_built
  · exact ok_l_small_right
  · exact ok_law
theorem bn_all : ∀ d ∈ ds, Bnd d := by
  intro d hd
  simp only [ds, List.mem_cons, List.not_mem_nil, or_false] at hd
  rcases hd with rfl | rfl | rfl | rfl | rfl | rfl | rfl | rfl | rfl | rfl | rfl | rfl | rfl | rfl | rfl | rfl | rfl | rfl | rfl | rfl | rfl | rfl | rfl | rfl | rfl | rfl | rfl | rfl | rfl | rfl | rfl | rfl
  · exact bn_stretch_of
  · exact bn_unit_of
  · exact bn_stretch_change
  · exact bn_can_move
  · exact bn_cord_force
  · exact bn_group_force
  · exact bn_all_groups
  · exact bn_strongest_slide
  · exact bn_is_equilibrium
  · exact bn_l_draws
  · exact bn_l_next
  · exact bn_l_one
  · exact bn_l_equal
  · exact bn_l_integer
  · exact bn_l_amount
  · exact bn_l_pair
  · exact bn_l_rig
  · exact bn_l_sized
  · exact bn_l_stretches
  · exact bn_l_is_placement
  · exact bn_l_energy
  · exact bn_l_all
  · exact bn_l_groups
  · exact bn_l_moved
  · exact bn_l_wander
  · exact bn_l_short_rig
  · exact bn_l_built_cord
  · exact bn_l_built_bar
  · exact bn_l_built_ring
  · exact bn_l_built
  · exact bn_l_small_right
  · exact bn_law
abbrev R : PySem.W.OpenRow := PySem.W.OpenLaw.row PySem.Challenge.rw_tugrings_k13_equilibria_have_least_energ
abbrev fa : List He.Fa := mkFa tb cints cstrs blt
abbrev fn : List He.DefD := mkFn ds
abbrev hk : PySem.W.Hook := He.hookD 4 fa fn
def ob (s : PySem.W.SharedT) : He.AlD := He.obsDG 4 fa fn (HandSHeadRun.getT s)
theorem ob_eq (s : PySem.W.SharedT) : ob s = hk.obs s.abs := He.obsDG_eq (HandSHeadRun.getT_eq s)
def loose : List PySem.Str := (["stretch_of", "LEFT", "RIGHT", "unit_of", "stretch_change", "can_move", "cord_force", "group_force", "all_groups", "strongest_slide", "is_equilibrium", "_law_draws", "_law_next", "_law_one", "_law_equal", "_law_integer", "_law_amount", "_law_pair", "_law_rig", "_law_sized"] : List PySem.Str) ++ (["_law_stretches", "_law_is_placement", "_law_energy", "_law_all", "_law_groups", "_law_moved", "_law_wander", "_law_short_rig", "_law_built_cord", "_law_built_bar", "_law_built_ring", "_law_built", "_law_small_right"] : List PySem.Str)
theorem run (w : World) : HandSHeadRun.RunEq R (PySem.W.view R.prog [36]) hk ob 4000 loose w := by
  intro os
  kernel_rfl
end W_k13
namespace W_k13
open PySem PySem.Spec PyProof.Rows L2 Tg
theorem lc_drawC {α : Type} {chk : Sto → Bool} {tg : DG} {ifs : DB} {elt : DE} {env : En} (f : α → D) (c : Int) (hc : 0 ≤ c) (Q : α → D → Prop) (o : Sto) (hk : ∀ s : Dr, chk (mkSt s o) = true) : ∀ (xs : List α) (s : Dr) (b : Int), DOk s b → c * xs.length ≤ b →
    (∀ x ∈ xs, ∀ (s : Dr) (b : Int), DOk s b → c ≤ b → ∃ e y s', tg (f x) env (mkSt s o) = some (e, mkSt s o) ∧ ifs e (mkSt s o) = some (true, mkSt s o) ∧ elt e (mkSt s o) = some (y, mkSt s' o) ∧ Q x y ∧ DOk s' (b - c)) →
    ∃ ys s', lcL chk tg ifs elt env (xs.map f) (mkSt s o) = some (ys, mkSt s' o) ∧ Rel2 Q xs ys ∧ DOk s' (b - c * xs.length)
  | [], s, b, d, hb, _ => ⟨[], s, by rw [List.map_nil]; unfold lcL; rw [hk s]; rfl, trivial, d.mono (by simp)⟩
  | x :: xs, s, b, d, hb, h => by
    have e1 : c * ((x :: xs).length : Int) = c * xs.length + c := by rw [List.length_cons, Int.natCast_add, Int.mul_add]; simp
    rw [e1] at hb
    have pos : 0 ≤ c * (xs.length : Int) := Int.mul_nonneg hc (by omega)
    obtain ⟨e, y, s1, h1, h2, h3, h4, d1⟩ := h x List.mem_cons_self s b d (by omega)
    obtain ⟨ys, s2, k, r, d2⟩ := lc_drawC f c hc Q o hk xs s1 (b - c) d1 (by omega) fun z hz => h z (List.mem_cons_of_mem _ hz)
    refine ⟨y :: ys, s2, ?_, ⟨h4, r⟩, d2.mono (by rw [e1]; omega)⟩
    rw [List.map_cons]
    unfold lcL
    rw [hk s, if_pos rfl, h1]
    simp only [Option.bind_some, h2, h3, k, Option.map_some, if_true]
/-! ### short rigs -/
def lightR (r : Ring) : Ring := ⟨r.lo, r.hi, r.ld % 7 - 3⟩
def lightC (c : Cord) : Cord := ⟨c.a, c.b, c.len, 1 + c.w % 4⟩
theorem short_rig_spec (n : Nat) {s : Dr} {b : Int} (hs : DOk s b) (hb : 300 ≤ b) (o : Sto) {most : Int} (m1 : 1 ≤ most) (m2 : most ≤ 4) :
    ∃ R s' g, callN F (n + 4) "_law_short_rig" [.loc 1, .int most] (mkSt s o) = some (.lst [rigD (R.rings.map lightR) (R.cords.map lightC) R.bars, plcD R.ps], mkSt s' (o ++ g)) ∧ (RigOk most R ∧ ∀ q ∈ R.qs, q.1.hi - q.1.lo ≤ 2 * 2) ∧ DOk s' (b - 300) := by
  have rg := rigs_of2 (F := F) rfl rfl rfl rfl n
  obtain ⟨R, s1, g, k1, hR, d1⟩ := rg.span hs o most 2 hb m1 (by omega) (by omega) (by omega)
  refine ⟨R, s1, g, ?_, hR, d1⟩
  have k1 : callN F (n + 3) "_law_rig" [.loc 1, .int most, .int 2] (mkSt s o) = some (.lst [rigD R.rings R.cords R.bars, plcD R.ps], mkSt s1 (o ++ g)) := k1
  have gt : ∀ (env : En) (s : Sto), gT 3 (gsCons (gN 4) (gsCons (gN 5) (gsCons (gN 6) gsNil))) (rigD R.rings R.cords R.bars) env s = some (((env.set 4 (some (.tup (R.rings.map ringD)))).set 5 (some (.tup (R.cords.map cordD)))).set 6 (some (.tup (R.bars.map barD))), s) := fun env s => rfl
  have l1 := lc_map (tg := gT 3 (gsCons (gN 7) (gsCons (gN 8) (gsCons (gN 9) gsNil)))) (ifs := bYes) (elt := eTup (aCons (eVar 7) (aCons (eVar 8) (aCons (eOp oSub (eOp oMod (eVar 9) (eC (.int 7))) (eC (.int 3))) aNil)))) (env := [some (.loc 1), some (.int most), some (rigD R.rings R.cords R.bars), some (plcD R.ps), some (.tup (R.rings.map ringD)), some (.tup (R.cords.map cordD)), some (.tup (R.bars.map barD)), none, none, none, none]) (s := mkSt s1 (o ++ g)) ringD (fun r => ringD (lightR r)) R.rings (by
    intro r _
    refine ⟨_, rfl, rfl, ?_⟩
    have md : ∀ t : Sto, oMod t (.int r.ld) (.int 7) = some (.int (r.ld % 7)) := fun _ => rfl
    repeat (first | walk_at "ev" | simp only [md])
    rfl)
  have l2 := lc_map (tg := gN 10) (ifs := bYes) (elt := eOp oAdd (eSl (eVar 10) oNo (oSo (eC (.int 3)))) (eTup (aCons (eOp oAdd (eC (.int 1)) (eOp oMod (eOp oIx (eVar 10) (eC (.int 3))) (eC (.int 4)))) aNil))) (env := [some (.loc 1), some (.int most), some (rigD R.rings R.cords R.bars), some (plcD R.ps), some (.tup ((R.rings.map lightR).map ringD)), some (.tup (R.cords.map cordD)), some (.tup (R.bars.map barD)), none, none, none, none]) (s := mkSt s1 (o ++ g)) cordD (fun c => cordD (lightC c)) R.cords (by
    intro c _
    refine ⟨_, rfl, rfl, ?_⟩
    have md : ∀ t : Sto, oMod t (.int c.w) (.int 4) = some (.int (c.w % 4)) := fun _ => rfl
    have i3 : ∀ t : Sto, oIx t (cordD c) (.int 3) = some (.int c.w) := fun _ => rfl
    have sl : ∀ t : Sto, sliceD t none (some 3) (cordD c) = some (.tup [.int c.a, .int c.b, .int c.len]) := fun t => sl_to (by decide)
    have ad : ∀ t : Sto, oAdd t (.tup [.int c.a, .int c.b, .int c.len]) (.tup [.int (1 + c.w % 4)]) = some (cordD (lightC c)) := fun t => add_tup (by simp)
    repeat (first | walk_at "ev" | simp only [i3, md, sl, ad]))
  have e1 : (R.rings.map fun r => ringD (lightR r)) = (R.rings.map lightR).map ringD := by rw [List.map_map]; rfl
  have e2 : (R.cords.map fun c => cordD (lightC c)) = (R.cords.map lightC).map cordD := by rw [List.map_map]; rfl
  rw [e1] at l1
  rw [e2] at l2
  generalize hRD : rigD R.rings R.cords R.bars = RD at *
  have e0 : startE 11 [.loc 1, .int most] = [some (.loc 1), some (.int most), none, none, none, none, none, none, none, none, none] := rfl
  rw [call_eq (f := ⟨2, 11, b_l_short_rig⟩) rfl rfl]
  simp only [e0, b_l_short_rig]
  repeat (first | walk_at "ev" | simp only [k1, e_gtL, if_true, reduceIte, Nat.reduceAdd, gt, l1, l2, e_kfnR])
theorem light_v {R : Rig} (h8 : RigOk 8 R) : VRig (R.rings.map lightR) (R.cords.map lightC) R.bars ∧ Plc (R.rings.map lightR) R.bars R.ps := by
  have v := h8.v
  have hP := h8.plc
  have elo : losL (R.rings.map lightR) = losL R.rings := by unfold losL; rw [List.map_map]; rfl
  have ehi : hisL (R.rings.map lightR) = hisL R.rings := by unfold hisL; rw [List.map_map]; rfl
  refine ⟨⟨by rw [List.length_map]; exact v.r1, by rw [List.length_map]; exact v.r2, by rw [List.length_map]; exact v.c1, v.b1, fun r hr => ?_, fun c hc => ?_, fun c hc => by rw [List.length_map]; exact v.bar c hc⟩, ⟨by rw [List.length_map]; exact hP.len, fun i hi => ?_, fun i hi => ?_, hP.bar⟩⟩
  · obtain ⟨r', hr', rfl⟩ := List.mem_map.mp hr
    have := v.ring r' hr'
    unfold lightR
    simp only
    omega
  · obtain ⟨c', hc', rfl⟩ := List.mem_map.mp hc
    obtain ⟨x1, x2, x3, x4, x5, x6⟩ := v.cord c' hc'
    unfold lightC
    rw [List.length_map]
    refine ⟨x1, x2, x3, x4, ?_, ?_⟩ <;> simp only <;> omega
  · rw [elo]
    exact hP.lo i (by rwa [List.length_map] at hi)
  · rw [ehi]
    exact hP.hi i (by rwa [List.length_map] at hi)
theorem prod_len : ∀ (n : Nat) (rs : List Ring), rs.length = n → (∀ r ∈ rs, r.hi - r.lo ≤ 4) → (prodL rs).length ≤ 5 ^ n
  | 0, rs, hn, _ => by
    have : rs = [] := List.length_eq_zero_iff.mp hn
    subst this
    decide
  | n + 1, rs, hn, h => by
    obtain ⟨ds, r, rfl⟩ : ∃ ds r, rs = ds ++ [r] := ⟨rs.dropLast, rs.getLast (by intro e; rw [e] at hn; simp at hn), (List.dropLast_concat_getLast _).symm⟩
    have ih := prod_len n ds (by rw [List.length_append] at hn; simpa using hn) fun r hr => h r (List.mem_append_left _ hr)
    have hr := h r (by simp)
    rw [prodL_snoc]
    have key : ∀ xs : List (List Int), (stepL xs r).length ≤ 5 * xs.length := by
      intro xs
      induction xs with
      | nil => simp [stepL]
      | cons x xs ih =>
        have e : stepL (x :: xs) r = (rngI r.lo r.hi).map (fun p => x ++ [p]) ++ stepL xs r := by
          unfold stepL
          rw [List.flatMap_cons]
        have l : (rngI r.lo r.hi).length ≤ 5 := by
          unfold rngI
          rw [List.length_map, List.length_range]
          omega
        rw [e, List.length_append, List.length_map, List.length_cons]
        omega
    have := key (prodL ds)
    rw [Nat.pow_succ]
    omega
/-- least among all -/
theorem eql_min {rs : List Ring} {cs : List Cord} {bs : List Bar} {x : List Int} (v : VRig rs cs bs) (hx : Plc rs bs x) : eqlB rs cs bs x = decide (enL rs cs x = minOf ((allL rs bs).map (enL rs cs))) := by
  have hm : x ∈ allL rs bs := allL_mem.mpr hx
  obtain ⟨a, b⟩ := minOf_spec ((allL rs bs).map (enL rs cs)) (by rw [List.length_map]; exact List.length_pos_of_mem hm)
  obtain ⟨z, hz, ez⟩ := List.mem_map.mp a
  rw [Bool.eq_iff_iff, eql_iff v hx, decide_eq_true_eq]
  constructor
  · intro h
    have h1 := h z (allL_mem.mp hz)
    have h2 := b _ (List.mem_map.mpr ⟨x, hm, rfl⟩)
    omega
  · intro h y hy
    rw [h]
    exact b _ (List.mem_map.mpr ⟨y, allL_mem.mpr hy, rfl⟩)
set_option maxHeartbeats 16000000 in
theorem small_spec (n : Nat) {s : Dr} {b : Int} (hs : DOk s b) (hb : 310 ≤ b) (o : Sto) {most : Int} (m1 : 1 ≤ most) (m2 : most ≤ 4) :
    ∃ s' g, callN F (n + 7) "_law_small_right" [.loc 1, .int most] (mkSt s o) = some (.bl true, mkSt s' (o ++ g)) ∧ DOk s' (b - 310) := by
  obtain ⟨R, s1, g1, k1, ⟨hR, hsp⟩, d1⟩ := short_rig_spec (n + 2) hs (by omega) o m1 m2
  have h8 := hR.up (by omega)
  obtain ⟨v, hP⟩ := light_v h8
  have rl : R.rings.length ≤ 4 := by have := hR.n2; unfold Rig.rings; rw [List.length_map]; omega
  generalize hrs : R.rings.map lightR = rs at *
  generalize hcs : R.cords.map lightC = cs at *
  have rl' : rs.length ≤ 4 := by rw [← hrs, List.length_map]; exact rl
  have hsp' : ∀ r ∈ rs, r.hi - r.lo ≤ 4 := fun r hr => by
    rw [← hrs] at hr
    obtain ⟨r', hr', rfl⟩ := List.mem_map.mp hr
    obtain ⟨q, hq, rfl⟩ := List.mem_map.mp hr'
    have := hsp q hq
    unfold lightR
    simp only
    omega
  have pb : ∀ es fs, es ++ fs = rs → (prodL es).length ≤ 1000 := fun es fs e => by
    have h1 := prod_len es.length es rfl fun r hr => hsp' r (by rw [← e]; exact List.mem_append_left _ hr)
    have h2 : es.length ≤ 4 := by
      have := congrArg List.length e
      rw [List.length_append] at this
      omega
    have h3 : 5 ^ es.length ≤ 5 ^ 4 := Nat.pow_le_pow_right (by omega) h2
    omega
  obtain ⟨g2, k2⟩ := all_spec (F := F) rfl rfl rfl rfl rfl (n + 3) (cs := .tup (cs.map cordD)) v.ix v.r2 (fun r hr => by
    have := v.ring r hr
    have := hsp' r hr
    omega) (fun es fs e => by have := pb es fs e; omega) (mkSt s1 (o ++ g1))
  have al : (allL rs R.bars).length ≤ 1000 := by
    have h1 := pb rs [] (by simp)
    have h2 : (allL rs R.bars).length ≤ (prodL rs).length := List.length_filter_le _ _
    omega
  have apos : 0 < (allL rs R.bars).length := List.length_pos_of_mem (allL_mem.mpr hP)
  have k2 : callN F (n + 6) "_law_all" [rigD rs cs R.bars] (mkSt s1 (o ++ g1)) = some (.lst ((allL rs R.bars).map plcD), mkSt s1 (o ++ g1 ++ g2)) := k2
  have mem : ∀ x, x ∈ allL rs R.bars → Plc rs R.bars x := fun x hx => allL_mem.mp hx
  have em := fun {x : List Int} (hx : Plc rs R.bars x) => eql_min v hx
  have ke : ∀ (x : List Int) (hx : Plc rs R.bars x) (st : Sto), callN F (n + 6) "_law_energy" [rigD rs cs R.bars, plcD x] st = some (.int (enL rs cs x), st) := fun x hx st => lenergy_spec (F := F) rfl rfl (n + 4) (v.e hx.len) st
  have kq := fun (x : List Int) (hx : Plc rs R.bars x) (st : Sto) => equil_spec (F := F) rfl rfl rfl rfl rfl rfl rfl rfl rfl (n + 1) v hx.len st
  have eb := fun (p : Bool) (st : Sto) => eq2 (F := F) rfl (n := n + 5) (k := 0) (d := .bl p) pl_bl (by omega) st
  generalize hA : allL rs R.bars = A at *
  have dr := draws_of (F := F) rfl (n + 5)
  obtain ⟨f, s2, k3, f0, f1, d2⟩ := dr.n d1 (o ++ g1 ++ g2) (A.length : Int) (by omega) (by omega) (by omega)
  generalize hRD : rigD rs cs R.bars = RD at *
  generalize hE : A.map (enL rs cs) = E at *
  have l1 := lc_map (tg := gN 6) (ifs := bYes) (elt := eCall (callN F (n + 6)) "_law_energy" (aCons (eVar 2) (aCons (eVar 6) aNil))) (env := [some (.loc 1), some (.int most), some RD, some (plcD R.ps), some (.lst (A.map plcD)), none, none, none, none, none, none]) (s := mkSt s1 (o ++ g1 ++ g2)) plcD (fun x => .int (enL rs cs x)) A (by
    intro x hx
    refine ⟨_, rfl, rfl, ?_⟩
    have := ke x (mem x hx) (mkSt s1 (o ++ g1 ++ g2))
    repeat (first | walk_at "ev" | simp only [this]))
  have e1 : (A.map fun x => D.int (enL rs cs x)) = E.map D.int := by rw [← hE, List.map_map]; rfl
  rw [e1] at l1
  have mn := fun t : Sto => o_minL (s := t) (ns := E) (by rw [← hE, List.length_map]; exact apos)
  have El : E.length = A.length := by rw [← hE, List.length_map]
  obtain ⟨env', st', k4, w9, w10, rfl, hst⟩ := for_rel (tg := gN 9) (body := b_l_small_right_f1 (callN F (n + 6))) (fun i : Nat => D.int (0 + (i : Int)))
    (fun is env st => ∃ (w9 w10 : Option D), env = [some (.loc 1), some (.int most), some RD, some (plcD R.ps), some (.lst (A.map plcD)), some (.lst (E.map D.int)), none, some (.int (minOf E)), some (.int f), w9, w10] ∧ st = mkSt s2 (o ++ g1 ++ g2))
    (by
      rintro i is env st ⟨w9, w10, rfl, rfl⟩
      refine ⟨_, _, rfl, ?_⟩
      obtain ⟨a, ha⟩ : ∃ a : Nat, (f + 7 * (0 + (i : Int))) % (A.length : Int) = a := ⟨((f + 7 * (0 + (i : Int))) % (A.length : Int)).toNat, by have := Int.emod_nonneg (f + 7 * (0 + (i : Int))) (show (A.length : Int) ≠ 0 by omega); omega⟩
      have alt : a < A.length := by have := Int.emod_lt_of_pos (f + 7 * (0 + (i : Int))) (show (0 : Int) < A.length by omega); omega
      have md : ∀ t : Sto, oMod t (.int (f + 7 * (0 + (i : Int)))) (.int (A.length : Nat)) = some (.int (a : Nat)) := fun t => by
        show (if decide (0 < (A.length : Int)) then some (D.int ((f + 7 * (0 + (i : Int))) % (A.length : Int))) else none) = _
        rw [decide_eq_true (by omega), if_pos rfl, ha]
      have mm := fun t : Sto => o_mul (s := t) (mulOk_l (a := 7) (b := 0 + (i : Int)) (by decide) (by decide))
      have x1 : atI (A.map plcD) (a : Nat) = some (plcD A[a]) := by rw [at_nat (by rw [List.length_map]; exact alt), List.getElem_map]
      have x2 : atI (E.map D.int) (a : Nat) = some (.int E[a]) := by rw [at_nat (by rw [List.length_map]; omega), List.getElem_map]
      have hx := mem A[a] (List.getElem_mem alt)
      have q := kq A[a] hx (mkSt s2 (o ++ g1 ++ g2))
      have eE : E[a] = enL rs cs A[a] := by subst hE; rw [List.getElem_map]
      rw [em hx, ← eE] at q
      have q2 := eb (decide (E[a] = minOf E)) (mkSt s2 (o ++ g1 ++ g2))
      have ll : ∀ t : Sto, gLen t [.lst (A.map plcD)] = some (.int (A.length : Nat)) := fun t => by
        show some (D.int ((A.map plcD).length : Nat)) = _
        rw [List.length_map]
      simp only [b_l_small_right_f1]
      repeat (first | walk_at "ev" | simp only [mm, md, x1, x2, q, q2, Bool.not_true])
      exact ⟨_, _, rfl, _, _, rfl, rfl⟩)
    (List.range (min 60 (A.length : Int)).toNat) [some (.loc 1), some (.int most), some RD, some (plcD R.ps), some (.lst (A.map plcD)), some (.lst (E.map D.int)), none, some (.int (minOf E)), some (.int f), none, none] (mkSt s2 (o ++ g1 ++ g2)) ⟨none, none, rfl, rfl⟩
  rw [hst] at k4
  have rg := fun t : Sto => e_krng1 (s := t) (j := min 60 (A.length : Int)) (by omega) (by omega)
  have k4 : forL always (gN 9) (b_l_small_right_f1 (callN F (n + 6))) (rangeD 0 (min 60 (A.length : Int)).toNat) _ _ = _ := k4
  refine ⟨s2, g1 ++ g2, ?_, d2.mono (by omega)⟩
  have e0 : startE 11 [.loc 1, .int most] = [some (.loc 1), some (.int most), none, none, none, none, none, none, none, none, none] := rfl
  rw [call_eq (f := ⟨2, 11, b_l_small_right⟩) rfl rfl, ← List.append_assoc]
  simp only [e0, b_l_small_right]
  repeat (first | walk_at "ev" | simp only [k1, e_gtL, if_true, reduceIte, Nat.reduceAdd, k2, l1, mn, k3, e_par2', e_kpar2, rg, k4, e_kfnR])
/-! ### rigs built around an equilibrium -/
theorem bcord_spec (n : Nat) {s : Dr} {b : Int} (hs : DOk s b) (hb : 9 ≤ b) (o : Sto) {ps : List Int} (h2 : 2 ≤ ps.length) (h8 : ps.length ≤ 8) (hg : ∀ i j : Int, 0 ≤ i → i < ps.length → 0 ≤ j → j < ps.length → -100000000000 ≤ gap ps i j ∧ gap ps i j ≤ 100000000000) :
    ∃ (q : Cord × Int) (s' : Dr), callN F (n + 3) "_law_built_cord" [.loc 1, plcD ps] (mkSt s o) = some (ctD q, mkSt s' o) ∧ (CIx ps.length q.1 ∧ q.1.a ≠ q.1.b ∧ -2000000000000 ≤ q.1.len ∧ q.1.len ≤ 2000000000000 ∧ 1 ≤ q.1.w ∧ q.1.w ≤ 900) ∧ TC ps q.1 q.2 ∧ DOk s' (b - 9) := by
  have dr := draws_of (F := F) rfl (n + 1)
  have am := amounts_of (F := F) rfl rfl n
  have pr := pairs_of (F := F) rfl rfl n
  have on := ones_of (F := F) rfl rfl n
  obtain ⟨i, j, s1, k1, i0, i1, j0, j1, ne, d1⟩ := pr.n hs o (ps.length : Int) (by omega) (by omega) (by omega)
  obtain ⟨w, s2, k2, w0, w1, d2⟩ := dr.n d1 o 900 (by omega) (by omega) (by omega)
  obtain ⟨m, s3, k3, m0, m1, d3⟩ := am.n d2 o 50 (by omega) (by omega) (by omega)
  obtain ⟨y, s4, k4, y0, y1, d4⟩ := dr.n d3 o 4 (by omega) (by omega) (by omega)
  have xi := plG (x := ps) i0 i1
  have xj := plG (x := ps) j0 j1
  have hgap : pa ps j.toNat - pa ps i.toNat = gap ps i j := rfl
  have gb := hg i j i0 i1 j0 j1
  have e0 : startE 9 [.loc 1, plcD ps] = [some (.loc 1), some (plcD ps), none, none, none, none, none, none, none] := rfl
  rw [call_eq (f := ⟨2, 9, b_l_built_cord⟩) rfl rfl]
  simp only [e0, b_l_built_cord]
  by_cases hy0 : y = 0
  · refine ⟨(⟨i, j, gap ps i j + 1 + m, 1 + w⟩, 0), s4, ?_, ⟨⟨i0, i1, j0, j1⟩, ne, by show -2000000000000 ≤ gap ps i j + 1 + m; omega, by show gap ps i j + 1 + m ≤ 2000000000000; omega, by show 1 ≤ 1 + w; omega, by show 1 + w ≤ 900; omega⟩, ⟨by show (0 : Int) ≤ 0; omega, by show (0 : Int) ≤ 1 + w; omega, fun _ => rfl, fun h => by
      have h : gap ps i j + 1 + m < gap ps i j := h
      omega⟩, d4.mono (by omega)⟩
    repeat (first | walk_at "ev" | simp only [k1, e_gtT, if_true, reduceIte, Nat.reduceAdd, xi, xj, hgap, k2, k3, e_par2', e_kpar2, k4, decide_eq_true hy0, e_kfnR])
    rfl
  · by_cases hy1 : y = 1
    · refine ⟨(⟨i, j, gap ps i j - 1 - m, 1 + w⟩, 1 + w), s4, ?_, ⟨⟨i0, i1, j0, j1⟩, ne, by show -2000000000000 ≤ gap ps i j - 1 - m; omega, by show gap ps i j - 1 - m ≤ 2000000000000; omega, by show 1 ≤ 1 + w; omega, by show 1 + w ≤ 900; omega⟩, ⟨by show (0 : Int) ≤ 1 + w; omega, by show 1 + w ≤ 1 + w; omega, fun h => by
        have h : gap ps i j < gap ps i j - 1 - m := h
        omega, fun _ => rfl⟩, d4.mono (by omega)⟩
      repeat (first | walk_at "ev" | simp only [k1, e_gtT, if_true, reduceIte, Nat.reduceAdd, xi, xj, hgap, k2, k3, e_par2', e_kpar2, k4, decide_eq_false hy0, decide_eq_true hy1, e_kfnR])
      rfl
    · obtain ⟨z, s5, k5, z0, z1, d5⟩ := dr.n d4 o (1 + w + 1) (by omega) (by omega) (by omega)
      obtain ⟨td, s6, k6, ht, d6⟩ := on.l d5 o [.int 0, .int (1 + w), .int z] (by omega) (by simp) (by simp)
      obtain ⟨t, rfl, t0, t1⟩ : ∃ t : Int, td = .int t ∧ 0 ≤ t ∧ t ≤ 1 + w := by
        simp only [List.mem_cons, List.not_mem_nil, or_false] at ht
        rcases ht with rfl | rfl | rfl <;> exact ⟨_, rfl, by omega, by omega⟩
      refine ⟨(⟨i, j, gap ps i j, 1 + w⟩, t), s6, ?_, ⟨⟨i0, i1, j0, j1⟩, ne, by show -2000000000000 ≤ gap ps i j; omega, by show gap ps i j ≤ 2000000000000; omega, by show 1 ≤ 1 + w; omega, by show 1 + w ≤ 900; omega⟩, ⟨t0, t1, fun h => by
        have h : gap ps i j < gap ps i j := h
        omega, fun h => by
        have h : gap ps i j < gap ps i j := h
        omega⟩, d6.mono (by omega)⟩
      repeat (first | walk_at "ev" | simp only [k1, e_gtT, if_true, reduceIte, Nat.reduceAdd, xi, xj, hgap, k2, k3, e_par2', e_kpar2, k4, decide_eq_false hy0, decide_eq_false hy1, k5, k6, e_kfnR])
      rfl
theorem bbar_spec (n : Nat) {s : Dr} {b : Int} (hs : DOk s b) (hb : 6 ≤ b) (o : Sto) {ps : List Int} (h2 : 2 ≤ ps.length) (h8 : ps.length ≤ 8) (hg : ∀ i j : Int, 0 ≤ i → i < ps.length → 0 ≤ j → j < ps.length → -100000000000 ≤ gap ps i j ∧ gap ps i j ≤ 100000000000) :
    ∃ (q : Bar × Int) (s' : Dr), callN F (n + 3) "_law_built_bar" [.loc 1, plcD ps] (mkSt s o) = some (btD q, mkSt s' o) ∧ (BIx ps.length q.1 ∧ q.1.a ≠ q.1.b ∧ -2000000000000 ≤ q.1.len ∧ q.1.len ≤ 2000000000000) ∧ TB ps q.1 q.2 ∧ DOk s' (b - 6) := by
  have dr := draws_of (F := F) rfl (n + 1)
  have am := amounts_of (F := F) rfl rfl n
  have pr := pairs_of (F := F) rfl rfl n
  obtain ⟨i, j, s1, k1, i0, i1, j0, j1, ne, d1⟩ := pr.n hs o (ps.length : Int) (by omega) (by omega) (by omega)
  obtain ⟨m, s3, k3, m0, m1, d3⟩ := am.n d1 o 50 (by omega) (by omega) (by omega)
  obtain ⟨y, s4, k4, y0, y1, d4⟩ := dr.n d3 o 3 (by omega) (by omega) (by omega)
  have xi := plG (x := ps) i0 i1
  have xj := plG (x := ps) j0 j1
  have hgap : pa ps j.toNat - pa ps i.toNat = gap ps i j := rfl
  have gb := hg i j i0 i1 j0 j1
  have e0 : startE 6 [.loc 1, plcD ps] = [some (.loc 1), some (plcD ps), none, none, none, none] := rfl
  rw [call_eq (f := ⟨2, 6, b_l_built_bar⟩) rfl rfl]
  simp only [e0, b_l_built_bar]
  by_cases hy0 : y = 0
  · refine ⟨(⟨i, j, gap ps i j + 1 + m⟩, 0), s4, ?_, ⟨⟨i0, i1, j0, j1⟩, ne, by show -2000000000000 ≤ gap ps i j + 1 + m; omega, by show gap ps i j + 1 + m ≤ 2000000000000; omega⟩, ⟨by show (0 : Int) ≤ 0; omega, by show (0 : Int) ≤ 10000000; omega, by show gap ps i j ≤ gap ps i j + 1 + m; omega, fun _ => rfl⟩, d4.mono (by omega)⟩
    repeat (first | walk_at "ev" | simp only [k1, e_gtT, if_true, reduceIte, Nat.reduceAdd, xi, xj, hgap, k3, e_par2', e_kpar2, k4, decide_eq_true hy0, e_kfnR])
    rfl
  · refine ⟨(⟨i, j, gap ps i j⟩, m), s4, ?_, ⟨⟨i0, i1, j0, j1⟩, ne, by show -2000000000000 ≤ gap ps i j; omega, by show gap ps i j ≤ 2000000000000; omega⟩, ⟨m0, by show m ≤ 10000000; omega, by show gap ps i j ≤ gap ps i j; omega, fun h => by
      have h : gap ps i j < gap ps i j := h
      omega⟩, d4.mono (by omega)⟩
    repeat (first | walk_at "ev" | simp only [k1, e_gtT, if_true, reduceIte, Nat.reduceAdd, xi, xj, hgap, k3, e_par2', e_kpar2, k4, decide_eq_false hy0, e_kfnR])
    rfl
def RestsAt (p u : Int) (size : Int) (r : Ring) : Prop := p - size ≤ r.lo ∧ r.lo ≤ p ∧ p ≤ r.hi ∧ r.hi ≤ p + size ∧ ∃ x : Int, -20 ≤ x ∧ x ≤ 20 ∧ r.ld = x - u ∧ (0 < x → p = r.hi) ∧ (x < 0 → p = r.lo)
theorem bring_spec (n : Nat) {s : Dr} {b : Int} (hs : DOk s b) (hb : 10 ≤ b) (o : Sto) (p u : Int) {size : Int} (z0 : 0 ≤ size) (z1 : size ≤ 100000000000) :
    ∃ (r : Ring) (s' : Dr), callN F (n + 3) "_law_built_ring" [.loc 1, .int p, .int u, .int size] (mkSt s o) = some (ringD r, mkSt s' o) ∧ RestsAt p u size r ∧ DOk s' (b - 10) := by
  have dr := draws_of (F := F) rfl (n + 1)
  have am := amounts_of (F := F) rfl rfl n
  obtain ⟨a, s1, k1, a0, a1, d1⟩ := am.n hs o size (by omega) z0 (by omega)
  obtain ⟨c, s2, k2, c0, c1, d2⟩ := am.n d1 o size (by omega) z0 (by omega)
  obtain ⟨y, s3, k3, y0, y1, d3⟩ := dr.n d2 o 4 (by omega) (by omega) (by omega)
  obtain ⟨m, s4, k4, m0, m1, d4⟩ := am.n d3 o 20 (by omega) (by omega) (by omega)
  have e0 : startE 8 [.loc 1, .int p, .int u, .int size] = [some (.loc 1), some (.int p), some (.int u), some (.int size), none, none, none, none] := rfl
  rw [call_eq (f := ⟨4, 8, b_l_built_ring⟩) rfl rfl]
  simp only [e0, b_l_built_ring]
  by_cases hy0 : y = 0
  · refine ⟨⟨p, p + c, 0 - u - m⟩, s4, ?_, ⟨by simp only; omega, by simp only; omega, by simp only; omega, by simp only; omega, 0 - m, by omega, by omega, by simp only; omega, fun h => by omega, fun _ => rfl⟩, d4.mono (by omega)⟩
    repeat (first | walk_at "ev" | simp only [k1, k2, k3, k4, e_par2', e_kpar2, decide_eq_true hy0, e_kfnR])
    rfl
  · by_cases hy1 : y = 1
    · refine ⟨⟨p - a, p, m - u⟩, s4, ?_, ⟨by simp only; omega, by simp only; omega, by simp only; omega, by simp only; omega, m, by omega, by omega, rfl, fun _ => rfl, fun h => by omega⟩, d4.mono (by omega)⟩
      repeat (first | walk_at "ev" | simp only [k1, k2, k3, k4, e_par2', e_kpar2, decide_eq_false hy0, decide_eq_true hy1, e_kfnR])
      rfl
    · refine ⟨⟨p - a, p + c, 0 - u⟩, s4, ?_, ⟨by simp only; omega, by simp only; omega, by simp only; omega, by simp only; omega, 0, by omega, by omega, rfl, fun h => by omega, fun h => by omega⟩, d4.mono (by omega)⟩
      repeat (first | walk_at "ev" | simp only [k1, k2, k3, k4, e_par2', e_kpar2, decide_eq_false hy0, decide_eq_false hy1, e_kfnR])
      rfl
theorem pairs_zip (xs ys : List Int) : pairsD (xs.map D.int) (ys.map D.int) = (xs.zip ys).map fun q => .tup [.int q.1, .int q.2] := by
  induction xs generalizing ys with
  | nil => rfl
  | cons x xs ih =>
    cases ys with
    | nil => rfl
    | cons y ys =>
      show D.tup [.int x, .int y] :: pairsD (xs.map D.int) (ys.map D.int) = _
      rw [ih]
      rfl
def ring0 : Ring := ⟨0, 0, 0⟩
theorem res0 (n : Nat) : List.replicate n (D.int 0) = (resL (List.replicate n ring0) []).map D.int := by
  have : resL (List.replicate n ring0) [] = List.replicate n 0 := by
    apply ext_pa
    · rw [resL_len, List.length_replicate, List.length_replicate]
    · intro i hi
      rw [resL_len, List.length_replicate] at hi
      rw [pa_resL (by rw [List.length_replicate]; exact hi), List.map_replicate, pa_get (x := List.replicate n (0 : Int)) (by rw [List.length_replicate]; exact hi), pa_get (x := List.replicate n ring0.ld) (by rw [List.length_replicate]; exact hi)]
      simp [pullA, pullB, ring0]
  rw [this, List.map_replicate]
/-- what a built rig is -/
structure Built (rs : List Ring) (cs : List (Cord × Int)) (bs : List (Bar × Int)) (ps : List Int) : Prop where
  v : VRig rs (cs.map (·.1)) (bs.map (·.1))
  plc : Plc rs (bs.map (·.1)) ps
  sup : Sup rs cs bs ps
theorem built_of {size sh : Int} {rs : List Ring} {cs : List (Cord × Int)} {bs : List (Bar × Int)} {ps : List Int} (z0 : 3 ≤ size) (z1 : size ≤ 100000000000) (s0 : -1000000000000 + size ≤ sh) (s1 : sh + 2 * size ≤ 1000000000000)
    (n1 : 2 ≤ ps.length) (n2 : ps.length ≤ 6) (hp : ∀ p ∈ ps, sh ≤ p ∧ p ≤ sh + size) (rl : rs.length = ps.length) (c1 : cs.length ≤ 9) (b1 : bs.length ≤ 3)
    (hc : ∀ q ∈ cs, (CIx ps.length q.1 ∧ q.1.a ≠ q.1.b ∧ -2000000000000 ≤ q.1.len ∧ q.1.len ≤ 2000000000000 ∧ 1 ≤ q.1.w ∧ q.1.w ≤ 900) ∧ TC ps q.1 q.2)
    (hb : ∀ q ∈ bs, (BIx ps.length q.1 ∧ q.1.a ≠ q.1.b ∧ -2000000000000 ≤ q.1.len ∧ q.1.len ≤ 2000000000000) ∧ TB ps q.1 q.2)
    (hr : ∀ i (h : i < ps.length) (h' : i < rs.length), RestsAt ps[i] (pullA (lnL cs bs) (i : Nat) - pullB (lnL cs bs) (i : Nat)) size rs[i]) : Built rs cs bs ps := by
  refine ⟨⟨by omega, by omega, by rw [List.length_map]; omega, by rw [List.length_map]; omega, fun r hr' => ?_, fun c hc' => ?_, fun c hc' => ?_⟩, ⟨rl.symm, fun i hi => ?_, fun i hi => ?_, fun c hc' => ?_⟩, ⟨fun q hq => ?_, fun q hq => ?_, fun k hk => ?_⟩⟩
  · obtain ⟨i, hi, rfl⟩ := List.mem_iff_getElem.mp hr'
    have hps := hp ps[i] (List.getElem_mem (by omega))
    obtain ⟨e1, e2, e3, e4, x, x0, x1, e5, _⟩ := hr i (by omega) hi
    have ht : ∀ l ∈ lnL cs bs, 0 ≤ l.t ∧ l.t ≤ 40000000 := by
      intro l hl
      rcases List.mem_append.mp hl with z | z
      · obtain ⟨q, hq, rfl⟩ := List.mem_map.mp z
        obtain ⟨a1, a2⟩ := hc q hq
        exact ⟨a2.1, by have := a2.2.1; have := a1.2.2.2.2.2; show q.2 ≤ _; omega⟩
      · obtain ⟨q, hq, rfl⟩ := List.mem_map.mp z
        obtain ⟨a1, a2⟩ := hb q hq
        exact ⟨a2.1, by have := a2.2.1; show q.2 ≤ _; omega⟩
    have ll : (lnL cs bs).length ≤ 20 := by
      unfold lnL
      rw [List.length_append, List.length_map, List.length_map]
      omega
    have sa := sum_filter (fun l => decide (l.a = ((i : Nat) : Int))) ht
    have sb := sum_filter (fun l => decide (l.z = ((i : Nat) : Int))) ht
    have pa0 : 0 ≤ pullA (lnL cs bs) (i : Nat) ∧ pullA (lnL cs bs) (i : Nat) ≤ 800000000 := ⟨sa.1, Int.le_trans sa.2 (by omega)⟩
    have pb0 : 0 ≤ pullB (lnL cs bs) (i : Nat) ∧ pullB (lnL cs bs) (i : Nat) ≤ 800000000 := ⟨sb.1, Int.le_trans sb.2 (by omega)⟩
    rw [e5]
    omega
  · obtain ⟨q, hq, rfl⟩ := List.mem_map.mp hc'
    obtain ⟨a, b, c, d, e, f⟩ := (hc q hq).1
    rw [rl]
    exact ⟨a, b, c, d, e, by omega⟩
  · obtain ⟨q, hq, rfl⟩ := List.mem_map.mp hc'
    rw [rl]
    exact (hb q hq).1
  · unfold losL
    rw [pa_map hi, pa_get (by omega)]
    exact (hr i (by omega) hi).2.1
  · unfold hisL
    rw [pa_map hi, pa_get (by omega)]
    exact (hr i (by omega) hi).2.2.1
  · obtain ⟨q, hq, rfl⟩ := List.mem_map.mp hc'
    exact (hb q hq).2.2.2.1
  · obtain ⟨_, t0, t1, t2, t3⟩ := hc q hq
    refine ⟨⟨t0, t1⟩, fun hc => ?_, fun hc => ?_⟩
    · apply Classical.byContradiction
      intro hn
      have := t3 (by omega)
      omega
    · apply Classical.byContradiction
      intro hn
      have := t2 (by omega)
      omega
  · obtain ⟨_, t0, t1, t2, t3⟩ := hb q hq
    refine ⟨t0, fun hc => ?_⟩
    apply Classical.byContradiction
    intro hn
    have := t3 (by omega)
    omega
  · have hq : k < ps.length := by omega
    obtain ⟨e1, e2, e3, e4, x, x0, x1, e5, u1, u2⟩ := hr k hq hk
    have er : pa (resL rs (lnL cs bs)) k = x := by
      rw [pa_resL hk, pa_map hk, e5]
      omega
    have ep : pa ps k = ps[k] := pa_get hq
    have el : pa (losL rs) k = rs[k].lo := by unfold losL; rw [pa_map hk]
    have eh : pa (hisL rs) k = rs[k].hi := by unfold hisL; rw [pa_map hk]
    rw [er, ep, el, eh]
    exact ⟨fun hx => by have := u2 hx; omega, fun hx => by have := u1 hx; omega⟩
set_option maxHeartbeats 16000000 in
theorem built_spec (n : Nat) {s : Dr} {b : Int} (hs : DOk s b) (hb : 190 ≤ b) (o : Sto) :
    ∃ (rs : List Ring) (cs : List (Cord × Int)) (bs : List (Bar × Int)) (ps : List Int) (s' : Dr) (g : Sto), callN F (n + 4) "_law_built" [.loc 1] (mkSt s o) = some (.lst [rigD rs (cs.map (·.1)) (bs.map (·.1)), plcD ps], mkSt s' (o ++ g)) ∧ Built rs cs bs ps ∧ DOk s' (b - 190) := by
  have dr := draws_of (F := F) rfl (n + 2)
  have am := amounts_of (F := F) rfl rfl (n + 1)
  have on := ones_of (F := F) rfl rfl (n + 1)
  obtain ⟨c, s1, k1, c0, c1, d1⟩ := dr.n hs o 5 (by omega) (by omega) (by omega)
  obtain ⟨zd, s2, k2, hz, d2⟩ := on.l d1 o [.int 3, .int 10000, .int 100000000000] (by omega) (by simp) (by simp)
  obtain ⟨size, rfl, z0, z1⟩ : ∃ t : Int, zd = .int t ∧ 3 ≤ t ∧ t ≤ 100000000000 := by
    simp only [List.mem_cons, List.not_mem_nil, or_false] at hz
    rcases hz with rfl | rfl | rfl <;> exact ⟨_, rfl, by omega, by omega⟩
  obtain ⟨hd, s3, k3, hh, d3⟩ := on.l d2 o [.int 0, .int (1000000000000 - 2 * size), .int (size - 1000000000000), .int 700000000000] (by omega) (by simp) (by simp)
  obtain ⟨sh, rfl, h0, h1⟩ : ∃ t : Int, hd = .int t ∧ -1000000000000 + size ≤ t ∧ t + 2 * size ≤ 1000000000000 := by
    simp only [List.mem_cons, List.not_mem_nil, or_false] at hh
    rcases hh with rfl | rfl | rfl | rfl <;> exact ⟨_, rfl, by omega, by omega⟩
  obtain ⟨m, em⟩ : ∃ m : Nat, 2 + c = m := ⟨(2 + c).toNat, by omega⟩
  have em' : (2 + c).toNat = m := by omega
  have m2 : 2 ≤ m := by omega
  have m6 : m ≤ 6 := by omega
  -- places
  obtain ⟨ys, s4, k4, r4, d4⟩ := lc_drawC (chk := always) (tg := gN 5) (ifs := bYes) (elt := eOp oAdd (eVar 3) (eCall (callN F (n + 3)) "_law_amount" (aCons (eVar 0) (aCons (eVar 2) aNil)))) (env := [some (.loc 1), some (.int (2 + c)), some (.int size), some (.int sh), none, none, none, none, none, none, none, none, none, none, none]) (fun i : Nat => D.int (0 + (i : Int))) 3 (by omega) (fun _ y => ∃ z, y = D.int z ∧ (sh ≤ z ∧ z ≤ sh + size)) o (fun _ => rfl) (List.range m) s3 _ d3 (by rw [List.length_range]; omega) (by
    intro i _ s b d hb
    obtain ⟨r, s5, k, r0, r1, d5⟩ := am.n d o size hb (by omega) (by omega)
    refine ⟨_, .int (sh + r), s5, rfl, rfl, ?_, ⟨_, rfl, by omega, by omega⟩, d5⟩
    repeat (first | walk_at "ev" | simp only [k]))
  obtain ⟨ps, rfl, q4⟩ := Rel2.pre r4
  have pl : ps.length = m := by rw [Rel2.len q4, List.length_range]
  have hp : ∀ p ∈ ps, sh ≤ p ∧ p ≤ sh + size := fun p hp => by
    obtain ⟨_, _, q⟩ := Rel2.mem q4 p hp
    exact q
  have hg : ∀ i j : Int, 0 ≤ i → i < ps.length → 0 ≤ j → j < ps.length → -100000000000 ≤ gap ps i j ∧ gap ps i j ≤ 100000000000 := fun i j i0 i1 j0 j1 => by
    have a := hp (pa ps i.toNat) (by rw [pa_get (by omega)]; exact List.getElem_mem _)
    have b := hp (pa ps j.toNat) (by rw [pa_get (by omega)]; exact List.getElem_mem _)
    rw [gap_pa]
    omega
  rw [List.length_range] at d4
  obtain ⟨o1, ho1⟩ : ∃ o1 : Sto, o1 = o ++ [[D.int 0]] := ⟨_, rfl⟩
  have mk1 : mkSt s4 o ++ [[D.int 0]] = mkSt s4 o1 := by rw [ho1]; rfl
  have rp0 : (mkSt s4 o1) ++ [List.replicate m (D.int 0)] = mkSt s4 (o1 ++ [List.replicate m (D.int 0)]) := rfl
  -- cords
  obtain ⟨nc, s5, k5, nc0, nc1, d5⟩ := dr.n d4 (o1 ++ [List.replicate m (D.int 0)]) 10 (by omega) (by omega) (by omega)
  obtain ⟨ys, s6, k6, r6, d6⟩ := lc_drawC (chk := always) (tg := gN 5) (ifs := bYes) (elt := eCall (callN F (n + 3)) "_law_built_cord" (aCons (eVar 0) (aCons (eVar 4) aNil))) (env := [some (.loc 1), some (.int (2 + c)), some (.int size), some (.int sh), some (plcD ps), none, some (.loc (mkSt s4 o1).length), none, none, none, none, none, none, none, none]) (fun i : Nat => D.int (0 + (i : Int))) 9 (by omega) (fun _ y => ∃ q, y = ctD q ∧ ((CIx ps.length q.1 ∧ q.1.a ≠ q.1.b ∧ -2000000000000 ≤ q.1.len ∧ q.1.len ≤ 2000000000000 ∧ 1 ≤ q.1.w ∧ q.1.w ≤ 900) ∧ TC ps q.1 q.2)) (o1 ++ [List.replicate m (D.int 0)]) (fun _ => rfl) (List.range nc.toNat) s5 _ d5 (by rw [List.length_range]; omega) (by
    intro i _ s b d hb
    obtain ⟨q, s5, k, h1, h2, d5⟩ := bcord_spec n d hb (o1 ++ [List.replicate m (D.int 0)]) (ps := ps) (by omega) (by omega) hg
    refine ⟨_, ctD q, s5, rfl, rfl, ?_, ⟨_, rfl, h1, h2⟩, d5⟩
    repeat (first | walk_at "ev" | simp only [k]))
  obtain ⟨cs, rfl, q6⟩ := Rel2.pre r6
  have cl : cs.length ≤ 9 := by rw [Rel2.len q6, List.length_range]; omega
  have hc := fun q hq => (Rel2.mem q6 q hq).elim fun _ w => w.2
  rw [List.length_range] at d6
  -- bars
  obtain ⟨nb, s7, k7, nb0, nb1, d7⟩ := dr.n d6 (o1 ++ [List.replicate m (D.int 0)]) 4 (by omega) (by omega) (by omega)
  obtain ⟨ys, s8, k8, r8, d8⟩ := lc_drawC (chk := always) (tg := gN 5) (ifs := bYes) (elt := eCall (callN F (n + 3)) "_law_built_bar" (aCons (eVar 0) (aCons (eVar 4) aNil))) (env := [some (.loc 1), some (.int (2 + c)), some (.int size), some (.int sh), some (plcD ps), none, some (.loc (mkSt s4 o1).length), some (.lst (cs.map ctD)), none, none, none, none, none, none, none]) (fun i : Nat => D.int (0 + (i : Int))) 6 (by omega) (fun _ y => ∃ q, y = btD q ∧ ((BIx ps.length q.1 ∧ q.1.a ≠ q.1.b ∧ -2000000000000 ≤ q.1.len ∧ q.1.len ≤ 2000000000000) ∧ TB ps q.1 q.2)) (o1 ++ [List.replicate m (D.int 0)]) (fun _ => rfl) (List.range nb.toNat) s7 _ d7 (by rw [List.length_range]; omega) (by
    intro i _ s b d hb
    obtain ⟨q, s5, k, h1, h2, d5⟩ := bbar_spec n d hb (o1 ++ [List.replicate m (D.int 0)]) (ps := ps) (by omega) (by omega) hg
    refine ⟨_, btD q, s5, rfl, rfl, ?_, ⟨_, rfl, h1, h2⟩, d5⟩
    repeat (first | walk_at "ev" | simp only [k]))
  obtain ⟨bs, rfl, q8⟩ := Rel2.pre r8
  have bl : bs.length ≤ 3 := by rw [Rel2.len q8, List.length_range]; omega
  have hb' := fun q hq => (Rel2.mem q8 q hq).elim fun _ w => w.2
  rw [List.length_range] at d8
  -- the pulls
  have hl : ∀ l ∈ lnL cs bs, LnIx m l := by
    intro l hl
    rcases List.mem_append.mp hl with z | z
    · obtain ⟨q, hq, rfl⟩ := List.mem_map.mp z
      obtain ⟨a0, a1, b0, b1⟩ := (hc q hq).1.1
      exact ⟨a0, by show q.1.a < _; omega, b0, by show q.1.b < _; omega⟩
    · obtain ⟨q, hq, rfl⟩ := List.mem_map.mp z
      obtain ⟨a0, a1, b0, b1⟩ := (hb' q hq).1.1
      exact ⟨a0, by show q.1.a < _; omega, b0, by show q.1.b < _; omega⟩
  have ladd : ∀ t : Sto, oAdd t (.lst (cs.map ctD)) (.lst (bs.map btD)) = some (.lst ((lnL cs bs).map Ln.d)) := fun t => by
    rw [← lnL_d]
    exact add_lst (by rw [List.length_map, List.length_map]; omega)
  have stl : (mkSt s4 o1).length = (mkSt s8 o1).length := rfl
  obtain ⟨env', st', k9, es, w9, w10, he, rfl, hst⟩ := for_rel (tg := gT 2 (gsCons (gN 9) (gsCons (gN 10) gsNil))) (body := b_l_built_f1 (callN F (n + 3))) Ln.d
    (fun ys env s => ∃ (es : List Ln) (v9 v10 : Option D), es ++ ys = lnL cs bs ∧ env = [some (.loc 1), some (.int (2 + c)), some (.int size), some (.int sh), some (plcD ps), none, some (.loc (mkSt s8 o1).length), some (.lst (cs.map ctD)), some (.lst (bs.map btD)), v9, v10, none, none, none, none] ∧ s = mkSt s8 o1 ++ [(resL (List.replicate m ring0) es).map D.int])
    (by
      rintro l ys env s ⟨es, v9, v10, he, rfl, rfl⟩
      refine ⟨[some (.loc 1), some (.int (2 + c)), some (.int size), some (.int sh), some (plcD ps), none, some (.loc (mkSt s8 o1).length), some (.lst (cs.map ctD)), some (.lst (bs.map btD)), some l.p, some (.int l.t), none, none, none, none], _, by rw [Ln.d_eq]; rfl, ?_⟩
      obtain ⟨a0, a1, b0, b1⟩ := hl l (by rw [← he]; simp)
      obtain ⟨A, eA⟩ : ∃ A : Nat, l.a = A := ⟨l.a.toNat, by omega⟩
      obtain ⟨B, eB⟩ : ∃ B : Nat, l.z = B := ⟨l.z.toNat, by omega⟩
      have hA : A < (List.replicate m ring0).length := by rw [List.length_replicate]; omega
      have hB : B < (List.replicate m ring0).length := by rw [List.length_replicate]; omega
      have i0 := fun s => Ln.ix0 l s
      have i1 := fun s => Ln.ix1 l s
      rw [eA] at i0
      rw [eB] at i1
      generalize mkSt s8 o1 = st
      generalize List.replicate m ring0 = rs at *
      have g1 : atI ((resL rs es).map D.int) (A : Nat) = some (.int (pa (resL rs es) A)) := row_at (by rw [resL_len]; exact hA)
      have g2 : atI (((resL rs es).set A (pa (resL rs es) A + l.t)).map D.int) (B : Nat) = some (.int (pa ((resL rs es).set A (pa (resL rs es) A + l.t)) B)) := row_at (by rw [List.length_set, resL_len]; exact hB)
      have s1 := set_lastI (st := st) (xs := resL rs es) (i := A) (v := pa (resL rs es) A + l.t) (by rw [resL_len]; exact hA)
      have s2 := set_lastI (st := st) (xs := (resL rs es).set A (pa (resL rs es) A + l.t)) (i := B) (v := pa ((resL rs es).set A (pa (resL rs es) A + l.t)) B - l.t) (by rw [List.length_set, resL_len]; exact hB)
      simp only [b_l_built_f1]
      repeat (first | walk_at "ev" | simp only [i0, i1, ix_last, g1, s1, g2, s2])
      exact ⟨_, _, rfl, es ++ [l], _, _, by rw [List.append_assoc]; exact he, rfl, by rw [res_step eA eB hA hB]⟩)
    (lnL cs bs) [some (.loc 1), some (.int (2 + c)), some (.int size), some (.int sh), some (plcD ps), none, some (.loc (mkSt s8 o1).length), some (.lst (cs.map ctD)), some (.lst (bs.map btD)), none, none, none, none, none, none] (mkSt s8 (o1 ++ [List.replicate m (D.int 0)])) ⟨[], none, none, rfl, rfl, by rw [← res0]; rfl⟩
  rw [List.append_nil] at he
  subst he
  rw [hst] at k9
  generalize hU : resL (List.replicate m ring0) (lnL cs bs) = U at *
  have Ul : U.length = m := by rw [← hU, resL_len, List.length_replicate]
  have eU : ∀ k, k < m → pa U k = pullA (lnL cs bs) k - pullB (lnL cs bs) k := fun k hk => by
    rw [← hU, pa_resL (by rw [List.length_replicate]; exact hk), List.map_replicate, pa_get (x := List.replicate m ring0.ld) (by rw [List.length_replicate]; exact hk)]
    simp [ring0]
  have mk9 : mkSt s8 o1 ++ [U.map D.int] = mkSt s8 (o1 ++ [U.map D.int]) := rfl
  rw [mk9] at k9
  -- the rings
  have lst : ∀ s : Dr, (mkSt s (o1 ++ [U.map D.int]))[(mkSt s8 o1).length]? = some (U.map D.int) := fun s => by
    have : mkSt s (o1 ++ [U.map D.int]) = mkSt s o1 ++ [U.map D.int] := rfl
    rw [this, show (mkSt s8 o1).length = (mkSt s o1).length from rfl, List.getElem?_append_right (Nat.le_refl _), Nat.sub_self]
    rfl
  have chk : ∀ s : Dr, both always (unchanged (mkSt s8 o1).length (U.map D.int)) (mkSt s (o1 ++ [U.map D.int])) = true := fun s => by
    show (true && unchanged (mkSt s8 o1).length _ _) = true
    rw [Bool.true_and]
    exact unchanged_iff.mpr (lst s)
  have zs : zipSrc (mkSt s8 (o1 ++ [U.map D.int])) (plcD ps) (.loc (mkSt s8 o1).length) = some (both always (unchanged (mkSt s8 o1).length (U.map D.int)), (ps.zip U).map fun q => .tup [.int q.1, .int q.2]) := by
    have : ksrc (mkSt s8 (o1 ++ [U.map D.int])) (.loc (mkSt s8 o1).length) = some (.l, unchanged (mkSt s8 o1).length (U.map D.int), U.map D.int) := by
      show (((mkSt s8 (o1 ++ [U.map D.int]))[(mkSt s8 o1).length]?).map _) = _
      rw [lst]
      rfl
    show (ksrc _ (.loc (mkSt s8 o1).length)).map _ = _
    rw [this]
    show some (_, pairsD (ps.map D.int) (U.map D.int)) = _
    rw [pairs_zip]
  obtain ⟨ys, s10, k10, r10, d10⟩ := lc_drawC (chk := both always (unchanged (mkSt s8 o1).length (U.map D.int))) (tg := gT 2 (gsCons (gN 12) (gsCons (gN 13) gsNil))) (ifs := bYes) (elt := eCall (callN F (n + 3)) "_law_built_ring" (aCons (eVar 0) (aCons (eVar 12) (aCons (eVar 13) (aCons (eVar 2) aNil))))) (env := [some (.loc 1), some (.int (2 + c)), some (.int size), some (.int sh), some (plcD ps), none, some (.loc (mkSt s8 o1).length), some (.lst (cs.map ctD)), some (.lst (bs.map btD)), w9, w10, none, none, none, none]) (fun q : Int × Int => D.tup [.int q.1, .int q.2]) 10 (by omega) (fun q y => ∃ r, y = ringD r ∧ RestsAt q.1 q.2 size r) (o1 ++ [U.map D.int]) chk (ps.zip U) s8 _ d8 (by rw [List.length_zip]; omega) (by
    intro q _ s b d hb
    obtain ⟨r, s5, k, h1, d5⟩ := bring_spec n d hb (o1 ++ [U.map D.int]) q.1 q.2 (size := size) (by omega) (by omega)
    refine ⟨_, ringD r, s5, rfl, rfl, ?_, ⟨_, rfl, h1⟩, d5⟩
    repeat (first | walk_at "ev" | simp only [k]))
  obtain ⟨rs, rfl, q10⟩ := Rel2.pre r10
  have rl : rs.length = ps.length := by rw [Rel2.len q10, List.length_zip]; omega
  refine ⟨rs, cs, bs, ps, s10, [[D.int 0], U.map D.int], ?_, built_of z0 z1 h0 h1 (by omega) (by omega) hp rl cl bl hc hb' (fun i hi hi' => ?_), d10.mono (by rw [List.length_zip]; omega)⟩
  · have l1 : ∀ env : En, ∀ s : Sto, lcL always (gN 9) bYes (eOp oIx (eVar 9) (eC (.int 0))) [some (.loc 1), some (.int (2 + c)), some (.int size), some (.int sh), some (plcD ps), none, some (.loc (mkSt s8 o1).length), some (.lst (cs.map ctD)), some (.lst (bs.map btD)), none, w10, some (.tup (rs.map ringD)), none, none, none] (cs.map ctD) s = some (cs.map fun q => cordD q.1, s) := fun env s => lc_map ctD (fun q => cordD q.1) cs (by
      intro r _
      exact ⟨_, rfl, rfl, rfl⟩)
    have l2 : ∀ s : Sto, lcL always (gN 14) bYes (eOp oIx (eVar 14) (eC (.int 0))) [some (.loc 1), some (.int (2 + c)), some (.int size), some (.int sh), some (plcD ps), none, some (.loc (mkSt s8 o1).length), some (.lst (cs.map ctD)), some (.lst (bs.map btD)), w9, w10, some (.tup (rs.map ringD)), none, none, none] (bs.map btD) s = some (bs.map fun q => barD q.1, s) := fun s => lc_map btD (fun q => barD q.1) bs (by
      intro r _
      exact ⟨_, rfl, rfl, rfl⟩)
    have l1 := l1 []
    have e1 : rigD rs (cs.map (·.1)) (bs.map (·.1)) = .tup [.tup (rs.map ringD), .tup (cs.map fun q => cordD q.1), .tup (bs.map fun q => barD q.1)] := by
      unfold rigD
      rw [List.map_map, List.map_map]
      rfl
    rw [e1]
    have p4 : ∀ t : Sto, oPow t (.int 10) (.int 4) = some (.int 10000) := fun _ => rfl
    have p11 : ∀ t : Sto, oPow t (.int 10) (.int 11) = some (.int 100000000000) := fun _ => rfl
    have p12 : ∀ t : Sto, oPow t (.int 10) (.int 12) = some (.int 1000000000000) := fun _ => rfl
    have m1 : ∀ t : Sto, oMul t (.int 2) (.int size) = some (.int (2 * size)) := fun t => o_mul (mulOk_l (by decide) (by decide))
    have m7 : ∀ t : Sto, oMul t (.int 7) (.int 100000000000) = some (.int 700000000000) := fun t => rfl
    have g1 := fun t : Sto => e_krng1 (s := t) (j := 2 + c) (by omega) (by omega)
    have g2 := fun t : Sto => e_krng1 (s := t) (j := nc) (by omega) (by omega)
    have g3 := fun t : Sto => e_krng1 (s := t) (j := nb) (by omega) (by omega)
    have lo1 : lstOf (mkSt s4 o1) (.loc (mkSt s4 o).length) = some [.int 0] := by
      rw [← mk1]
      show (mkSt s4 o ++ [[D.int 0]])[(mkSt s4 o).length]? = _
      rw [List.getElem?_append_right (Nat.le_refl _), Nat.sub_self]
      rfl
    have rp := e_krep2 (d := .int 0) (k := m) (s := mkSt s4 o1) (by omega) lo1
    rw [← em] at rp
    have k4 : lcL always (gN 5) bYes _ _ (rangeD 0 m) _ = _ := k4
    have k6 : lcL always (gN 5) bYes _ _ (rangeD 0 nc.toNat) _ = _ := k6
    have k8 : lcL always (gN 5) bYes _ _ (rangeD 0 nb.toNat) _ = _ := k8
    rw [← em'] at k4
    rw [stl] at k6 k8
    have e0 : startE 15 [.loc 1] = [some (.loc 1), none, none, none, none, none, none, none, none, none, none, none, none, none, none] := rfl
    rw [call_eq (f := ⟨1, 15, b_l_built⟩) rfl rfl]
    simp only [e0, b_l_built]
    repeat (first | walk_at "ev" | simp only [k1, k2, k3, p4, p11, p12, m1, m7, g1, g2, g3, k4, e_gtT, if_true, reduceIte, Nat.reduceAdd, mk1, rp, rp0, stl, k5, k6, k7, k8, ladd, k9, zs, k10, l1, l2, e_kfnR])
    rw [ho1, List.append_assoc]
    rfl
  · have q := Rel2.get q10 i (by rw [List.length_zip]; omega) hi'
    rw [List.getElem_zip] at q
    have e : U[i]'(by omega) = pullA (lnL cs bs) (i : Nat) - pullB (lnL cs bs) (i : Nat) := by
      rw [← eU i (by omega), pa_get (by omega)]
    rw [← e]
    exact q
def lawP (sc : D) (is : List Nat) (env : En) (st : Sto) : Prop := ∃ (s : Dr) (o : Sto) (v2 v3 v4 v5 v6 v7 : Option D), env = [some sc, some (.loc 1), v2, v3, v4, v5, v6, v7] ∧ st = mkSt s o ∧ DOk s (304 * is.length)
set_option maxHeartbeats 16000000 in
theorem law_step (n : Nat) (sc : D) (i : Nat) (is : List Nat) (env : En) (st : Sto) (h : lawP sc (i :: is) env st) :
    ∃ e s, gN 2 (.int (0 + (i : Int))) env st = some (e, s) ∧ ∃ e2 s2, b_law_f2 (callN F (n + 6)) e s = some (.nx e2, s2) ∧ lawP sc is e2 s2 := by
  obtain ⟨s, o, v2, v3, v4, v5, v6, v7, rfl, rfl, hd⟩ := h
  rw [List.length_cons] at hd
  refine ⟨_, _, rfl, ?_⟩
  obtain ⟨rs, cs, bs, x, s1, g1, k1, ⟨v, hx, S⟩, d1⟩ := built_spec (n + 2) hd (by omega) o
  have cx : (∀ q ∈ cs, CIx rs.length q.1) ∧ ∀ q ∈ bs, BIx rs.length q.1 := ⟨fun q hq => (v.cord q.1 (List.mem_map.mpr ⟨q, hq, rfl⟩)).1, fun q hq => (v.bar q.1 (List.mem_map.mpr ⟨q, hq, rfl⟩)).1⟩
  have sm := fun {y : List Int} (hy : Plc rs (bs.map (·.1)) y) => sup_min S hx hy cx.1 cx.2
  generalize hc : cs.map (·.1) = cs' at *
  generalize hb : bs.map (·.1) = bs' at *
  have ex : eqlB rs cs' bs' x = true := (eql_iff v hx).mpr fun y hy => (sm hy).1
  have ey : ∀ y, Plc rs bs' y → eqlB rs cs' bs' y = decide (enL rs cs' y = enL rs cs' x) := fun y hy => by
    rw [Bool.eq_iff_iff, decide_eq_true_eq]
    constructor
    · intro h
      have h1 := (eql_iff v hy).mp h x hx
      have h2 := (sm hy).1
      omega
    · intro h
      exact (eql_iff v hy).mpr fun z hz => by rw [h]; exact (sm hz).1
  have k1 : callN F (n + 6) "_law_built" [.loc 1] (mkSt s o) = some (.lst [rigD rs cs' bs', plcD x], mkSt s1 (o ++ g1)) := k1
  have wd := fun {s : Dr} {b : Int} (hd : DOk s b) (hb : 19 ≤ b) (o : Sto) => wander_spec (F := F) rfl rfl rfl rfl rfl rfl rfl rfl rfl (n + 3) v hx hd hb o
  have ke : ∀ (x : List Int) (hx : Plc rs bs' x) (st : Sto), callN F (n + 6) "_law_energy" [rigD rs cs' bs', plcD x] st = some (.int (enL rs cs' x), st) := fun x hx st => lenergy_spec (F := F) rfl rfl (n + 4) (v.e hx.len) st
  have kq := fun (x : List Int) (hx : Plc rs bs' x) (st : Sto) => equil_spec (F := F) rfl rfl rfl rfl rfl rfl rfl rfl rfl (n + 1) v hx.len st
  have eb := fun (p : Bool) (st : Sto) => eq2 (F := F) rfl (n := n + 5) (k := 0) (d := .bl p) pl_bl (by omega) st
  generalize hRD : rigD rs cs' bs' = RD at *
  obtain ⟨env', st', k, s3, w6, w7, rfl, hst, d3⟩ := for_rel (tg := gN 6) (body := b_law_f1 (callN F (n + 6))) (fun i : Nat => D.int (0 + (i : Int)))
    (fun is' env st => ∃ (s : Dr) (w6 w7 : Option D), env = [some sc, some (.loc 1), some (.int (0 + (i : Int))), some RD, some (plcD x), some (.int (enL rs cs' x)), w6, w7] ∧ st = mkSt s (o ++ g1) ∧ DOk s (304 * is.length + 19 * is'.length))
    (by
      rintro j is' env st ⟨s, w6, w7, rfl, rfl, d3⟩
      rw [List.length_cons] at d3
      refine ⟨_, _, rfl, ?_⟩
      obtain ⟨y, s', k5, hy, d4⟩ := wd d3 (by omega) (o ++ g1)
      have q := kq y hy (mkSt s' (o ++ g1))
      have q2 := ke y hy (mkSt s' (o ++ g1))
      rw [ey y hy] at q
      have q3 := eb (decide (enL rs cs' y = enL rs cs' x)) (mkSt s' (o ++ g1))
      simp only [b_law_f1]
      repeat (first | walk_at "ev" | simp only [k5, q, q2, q3, Bool.not_true])
      exact ⟨_, _, rfl, s', _, _, rfl, rfl, d4.mono (by omega)⟩)
    (List.range 6) [some sc, some (.loc 1), some (.int (0 + (i : Int))), some RD, some (plcD x), some (.int (enL rs cs' x)), v6, v7] (mkSt s1 (o ++ g1)) ⟨s1, _, _, rfl, rfl, d1.mono (by simp; omega)⟩
  rw [hst] at k
  have r6 := fun t : Sto => e_krng1 (s := t) (j := 6) (by omega) (by omega)
  have k : forL always (gN 6) (b_law_f1 (callN F (n + 6))) (rangeD 0 (Int.toNat 6)) _ _ = _ := k
  have q0 := kq x hx (mkSt s1 (o ++ g1))
  rw [ex] at q0
  have q1 := ke x hx (mkSt s1 (o ++ g1))
  have isn : ∀ t : Sto, oIsNot t (.bl true) (.bl true) = some (.bl false) := fun _ => rfl
  simp only [b_law_f2]
  repeat (first | walk_at "ev" | simp only [k1, e_gtL, if_true, reduceIte, Nat.reduceAdd, q0, q1, isn, r6, k])
  exact ⟨_, _, rfl, s3, _, _, _, _, _, _, _, rfl, rfl, d3.mono (by simp)⟩
theorem main (ns : List Int) (hl : ns.length ≤ 63) (_ : ∀ z ∈ ns, Builtin.Int.intBits z ≤ 1048576) : ∃ st', callN F 14 "law" [.scr (ns.map D.int)] [] = some (.bl true, st') := by
  rw [call_eq (f := ⟨1, 8, b_law⟩) rfl rfl]
  have e0 : startE 8 [.scr (ns.map D.int)] = [some (.scr (ns.map D.int)), none, none, none, none, none, none, none] := rfl
  obtain ⟨s, k1, hs⟩ := draws_spec (F := F) rfl 12 ns hl
  obtain ⟨s1, g1, k2, d1⟩ := small_spec 6 (hs.mono (show (1600 : Int) ≤ _ by omega)) (by omega) [] (most := 4) (by omega) (by omega)
  obtain ⟨s2, g2, k3, d2⟩ := small_spec 6 d1 (by omega) ([] ++ g1) (most := 3) (by omega) (by omega)
  obtain ⟨env1, st1, f1, s4, o4, v2, v3, v4, v5, v6, v7, rfl, rfl, d4⟩ := for_rel (tg := gN 2) (body := b_law_f2 (callN F 13)) (fun i : Nat => D.int (0 + (i : Int))) (lawP (.scr (ns.map D.int)))
    (fun d ds env st h => law_step 7 _ d ds env st h) (List.range 3)
    [some (.scr (ns.map D.int)), some (.loc 1), none, none, none, none, none, none] (mkSt s2 ([] ++ g1 ++ g2))
    ⟨s2, _, none, none, none, none, none, none, rfl, rfl, d2.mono (by simp)⟩
  have r3 := fun t : Sto => e_krng1 (s := t) (j := 3) (by omega) (by omega)
  have f1 : forL always (gN 2) (b_law_f2 (callN F 13)) (rangeD 0 (Int.toNat 3)) _ _ = _ := f1
  simp only [e0, b_law]
  repeat (first | walk_at "ev" | simp only [k1, k2, k3, Bool.not_true, r3, f1, e_kfnR])
  exact ⟨_, rfl⟩
end W_k13
open PySem PySem.W PySem.Calls PyProof.Rows
theorem PySem.Challenge.cw_tugrings_k13_equilibria_have_least_energ_holds : PySem.Challenge.rw_tugrings_k13_equilibria_have_least_energ.Holds := by
  w_on; o_law
  refine HandSHeadRun.head_any (r := OpenLaw.row PySem.Challenge.rw_tugrings_k13_equilibria_have_least_energ) (q := view (OpenLaw.row PySem.Challenge.rw_tugrings_k13_equilibria_have_least_energ).prog [36]) (H := W_k13.hk) (ob := W_k13.ob) (M := 4000) (loose := W_k13.loose) (d := HandSHeadRun.topDef (OpenLaw.row PySem.Challenge.rw_tugrings_k13_equilibria_have_least_energ).prog 36) (kwd := []) W_k13.ob_eq
    (by kernel_rfl) (fun s => by kernel_rfl) W_k13.run (by kernel_rfl) (by kernel_rfl) (by kernel_rfl) (by rfl) (by first | assumption | decide +kernel) (by decide +kernel) ⟨rfl, rfl, rfl, rfl, rfl, by decide +kernel⟩ ?hw ?hc
  case hw => w_witness2
  case hc =>
    refine Tg.law_walk (l := PySem.Challenge.rw_tugrings_k13_equilibria_have_least_energ) (n := 63) (k := 14) (F := W_k13.F) (glb := W_k13.glb) (blt := W_k13.blt) (ds := W_k13.ds) (dl := W_k13.d_law) (x := "_law_script") rfl (by decide) (by kernel_rfl) ⟨rfl, by decide, by decide⟩ (by simp [W_k13.ds]) rfl rfl (by kernel_rfl) W_k13.ok_all ?T W_k13.main
    intro w mg h Y G
    obtain ⟨K, KX, c⟩ := Y
    exact ⟨K, KX, Tg.txt_ok W_k13.bn_all rfl KX G c⟩
