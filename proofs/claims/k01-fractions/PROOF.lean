import PyProof.Rows.All
import Wide.All
import OpenK.AllK
import Wide.FinOn
import HandS.ForMost
import HandS.Exc
import HandS.TryOnly
import HandS.ExcOwn
import HandS.WordsExc
import HandS.Wide
import HandS.IsInst
import HandS.ExcIs
import HandS.Defaults
import PySem.Challenge.RW_hangmobile_k01_fractions
set_option Elab.async false
set_option linter.all false
set_option maxRecDepth 100000
set_option maxHeartbeats 4000000
/-! The frame: what values denote (Dn), what slots hold (Sl), the state as seen from a def's entry (Rep), judgements over denotations (Ev, Et, Ea, Sx), promises by denotations (spD). -/
namespace HM
open PySem L2

/-- a dict under a lock counts as itself -/
def unl : HO → HO
  | .frz _ (.dK kvs) => .dK kvs
  | u => u
/-- what is known grows; a dict may be locked or unlocked -/
def Le (G G' : Hp) : Prop := ∀ a u, G a = some u → ∃ u', G' a = some u' ∧ unl u' = unl u
theorem Le.of {G G' : Hp} (h : Same G G') : Le G G' := fun a u e => ⟨u, h a u e, rfl⟩
theorem Le.refl (G : Hp) : Le G G := fun a u h => ⟨u, h, rfl⟩
theorem Le.trans {G G1 G2 : Hp} (a : Le G G1) (b : Le G1 G2) : Le G G2 := fun x u e => by
  obtain ⟨u1, h1, e1⟩ := a x u e
  obtain ⟨u2, h2, e2⟩ := b x u1 h1
  exact ⟨u2, h2, e2.trans e1⟩
theorem unl_dK {u : HO} {kvs : List (Key × V)} (h : unl u = .dK kvs) : u = .dK kvs ∨ ∃ o, u = .frz o (.dK kvs) := by
  cases u with
  | dK k => exact .inl h
  | frz o v =>
    cases v with
    | dK k => simp only [unl] at h; cases h; exact .inr ⟨o, rfl⟩
    | _ => simp only [unl] at h; cases h
  | _ => simp only [unl] at h; cases h
theorem Le.rd {G G' : Hp} (h : Le G G') {a : Addr} {kvs : List (Key × V)} (r : Rd G a (.dK kvs)) : Rd G' a (.dK kvs) := by
  rcases r with r | ⟨o, r⟩
  · obtain ⟨u, e, q⟩ := h a _ r
    rcases unl_dK (show unl u = .dK kvs from q) with z | ⟨o, z⟩
    · subst z; exact .inl e
    · subst z; exact .inr ⟨o, e⟩
  · obtain ⟨u, e, q⟩ := h a _ r
    rcases unl_dK (show unl u = .dK kvs from q) with z | ⟨o, z⟩
    · subst z; exact .inl e
    · subst z; exact .inr ⟨o, e⟩
/-- what is no dict stands as it is -/
theorem Le.get {G G' : Hp} (h : Le G G') {a : Addr} {u : HO} (e : G a = some u) (h1 : ∀ kvs, u ≠ .dK kvs) (h2 : ∀ o kvs, u ≠ .frz o (.dK kvs)) : G' a = some u := by
  obtain ⟨u', e', q⟩ := h a u e
  have z : unl u = u := by
    cases u with
    | frz o v => cases v with
      | dK k => exact absurd rfl (h2 o k)
      | _ => rfl
    | _ => rfl
  rw [z] at q
  have : u' = u := by
    cases u' with
    | frz o v => cases v with
      | dK k => exact absurd q.symm (h1 k)
      | _ => exact q
    | _ => exact q
  subst this
  exact e'
theorem Le.tup {K : PySem.W.Frag} {G G' : Hp} (h : Le G G') {a : Addr} {xs : List V} (r : SqT K G a xs) : SqT K G' a xs := by
  rcases r with (r | ⟨o, r⟩) | r
  · exact .inl (.inl (h.get r (fun _ z => nomatch z) (fun _ _ z => nomatch z)))
  · exact .inl (.inr ⟨o, h.get r (fun _ z => nomatch z) (fun _ _ z => nomatch z)⟩)
  · exact .inr r
theorem Le.lst {K : PySem.W.Frag} {G G' : Hp} (h : Le G G') {a : Addr} {xs : List V} (r : SqL K G a xs) : SqL K G' a xs := by
  rcases r with (r | ⟨o, r⟩) | r
  · exact .inl (.inl (h.get r (fun _ z => nomatch z) (fun _ _ z => nomatch z)))
  · exact .inl (.inr ⟨o, h.get r (fun _ z => nomatch z) (fun _ _ z => nomatch z)⟩)
  · exact .inr r
theorem Le.ins {G G' : Hp} (h : Le G G') {a C dx : Addr} {fs : List (Str × V)} (r : G a = some (.ins C dx fs)) : G' a = some (.ins C dx fs) := h.get r (fun _ z => nomatch z) (fun _ _ z => nomatch z)
theorem Same.new {H : Hp} {p : Addr} (h : H p = Option.none) (o : HO) : Same H (upd H p o) := fun b u q => by rw [upd_ne (ne_of_none q h)]; exact q

/-! ### denotations -/
/-- what a value denotes -/
structure Dn where
  p : Hp → V → Prop
  mono : ∀ {G G' : Hp} {v : V}, Le G G' → p G v → p G' v
def dV (v : V) : Dn := ⟨fun _ x => x = v, fun _ h => h⟩
abbrev dI (i : Int) : Dn := dV (.int i)
abbrev dB (b : Bool) : Dn := dV (.bl b)
abbrev dS (s : Str) : Dn := dV (.str s)
abbrev dN : Dn := dV .non
/-- no value -/
def dF : Dn := ⟨fun _ _ => False, fun _ h => h⟩
/-- any value -/
def dAny : Dn := ⟨fun _ _ => True, fun _ h => h⟩
def Reps (G : Hp) : List Dn → List V → Prop
  | [], [] => True
  | d :: ds, v :: vs => d.p G v ∧ Reps G ds vs
  | _, _ => False
theorem Reps.mono {G G' : Hp} (h : Le G G') : ∀ {ds : List Dn} {vs : List V}, Reps G ds vs → Reps G' ds vs
  | [], [], _ => True.intro
  | _ :: _, _ :: _, r => ⟨Dn.mono _ h r.1, Reps.mono h r.2⟩
  | [], _ :: _, r => r.elim
  | _ :: _, [], r => r.elim
theorem Reps.len {G : Hp} : ∀ {ds : List Dn} {vs : List V}, Reps G ds vs → vs.length = ds.length
  | [], [], _ => rfl
  | _ :: _, _ :: _, r => congrArg (· + 1) (Reps.len r.2)
  | [], _ :: _, r => r.elim
  | _ :: _, [], r => r.elim
theorem Reps.get {G : Hp} : ∀ {ds : List Dn} {vs : List V} {i : Nat} {d : Dn}, Reps G ds vs → ds[i]? = some d → ∃ v, vs[i]? = some v ∧ d.p G v
  | d :: _, v :: _, 0, _, r, e => by
    simp only [List.getElem?_cons_zero, Option.some.injEq] at e
    subst e
    exact ⟨v, rfl, r.1⟩
  | _ :: ds, _ :: vs, i + 1, d, r, e => Reps.get (i := i) r.2 (by simpa using e)
  | [], _, _, _, _, e => by simp at e
  | _ :: _, [], _, _, r, _ => r.elim
theorem Reps.getV {G : Hp} {ds : List Dn} {vs : List V} {i : Nat} {v : V} (r : Reps G ds vs) (e : vs[i]? = some v) : ∃ d, ds[i]? = some d ∧ d.p G v := by
  have h1 : i < vs.length := (List.getElem?_eq_some_iff.mp e).1
  rw [r.len] at h1
  obtain ⟨w, e2, p⟩ := r.get (List.getElem?_eq_getElem h1)
  rw [e] at e2; cases e2
  exact ⟨_, List.getElem?_eq_getElem h1, p⟩
theorem Reps.app {G : Hp} : ∀ {ds es : List Dn} {vs us : List V}, Reps G ds vs → Reps G es us → Reps G (ds ++ es) (vs ++ us)
  | [], _, [], _, _, s => s
  | _ :: _, _, _ :: _, _, r, s => ⟨r.1, Reps.app r.2 s⟩
  | [], _, _ :: _, _, r, _ => r.elim
  | _ :: _, _, [], _, r, _ => r.elim
theorem Reps.drop {G : Hp} : ∀ {ds : List Dn} {vs : List V} (n : Nat), Reps G ds vs → Reps G (ds.drop n) (vs.drop n)
  | _, _, 0, r => r
  | [], [], _ + 1, _ => True.intro
  | _ :: _, _ :: _, n + 1, r => Reps.drop n r.2
  | [], _ :: _, _ + 1, r => r.elim
  | _ :: _, [], _ + 1, r => r.elim
theorem Reps.take {G : Hp} : ∀ {ds : List Dn} {vs : List V} (n : Nat), Reps G ds vs → Reps G (ds.take n) (vs.take n)
  | _, _, 0, _ => True.intro
  | [], [], _ + 1, _ => True.intro
  | _ :: _, _ :: _, n + 1, r => ⟨r.1, Reps.take n r.2⟩
  | [], _ :: _, _ + 1, r => r.elim
  | _ :: _, [], _ + 1, r => r.elim
theorem Reps.mapV {G : Hp} {α : Type} (f : α → V) : ∀ xs : List α, Reps G (xs.map fun x => dV (f x)) (xs.map f)
  | [] => True.intro
  | _ :: r => ⟨rfl, Reps.mapV f r⟩
theorem Reps.mapVeq {G : Hp} {α : Type} (f : α → V) : ∀ {xs : List α} {vs : List V}, Reps G (xs.map fun x => dV (f x)) vs → vs = xs.map f
  | [], [], _ => rfl
  | x :: r, v :: vs, h => by
    have h1 : v = f x := h.1
    rw [h1, Reps.mapVeq f h.2]; rfl
  | [], _ :: _, r => r.elim
  | _ :: _, [], r => r.elim
theorem Reps.set {G : Hp} {d : Dn} {v : V} (p : d.p G v) : ∀ {ds : List Dn} {vs : List V} (i : Nat), Reps G ds vs → Reps G (ds.set i d) (vs.set i v)
  | [], [], _, _ => True.intro
  | _ :: _, _ :: _, 0, r => ⟨p, r.2⟩
  | _ :: _, _ :: _, i + 1, r => ⟨r.1, Reps.set p i r.2⟩
  | [], _ :: _, _, r => r.elim
  | _ :: _, [], _, r => r.elim
/-- a tuple, a list of such -/
def dT (K : PySem.W.Frag) (ds : List Dn) : Dn := ⟨fun G v => ∃ a vs, v = .ref a ∧ SqT K G a vs ∧ Reps G ds vs, fun h ⟨a, vs, e, t, r⟩ => ⟨a, vs, e, h.tup t, r.mono h⟩⟩
def dL (K : PySem.W.Frag) (ds : List Dn) : Dn := ⟨fun G v => ∃ a vs, v = .ref a ∧ SqL K G a vs ∧ Reps G ds vs, fun h ⟨a, vs, e, t, r⟩ => ⟨a, vs, e, h.lst t, r.mono h⟩⟩
/-- a fraction in lowest terms -/
def dR (K : PySem.W.Frag) (r : Rat) : Dn := ⟨fun G v => ∃ a, v = .ref a ∧ SqT K G a [.int r.num, .int (r.den : Int)], fun h ⟨a, e, t⟩ => ⟨a, e, h.tup t⟩⟩
theorem dR_dT {K : PySem.W.Frag} {r : Rat} {G : Hp} {v : V} (h : (dR K r).p G v) : (dT K [dI r.num, dI (r.den : Int)]).p G v := by
  obtain ⟨a, e, t⟩ := h
  exact ⟨a, _, e, t, rfl, rfl, True.intro⟩
/-- pairs of a dict, key by key -/
def RepsK (G : Hp) : List (Str × Dn) → List (Key × V) → Prop
  | [], [] => True
  | d :: ds, v :: vs => v.1 = Sum.inr d.1 ∧ d.2.p G v.2 ∧ RepsK G ds vs
  | _, _ => False
theorem RepsK.mono {G G' : Hp} (h : Le G G') : ∀ {ds : List (Str × Dn)} {vs : List (Key × V)}, RepsK G ds vs → RepsK G' ds vs
  | [], [], _ => True.intro
  | _ :: _, _ :: _, r => ⟨r.1, Dn.mono _ h r.2.1, RepsK.mono h r.2.2⟩
  | [], _ :: _, r => r.elim
  | _ :: _, [], r => r.elim
/-- a dict with text keys -/
def dD (kvs : List (Str × Dn)) : Dn := ⟨fun G v => ∃ a kws, v = .ref a ∧ Rd G a (.dK kws) ∧ RepsK G kvs kws, fun h ⟨a, k, e, t, r⟩ => ⟨a, k, e, h.rd t, r.mono h⟩⟩
/-- what an object of the def's own holds -/
structure On where
  p : Hp → HO → Prop
  mono : ∀ {G G' : Hp} {o : HO}, Le G G' → p G o → p G' o
def oL (ds : List Dn) : On := ⟨fun G o => ∃ vs, o = .lst vs ∧ Reps G ds vs, fun h ⟨vs, e, r⟩ => ⟨vs, e, r.mono h⟩⟩
def oD (kvs : List (Str × Dn)) : On := ⟨fun G o => ∃ kws, o = .dK kws ∧ RepsK G kvs kws, fun h ⟨vs, e, r⟩ => ⟨vs, e, r.mono h⟩⟩
/-- what a slot holds: a value that denotes d, or an object of the def's own -/
inductive Sl where
  | im (d : Dn)
  | ow (c : On)

/-! ### states -/
/-- what is known and what stands, behind: G, H ahead -/
structure Gr (G H G' H' : Hp) : Prop where
  le : Same G G'
  sub : Same G' H'
  ext : Same H H'
  new : ∀ a, G a = none → G' a ≠ none → H a = none
theorem Gr.refl {G H : Hp} (s : Same G H) : Gr G H G H := ⟨.refl _, s, .refl _, fun _ h h' => absurd h h'⟩
theorem Gr.trans {G H G1 H1 G2 H2 : Hp} (a : Gr G H G1 H1) (b : Gr G1 H1 G2 H2) : Gr G H G2 H2 :=
  ⟨a.le.trans b.le, b.sub, a.ext.trans b.ext, fun x h h' => by
    cases q : G1 x with
    | none => exact a.ext.free (b.new x q h')
    | some u => exact a.new x h (by rw [q]; exact fun z => nomatch z)⟩
/-- a new object, known -/
theorem Gr.add {G H : Hp} {p : Addr} {o : HO} (s : Same G H) (h : H p = none) : Gr G H (upd G p o) (upd H p o) :=
  ⟨Same.new (s.free h) o, fun a u e => by
    by_cases q : a = p
    · subst q; rw [upd_same] at e ⊢; exact e
    · rw [upd_ne q] at e ⊢; exact s a u e, Same.new h o, fun a g g' => by
    by_cases q : a = p
    · subst q; exact h
    · rw [upd_ne q] at g'; exact absurd g g'⟩
/-- a new object, not known -/
theorem Gr.skip {G H : Hp} {p : Addr} {o : HO} (s : Same G H) (h : H p = none) : Gr G H G (upd H p o) :=
  ⟨.refl _, s.trans (Same.new h o), Same.new h o, fun _ g g' => absurd g g'⟩
abbrev DEnv := List (Option Sl)
/-- the state as seen from the entry G0, H0: G is known, the slots hold what δ says -/
structure Rep (G0 H0 G : Hp) (δ : DEnv) (σ : St) (H : Hp) : Prop where
  gr : Gr G0 H0 G H
  len : δ.length = σ.length
  im : ∀ (i : Nat) d, δ[i]? = some (some (.im d)) → ∃ v, σ[i]? = some (some v) ∧ d.p G v
  ow : ∀ (i : Nat) c, δ[i]? = some (some (.ow c)) → ∃ a o, σ[i]? = some (some (.ref a)) ∧ H a = some o ∧ c.p G o ∧ G a = none ∧ H0 a = none
  dj : ∀ (i j : Nat) c c' a, δ[i]? = some (some (.ow c)) → δ[j]? = some (some (.ow c')) → σ[i]? = some (some (.ref a)) → σ[j]? = some (some (.ref a)) → i = j
section
variable {G0 H0 G G' H H' : Hp} {δ : DEnv} {σ : St} {d : Dn} {v : V} {i : Nat}
/-- the state goes on, its own objects as they are -/
theorem Rep.go (R : Rep G0 H0 G δ σ H) (g : Gr G H G' H') : Rep G0 H0 G' δ σ H' where
  gr := R.gr.trans g
  len := R.len
  im := fun i d e => by
    obtain ⟨v, a, b⟩ := R.im i d e
    exact ⟨v, a, d.mono (.of g.le) b⟩
  ow := fun i c e => by
    obtain ⟨a, o, h1, h2, h3, h4, h5⟩ := R.ow i c e
    refine ⟨a, o, h1, g.ext a o h2, c.mono (.of g.le) h3, ?_, h5⟩
    cases q : G' a with
    | none => rfl
    | some u =>
      have z := g.new a h4 (by rw [q]; exact fun z => nomatch z)
      rw [h2] at z; cases z
  dj := R.dj
theorem Rep.sub (R : Rep G0 H0 G δ σ H) : Same G H := R.gr.sub
/-- a slot is stored -/
theorem Rep.set (R : Rep G0 H0 G δ σ H) (p : d.p G v) (i : Nat) : Rep G0 H0 G (δ.set i (some (.im d))) (σ.set i (some v)) H where
  gr := R.gr
  len := by rw [List.length_set, List.length_set]; exact R.len
  im := fun j e h => by
    by_cases q : i = j
    · subst q
      have l : i < δ.length := by
        have := (List.getElem?_eq_some_iff.mp h).1
        rwa [List.length_set] at this
      rw [List.getElem?_set_self l] at h
      cases h
      exact ⟨v, by rw [List.getElem?_set_self (R.len ▸ l)], p⟩
    · rw [List.getElem?_set_ne q] at h ⊢
      exact R.im j e h
  ow := fun j c h => by
    by_cases q : i = j
    · subst q
      have l : i < δ.length := by
        have := (List.getElem?_eq_some_iff.mp h).1
        rwa [List.length_set] at this
      rw [List.getElem?_set_self l] at h
      cases h
    · rw [List.getElem?_set_ne q] at h ⊢
      exact R.ow j c h
  dj := fun j k c c' a h1 h2 h3 h4 => by
    have f : ∀ j c, (δ.set i (some (.im d)))[j]? = some (some (.ow c)) → i ≠ j := fun j c h q => by
      subst q
      have l : i < δ.length := by
        have := (List.getElem?_eq_some_iff.mp h).1
        rwa [List.length_set] at this
      rw [List.getElem?_set_self l] at h
      cases h
    have e1 := f j c h1
    have e2 := f k c' h2
    rw [List.getElem?_set_ne e1] at h1 h3
    rw [List.getElem?_set_ne e2] at h2 h4
    exact R.dj j k c c' a h1 h2 h3 h4
/-- an own object is stored -/
theorem Rep.setO {c : On} {a : Addr} {o : HO} (R : Rep G0 H0 G δ σ H) (h : H a = some o) (p : c.p G o) (g : G a = none) (h0 : H0 a = none) (nw : ∀ (j : Nat) c', δ[j]? = some (some (.ow c')) → σ[j]? ≠ some (some (.ref a))) (i : Nat) :
    Rep G0 H0 G (δ.set i (some (.ow c))) (σ.set i (some (.ref a))) H where
  gr := R.gr
  len := by rw [List.length_set, List.length_set]; exact R.len
  im := fun j e h => by
    by_cases q : i = j
    · subst q
      have l : i < δ.length := by
        have := (List.getElem?_eq_some_iff.mp h).1
        rwa [List.length_set] at this
      rw [List.getElem?_set_self l] at h
      cases h
    · rw [List.getElem?_set_ne q] at h ⊢
      exact R.im j e h
  ow := fun j c' e => by
    by_cases q : i = j
    · subst q
      have l : i < δ.length := by
        have := (List.getElem?_eq_some_iff.mp e).1
        rwa [List.length_set] at this
      rw [List.getElem?_set_self l] at e
      cases e
      exact ⟨a, o, by rw [List.getElem?_set_self (R.len ▸ l)], h, p, g, h0⟩
    · rw [List.getElem?_set_ne q] at e ⊢
      exact R.ow j c' e
  dj := fun j k c1 c2 b h1 h2 h3 h4 => by
    have lt : ∀ {j : Nat} {c'}, (δ.set i (some (.ow c)))[j]? = some (some (.ow c')) → j < σ.length := fun {j c'} h => by
      have := (List.getElem?_eq_some_iff.mp h).1
      rw [List.length_set] at this
      rwa [← R.len]
    by_cases q1 : i = j
    · by_cases q2 : i = k
      · exact q1.symm.trans q2
      · subst q1
        rw [List.getElem?_set_self (lt h1)] at h3
        cases h3
        rw [List.getElem?_set_ne q2] at h2 h4
        exact absurd h4 (nw k c2 h2)
    · by_cases q2 : i = k
      · subst q2
        rw [List.getElem?_set_self (lt h2)] at h4
        cases h4
        rw [List.getElem?_set_ne q1] at h1 h3
        exact absurd h3 (nw j c1 h1)
      · rw [List.getElem?_set_ne q1] at h1 h3
        rw [List.getElem?_set_ne q2] at h2 h4
        exact R.dj j k c1 c2 b h1 h2 h3 h4
/-- a slot is forgotten -/
theorem Rep.drop (R : Rep G0 H0 G δ σ H) {δ' : DEnv} (hl : δ'.length = δ.length) (hs : ∀ (i : Nat) s, δ'[i]? = some (some s) → δ[i]? = some (some s)) : Rep G0 H0 G δ' σ H :=
  ⟨R.gr, hl.trans R.len, fun i d e => R.im i d (hs i _ e), fun i c e => R.ow i c (hs i _ e), fun i j c c' a h1 h2 => R.dj i j c c' a (hs i _ h1) (hs j _ h2)⟩
end

/-! ### judgements -/
/-- how it comes out: a value that denotes d, a new object of one's own, an exception of the class at c -/
inductive Res where
  | ok (d : Dn)
  | own (c : On)
  | ex (c : Addr)
abbrev XS := St → XK
/-- an expression, from the slots δ (E: what is wished of exceptions) -/
def Ev (E : XS) (te : TE) (δ : DEnv) : Res → Prop
  | .ok d => ∀ G0 H0 G σ H (Q : VK), Rep G0 H0 G δ σ H → (∀ v G' H', Gr G H G' H' → d.p G' v → Q v H') → te σ H Q
  | .own c => ∀ G0 H0 G σ H (Q : VK), Rep G0 H0 G δ σ H → (∀ a o G' H', Gr G H G' H' → H a = none → G' a = none → H' a = some o → c.p G' o → Q (.ref a) H') → te σ H Q
  | .ex c => ∀ G0 H0 G σ H (Q : VK), Rep G0 H0 G δ σ H → (∀ G' H', Gr G H G' H' → E σ (.ref c) none H') → te σ H Q
def Ea (E : XS) (ta : TA) (δ : DEnv) (ds : List Dn) : Prop := ∀ G0 H0 G σ H (Q : List V → Hp → Prop), Rep G0 H0 G δ σ H → (∀ vs G' H', Gr G H G' H' → Reps G' ds vs → Q vs H') → ta σ H Q
def Et (E : XS) (tt : TT) (δ : DEnv) (b : Bool) : Prop := ∀ G0 H0 G σ H (Q : Bool → Hp → Prop), Rep G0 H0 G δ σ H → (∀ G' H', Gr G H G' H' → Q b H') → tt σ H Q
/-- an operation on two values -/
def Rv (r : R2) (x y : Dn) (z : Dn) : Prop := ∀ G H u v (Q : VK), Same G H → x.p G u → y.p G v → (∀ w G' H', Gr G H G' H' → z.p G' w → Q w H') → r u v H Q
def Ru (r : V → Hp → VK → Prop) (x z : Dn) : Prop := ∀ G H u (Q : VK), Same G H → x.p G u → (∀ w G' H', Gr G H G' H' → z.p G' w → Q w H') → r u H Q
/-- a call of a built-in -/
def Rc (r : List V → Hp → VK → Prop) (xs : List Dn) (z : Dn) : Prop := ∀ G H us (Q : VK), Same G H → Reps G xs us → (∀ w G' H', Gr G H G' H' → z.p G' w → Q w H') → r us H Q
/-- .. that hands back a new object -/
def RcO (r : List V → Hp → VK → Prop) (xs : List Dn) (c : On) : Prop := ∀ G H us (Q : VK), Same G H → Reps G xs us → (∀ a o G' H', Gr G H G' H' → H a = none → G' a = none → H' a = some o → c.p G' o → Q (.ref a) H') → r us H Q
/-- behind a statement -/
structure Post where
  nx : DEnv → Prop
  rt : Sl
  bk : DEnv → Prop := fun _ => False
  ct : DEnv → Prop := fun _ => False
  ex : Addr → DEnv → Prop := fun _ _ => False
def RtOk (G0 H0 : Hp) (D : VK) : Sl → Prop
  | .im d => ∀ v G' H', Gr G0 H0 G' H' → d.p G' v → D v H'
  | .ow c => ∀ a o G' H', Gr G0 H0 G' H' → H0 a = none → G' a = none → H' a = some o → c.p G' o → D (.ref a) H'
structure Holds (E : XS) (P : Post) (G0 H0 G : Hp) (D : Ends) : Prop where
  nx : ∀ δ G' σ H, P.nx δ → Rep G0 H0 G' δ σ H → Le G G' → D.nx σ H
  rt : RtOk G0 H0 D.rt P.rt
  bk : ∀ δ G' σ H, P.bk δ → Rep G0 H0 G' δ σ H → Le G G' → D.bk σ H
  ct : ∀ δ G' σ H, P.ct δ → Rep G0 H0 G' δ σ H → Le G G' → D.ct σ H
  ex : ∀ c δ G' σ H, P.ex c δ → Rep G0 H0 G' δ σ H → Le G G' → E σ (.ref c) none H
theorem Holds.up {E : XS} {P : Post} {G0 H0 G G' : Hp} {D : Ends} (h : Holds E P G0 H0 G D) (l : Le G G') : Holds E P G0 H0 G' D :=
  ⟨fun δ G2 σ H p R l2 => h.nx δ G2 σ H p R (l.trans l2), h.rt, fun δ G2 σ H p R l2 => h.bk δ G2 σ H p R (l.trans l2), fun δ G2 σ H p R l2 => h.ct δ G2 σ H p R (l.trans l2), fun c δ G2 σ H p R l2 => h.ex c δ G2 σ H p R (l.trans l2)⟩
/-- a statement (a block) -/
def Sx (E : XS) (t : TS) (δ : DEnv) (P : Post) : Prop := ∀ G0 H0 G σ H D, Rep G0 H0 G δ σ H → Holds E P G0 H0 G D → t D σ H

section
variable {E : XS} {δ : DEnv} {te ta tb : TE} {d x y z : Dn} {i : Nat} {v : V} {K : PySem.W.Frag}
/-! ### expressions -/
theorem ev_var (i : Nat) (h : δ[i]? = some (some (.im d)) := by rfl) : Ev E (tVar i) δ (.ok d) := fun G0 H0 G σ H Q R q => by
  obtain ⟨v, e, p⟩ := R.im i d h
  exact ⟨v, e, q v G H (.refl R.sub) p⟩
theorem ev_c : Ev E (tC v) δ (.ok (dV v)) := fun G0 H0 G σ H Q R q => q v G H (.refl R.sub) rfl
theorem ev_op {r : R2} (ha : Ev E ta δ (.ok x)) (hb : Ev E tb δ (.ok y)) (hr : Rv r x y z) : Ev E (tOp r ta tb) δ (.ok z) := fun G0 H0 G σ H Q R q =>
  ha G0 H0 G σ H _ R fun u G1 H1 g1 p1 => hb G0 H0 G1 σ H1 _ (R.go g1) fun w G2 H2 g2 p2 =>
    hr G2 H2 u w Q g2.sub (x.mono (.of g2.le) p1) p2 fun v G3 H3 g3 p3 => q v G3 H3 (g1.trans (g2.trans g3)) p3
theorem ev_un {r : V → Hp → VK → Prop} (ha : Ev E ta δ (.ok x)) (hr : Ru r x z) : Ev E (tUn r ta) δ (.ok z) := fun G0 H0 G σ H Q R q =>
  ha G0 H0 G σ H _ R fun u G1 H1 g1 p1 => hr G1 H1 u Q g1.sub p1 fun v G3 H3 g3 p3 => q v G3 H3 (g1.trans g3) p3
/-- a weaker word -/
theorem ev_imp (h : Ev E te δ (.ok x)) (w : ∀ G v, x.p G v → y.p G v) : Ev E te δ (.ok y) := fun G0 H0 G σ H Q R q => h G0 H0 G σ H Q R fun v G' H' g p => q v G' H' g (w G' v p)
theorem ev_eq (h : Ev E te δ (.ok x)) (w : x = y) : Ev E te δ (.ok y) := w ▸ h
theorem ea_nil : Ea E tNil δ [] := fun G0 H0 G σ H Q R q => q [] G H (.refl R.sub) True.intro
theorem ea_cons {tr : TA} {ds : List Dn} (h : Ev E te δ (.ok d)) (hr : Ea E tr δ ds) : Ea E (tCons te tr) δ (d :: ds) := fun G0 H0 G σ H Q R q =>
  h G0 H0 G σ H _ R fun u G1 H1 g1 p1 => hr G0 H0 G1 σ H1 _ (R.go g1) fun us G2 H2 g2 p2 => q (u :: us) G2 H2 (g1.trans g2) ⟨d.mono (.of g2.le) p1, p2⟩
theorem ea_one (h : Ev E te δ (.ok d)) : Ea E (tCons te tNil) δ [d] := ea_cons h ea_nil
theorem ea_two (h : Ev E ta δ (.ok x)) (h2 : Ev E tb δ (.ok y)) : Ea E (tCons ta (tCons tb tNil)) δ [x, y] := ea_cons h (ea_one h2)
/-- a tuple's, a list's display -/
theorem ev_tup {ta : TA} {ds : List Dn} (h : Ea E ta δ ds) (hl : ds.length ≤ 1000) : Ev E (tTup ta) δ (.ok (dT K ds)) := fun G0 H0 G σ H Q R q =>
  h G0 H0 G σ H _ R fun vs G1 H1 g1 p1 => ⟨Nat.le_of_lt (small1000 (by rw [p1.len]; exact hl)), fun p hp =>
    q (.ref p) _ _ (g1.trans (.add (o := .tup vs) g1.sub hp)) ⟨p, vs, rfl, .of upd_same, p1.mono (.of (Same.new (g1.sub.free hp) _))⟩⟩
theorem ev_tupR {ta : TA} {r : Rat} (h : Ea E ta δ [dI r.num, dI (r.den : Int)]) : Ev E (tTup ta) δ (.ok (dR K r)) := fun G0 H0 G σ H Q R q =>
  h G0 H0 G σ H _ R fun vs G1 H1 g1 p1 => ⟨Nat.le_of_lt (small1000 (by rw [p1.len]; show 2 ≤ 1000; decide)), fun p hp => by
    have e := Reps.mapVeq V.int (xs := [r.num, (r.den : Int)]) p1
    refine q (.ref p) _ _ (g1.trans (.add (o := .tup vs) g1.sub hp)) ⟨p, rfl, .of ?_⟩
    rw [upd_same, e]; rfl⟩
theorem eo_lst {ta : TA} {ds : List Dn} (h : Ea E ta δ ds) (hl : ds.length ≤ 1000) : Ev E (tLst ta) δ (.own (oL ds)) := fun G0 H0 G σ H Q R q =>
  h G0 H0 G σ H _ R fun vs G1 H1 g1 p1 => ⟨Nat.le_of_lt (small1000 (by rw [p1.len]; exact hl)), fun p hp =>
    q p (.lst vs) _ _ (g1.trans (.skip (o := .lst vs) g1.sub hp)) (g1.ext.free hp) (g1.sub.free hp) upd_same ⟨vs, rfl, p1⟩⟩
theorem eo_dnew : Ev E tDNewK δ (.own (oD [])) := fun G0 H0 G σ H Q R q p hp => q p _ G _ (.skip (o := .dK []) R.sub hp) hp (R.sub.free hp) upd_same ⟨[], rfl, True.intro⟩
/-- an own new object is made known -/
theorem ev_pubL {ds : List Dn} (h : Ev E te δ (.own (oL ds))) : Ev E te δ (.ok (dL K ds)) := fun G0 H0 G σ H Q R q =>
  h G0 H0 G σ H Q R fun a o G' H' g ha ga ea ⟨vs, e, r⟩ => by
    subst e
    refine q (.ref a) (upd G' a (.lst vs)) H' ⟨g.le.trans (Same.new ga _), fun b u e => ?_, g.ext, fun b h1 h2 => ?_⟩ ⟨a, vs, rfl, .of upd_same, r.mono (.of (Same.new ga _))⟩
    · by_cases z : b = a
      · subst z; rw [upd_same] at e; cases e; exact ea
      · rw [upd_ne z] at e; exact g.sub b u e
    · by_cases z : b = a
      · subst z; exact ha
      · rw [upd_ne z] at h2; exact g.new b h1 h2
theorem ev_lst {ta : TA} {ds : List Dn} (h : Ea E ta δ ds) (hl : ds.length ≤ 1000) : Ev E (tLst ta) δ (.ok (dL K ds)) := ev_pubL (eo_lst h hl)
theorem ev_pubD {ds : List (Str × Dn)} (h : Ev E te δ (.own (oD ds))) : Ev E te δ (.ok (dD ds)) := fun G0 H0 G σ H Q R q =>
  h G0 H0 G σ H Q R fun a o G' H' g ha ga ea ⟨vs, e, r⟩ => by
    subst e
    refine q (.ref a) (upd G' a (.dK vs)) H' ⟨g.le.trans (Same.new ga _), fun b u e => ?_, g.ext, fun b h1 h2 => ?_⟩ ⟨a, vs, rfl, .of upd_same, r.mono (.of (Same.new ga _))⟩
    · by_cases z : b = a
      · subst z; rw [upd_same] at e; cases e; exact ea
      · rw [upd_ne z] at e; exact g.sub b u e
    · by_cases z : b = a
      · subst z; exact ha
      · rw [upd_ne z] at h2; exact g.new b h1 h2
/-- a call of a built-in -/
theorem ev_cb {r : List V → Hp → VK → Prop} {ta : TA} {ds : List Dn} (h : Ea E ta δ ds) (hr : Rc r ds z) : Ev E (tCB r ta) δ (.ok z) := fun G0 H0 G σ H Q R q =>
  h G0 H0 G σ H _ R fun vs G1 H1 g1 p1 => hr G1 H1 vs Q g1.sub p1 fun v G3 H3 g3 p3 => q v G3 H3 (g1.trans g3) p3
theorem eo_cb {r : List V → Hp → VK → Prop} {ta : TA} {ds : List Dn} {c : On} (h : Ea E ta δ ds) (hr : RcO r ds c) : Ev E (tCB r ta) δ (.own c) := fun G0 H0 G σ H Q R q =>
  h G0 H0 G σ H _ R fun vs G1 H1 g1 p1 => hr G1 H1 vs Q g1.sub p1 fun a o G3 H3 g3 h3 => q a o G3 H3 (g1.trans g3) (g1.ext.free h3)
/-! ### tests -/
theorem et_test {b : Bool} (h : Ev E te δ (.ok (dB b))) : Et E (tTest te) δ b := fun G0 H0 G σ H Q R q => h G0 H0 G σ H _ R fun v G' H' g p => ⟨b, p, q G' H' g⟩
theorem et_B {b : Bool} (h : Ev E te δ (.ok (dB b))) : Et E (tB te) δ b := fun G0 H0 G σ H Q R q => h G0 H0 G σ H _ R fun v G' H' g p => ⟨b, p, q G' H' g⟩
theorem et_not {tt : TT} {b : Bool} (h : Et E tt δ b) : Et E (tNot tt) δ (!b) := fun G0 H0 G σ H Q R q => h G0 H0 G σ H _ R q
theorem et_and {t u : TT} {a b : Bool} (h1 : Et E t δ a) (h2 : a = true → Et E u δ b) : Et E (tAnd t u) δ (a && b) := fun G0 H0 G σ H Q R q => h1 G0 H0 G σ H _ R fun G1 H1 g1 => by
  cases a with
  | true => exact iteT (h2 rfl G0 H0 G1 σ H1 Q (R.go g1) fun G2 H2 g2 => q G2 H2 (g1.trans g2))
  | false => exact iteF (q G1 H1 g1)
theorem et_or {t u : TT} {a b : Bool} (h1 : Et E t δ a) (h2 : a = false → Et E u δ b) : Et E (tOr t u) δ (a || b) := fun G0 H0 G σ H Q R q => h1 G0 H0 G σ H _ R fun G1 H1 g1 => by
  cases a with
  | true => exact iteT (q G1 H1 g1)
  | false => exact iteF (h2 rfl G0 H0 G1 σ H1 Q (R.go g1) fun G2 H2 g2 => q G2 H2 (g1.trans g2))
theorem et_is {tt : TT} {a b : Bool} (h : Et E tt δ a) (e : a = b) : Et E tt δ b := e ▸ h
theorem ev_andV {a b : Bool} (h1 : Ev E ta δ (.ok (dB a))) (h2 : a = true → Ev E tb δ (.ok (dB b))) : Ev E (tAndV ta tb) δ (.ok (dB (a && b))) := fun G0 H0 G σ H Q R q => h1 G0 H0 G σ H _ R fun v G1 H1 g1 p => ⟨a, p, by
  cases a with
  | true => exact iteT (h2 rfl G0 H0 G1 σ H1 Q (R.go g1) fun w G2 H2 g2 p2 => q w G2 H2 (g1.trans g2) p2)
  | false => exact iteF (q _ G1 H1 g1 rfl)⟩
theorem ev_orV {a b : Bool} (h1 : Ev E ta δ (.ok (dB a))) (h2 : a = false → Ev E tb δ (.ok (dB b))) : Ev E (tOrV ta tb) δ (.ok (dB (a || b))) := fun G0 H0 G σ H Q R q => h1 G0 H0 G σ H _ R fun v G1 H1 g1 p => ⟨a, p, by
  cases a with
  | true => exact iteT (q _ G1 H1 g1 rfl)
  | false => exact iteF (h2 rfl G0 H0 G1 σ H1 Q (R.go g1) fun w G2 H2 g2 p2 => q w G2 H2 (g1.trans g2) p2)⟩
theorem ev_notV {a : Bool} (h1 : Ev E ta δ (.ok (dB a))) : Ev E (tNotV ta) δ (.ok (dB (!a))) := fun G0 H0 G σ H Q R q => h1 G0 H0 G σ H _ R fun v G1 H1 g1 p => ⟨a, p, q _ G1 H1 g1 rfl⟩
theorem ev_if {t : TT} {b : Bool} (h : Et E t δ b) (h1 : b = true → Ev E ta δ (.ok d)) (h2 : b = false → Ev E tb δ (.ok d)) : Ev E (tIf t ta tb) δ (.ok d) := fun G0 H0 G σ H Q R q => h G0 H0 G σ H _ R fun G1 H1 g1 => by
  cases b with
  | true => exact iteT (h1 rfl G0 H0 G1 σ H1 Q (R.go g1) fun w G2 H2 g2 p2 => q w G2 H2 (g1.trans g2) p2)
  | false => exact iteF (h2 rfl G0 H0 G1 σ H1 Q (R.go g1) fun w G2 H2 g2 p2 => q w G2 H2 (g1.trans g2) p2)
end
end HM
/-! Statements, calls, defs over denotations. -/
namespace HM
open PySem L2
section
variable {E : XS} {δ : DEnv} {P : Post} {te ta tb tl : TE} {t u : TS} {d x y z : Dn} {i : Nat} {v : V} {K : PySem.W.Frag} {c : Addr} {tt : TT}
theorem sx_nil (h : P.nx δ) : Sx E tNext δ P := fun G0 H0 G σ H D R hd => hd.nx δ G σ H h R (.refl G)
theorem sx_seq (h : Sx E t δ { P with nx := fun δ' => Sx E u δ' P }) : Sx E (tSeq t u) δ P := fun G0 H0 G σ H D R hd =>
  h G0 H0 G σ H { D with nx := u D } R ⟨fun δ' G' σ' H' p R' l => p G0 H0 G' σ' H' D R' (hd.up l), hd.rt, hd.bk, hd.ct, hd.ex⟩
/-- what stands between -/
theorem sx_mid (J : DEnv → Prop) (h : Sx E t δ { P with nx := J }) (k : ∀ δ', J δ' → Sx E u δ' P) : Sx E (tSeq t u) δ P := fun G0 H0 G σ H D R hd =>
  h G0 H0 G σ H { D with nx := u D } R ⟨fun δ' G' σ' H' p R' l => k δ' p G0 H0 G' σ' H' D R' (hd.up l), hd.rt, hd.bk, hd.ct, hd.ex⟩
theorem sx_asg (h : Ev E te δ (.ok d)) (k : P.nx (δ.set i (some (.im d)))) : Sx E (tAsg te (gName i)) δ P := fun G0 H0 G σ H D R hd =>
  h G0 H0 G σ H _ R fun v G' H' g p => hd.nx _ G' _ H' k ((R.go g).set p i) (.of g.le)
theorem sx_asgO {c : On} (h : Ev E te δ (.own c)) (k : P.nx (δ.set i (some (.ow c)))) : Sx E (tAsg te (gName i)) δ P := fun G0 H0 G σ H D R hd =>
  h G0 H0 G σ H _ R fun a o G' H' g ha ga ea p => hd.nx _ G' _ H' k ((R.go g).setO ea p ga (R.gr.ext.free ha) (fun j c' e1 e2 => by
    obtain ⟨b, o', q1, q2, _⟩ := R.ow j c' e1
    rw [q1] at e2; cases e2
    rw [ha] at q2; cases q2) i) (.of g.le)
theorem sx_asgX {g : TG} (h : Ev E te δ (.ex c)) (k : P.ex c δ) : Sx E (tAsg te g) δ P := fun G0 H0 G σ H D R hd =>
  h G0 H0 G σ H _ R fun G' H' g => hd.ex c δ G' σ H' k (R.go g) (.of g.le)
theorem sx_ret (h : Ev E te δ (.ok d)) (k : P.rt = .im d) : Sx E (tRet te) δ P := fun G0 H0 G σ H D R hd =>
  h G0 H0 G σ H _ R fun v G' H' g p => by
    have q := hd.rt
    rw [k] at q
    exact q v G' H' (R.gr.trans g) p
theorem sx_retO {c : On} (h : Ev E te δ (.own c)) (k : P.rt = .ow c) : Sx E (tRet te) δ P := fun G0 H0 G σ H D R hd =>
  h G0 H0 G σ H _ R fun a o G' H' g ha ga ea p => by
    have q := hd.rt
    rw [k] at q
    exact q a o G' H' (R.gr.trans g) (R.gr.ext.free ha) ga ea p
/-- an own slot is handed back -/
theorem sx_retV {c : On} (i : Nat) (h : δ[i]? = some (some (.ow c))) (k : P.rt = .ow c) : Sx E (tRet (tVar i)) δ P := fun G0 H0 G σ H D R hd => by
  obtain ⟨a, o, e1, e2, e3, e4, e5⟩ := R.ow i c h
  have q := hd.rt
  rw [k] at q
  exact ⟨_, e1, q a o G H R.gr e5 e4 e2 e3⟩
theorem sx_retX (h : Ev E te δ (.ex c)) (k : P.ex c δ) : Sx E (tRet te) δ P := fun G0 H0 G σ H D R hd =>
  h G0 H0 G σ H _ R fun G' H' g => hd.ex c δ G' σ H' k (R.go g) (.of g.le)
theorem sx_retN (k : P.rt = .im dN) : Sx E tRetN δ P := fun G0 H0 G σ H D R hd => by
  have q := hd.rt
  rw [k] at q
  exact q .non G H R.gr rfl
theorem sx_drop (h : Ev E te δ (.ok d)) (k : P.nx δ) : Sx E (tDrop te) δ P := fun G0 H0 G σ H D R hd =>
  h G0 H0 G σ H _ R fun v G' H' g p => hd.nx _ G' _ H' k (R.go g) (.of g.le)
theorem sx_dropX (h : Ev E te δ (.ex c)) (k : P.ex c δ) : Sx E (tDrop te) δ P := fun G0 H0 G σ H D R hd =>
  h G0 H0 G σ H _ R fun G' H' g => hd.ex c δ G' σ H' k (R.go g) (.of g.le)
theorem sx_if {b : Bool} (h : Et E tt δ b) (h1 : b = true → Sx E t δ P) (h2 : b = false → Sx E u δ P) : Sx E (tIfS tt t u) δ P := fun G0 H0 G σ H D R hd =>
  h G0 H0 G σ H _ R fun G' H' g => by
    cases b with
    | true => exact iteT (h1 rfl G0 H0 G' σ H' D (R.go g) (hd.up (.of g.le)))
    | false => exact iteF (h2 rfl G0 H0 G' σ H' D (R.go g) (hd.up (.of g.le)))
theorem sx_yes (h : Et E tt δ true) (h1 : Sx E t δ P) : Sx E (tIfS tt t u) δ P := sx_if h (fun _ => h1) fun z => nomatch z
theorem sx_no (h : Et E tt δ false) (h1 : Sx E u δ P) : Sx E (tIfS tt t u) δ P := sx_if h (fun z => nomatch z) fun _ => h1
theorem sx_brk (h : P.bk δ) : Sx E tBreak δ P := fun G0 H0 G σ H D R hd => hd.bk δ G σ H h R (.refl G)
theorem sx_cont (h : P.ct δ) : Sx E tCont δ P := fun G0 H0 G σ H D R hd => hd.ct δ G σ H h R (.refl G)
/-- raise X(..): W lets the class at c out -/
theorem sx_raise {W : WX} (hW : ∀ σ H, E σ (.ref c) none H → W (.ref c) none σ H) (k : P.ex c δ) : Sx E (fun _ σ H => W (.ref c) none σ H) δ P := fun G0 H0 G σ H D R hd =>
  hW σ H (hd.ex c δ G σ H k R (.refl G))
theorem sx_raiseE {E' : XK} (k : P.ex c δ) : Sx (fun _ => E') (fun _ _ H => E' (.ref c) none H) δ P := fun G0 H0 G σ H D R hd => hd.ex c δ G σ H k R (.refl G)
/-- slots are forgotten -/
theorem sx_weak {δ' : DEnv} (h : Sx E t δ' P) (hl : δ'.length = δ.length) (hs : ∀ (i : Nat) s, δ'[i]? = some (some s) → δ[i]? = some (some s)) : Sx E t δ P := fun G0 H0 G σ H D R hd => h G0 H0 G σ H D (R.drop hl hs) hd
/-- less is wanted behind -/
theorem sx_post {P' : Post} (h : Sx E t δ P') (h1 : ∀ δ, P'.nx δ → P.nx δ) (h2 : P'.rt = P.rt) (h3 : ∀ δ, P'.bk δ → P.bk δ) (h4 : ∀ δ, P'.ct δ → P.ct δ) (h5 : ∀ c δ, P'.ex c δ → P.ex c δ) : Sx E t δ P := fun G0 H0 G σ H D R hd =>
  h G0 H0 G σ H D R ⟨fun δ G' σ H p => hd.nx δ G' σ H (h1 δ p), h2 ▸ hd.rt, fun δ G' σ H p => hd.bk δ G' σ H (h3 δ p), fun δ G' σ H p => hd.ct δ G' σ H (h4 δ p), fun c δ G' σ H p => hd.ex c δ G' σ H (h5 c δ p)⟩
/-- an own object changes -/
theorem Rep.mut {G0 H0 G H : Hp} {σ : St} {c' : On} {a : Addr} {o : HO} (R : Rep G0 H0 G δ σ H) {c : On} (hi : δ[i]? = some (some (.ow c))) (ea : σ[i]? = some (some (.ref a))) (p : c'.p G o) :
    Rep G0 H0 G (δ.set i (some (.ow c'))) σ (upd H a o) where
  gr := by
    obtain ⟨b, o', e1, e2, e3, e4, e5⟩ := R.ow i c hi
    rw [ea] at e1; cases e1
    exact ⟨R.gr.le, fun x u e => by rw [upd_ne (ne_of_none e e4)]; exact R.gr.sub x u e, fun x u e => by rw [upd_ne (ne_of_none e e5)]; exact R.gr.ext x u e, R.gr.new⟩
  len := by rw [List.length_set]; exact R.len
  im := fun j e h => by
    by_cases q : i = j
    · subst q
      have l : i < δ.length := (List.getElem?_eq_some_iff.mp hi).1
      rw [List.getElem?_set_self l] at h
      cases h
    · rw [List.getElem?_set_ne q] at h
      exact R.im j e h
  ow := fun j c2 h => by
    obtain ⟨b, o', e1, e2, e3, e4, e5⟩ := R.ow i c hi
    rw [ea] at e1; cases e1
    by_cases q : i = j
    · subst q
      have l : i < δ.length := (List.getElem?_eq_some_iff.mp hi).1
      rw [List.getElem?_set_self l] at h
      cases h
      exact ⟨a, o, ea, upd_same, p, e4, e5⟩
    · rw [List.getElem?_set_ne q] at h
      obtain ⟨b, o2, q1, q2, q3⟩ := R.ow j c2 h
      have nb : b ≠ a := fun z => q (R.dj i j c c2 a hi h ea (z ▸ q1))
      exact ⟨b, o2, q1, by rw [upd_ne nb]; exact q2, q3⟩
  dj := fun j k c1 c2 b h1 h2 h3 h4 => by
    have f : ∀ j c1, (δ.set i (some (.ow c')))[j]? = some (some (Sl.ow c1)) → ∃ c2, δ[j]? = some (some (Sl.ow c2)) := fun j c1 h => by
      by_cases q : i = j
      · subst q; exact ⟨c, hi⟩
      · rw [List.getElem?_set_ne q] at h; exact ⟨_, h⟩
    obtain ⟨_, z1⟩ := f j c1 h1
    obtain ⟨_, z2⟩ := f k c2 h2
    exact R.dj j k _ _ b z1 z2 h3 h4
/-- an own object is made known -/
theorem Rep.pub {G0 H0 G H : Hp} {σ : St} {c : On} {d : Dn} {a : Addr} {o : HO} (R : Rep G0 H0 G δ σ H) (hi : δ[i]? = some (some (.ow c))) (ea : σ[i]? = some (some (.ref a))) (eo : H a = some o) (p : d.p (upd G a o) (.ref a)) :
    Rep G0 H0 (upd G a o) (δ.set i (some (.im d))) σ H := by
  obtain ⟨b, o', e1, e2, e3, e4, e5⟩ := R.ow i c hi
  rw [ea] at e1; cases e1
  have sm : Same G (upd G a o) := Same.new e4 o
  refine ⟨⟨R.gr.le.trans sm, fun x u e => ?_, R.gr.ext, fun x h1 h2 => ?_⟩, by rw [List.length_set]; exact R.len, fun j e h => ?_, fun j c2 h => ?_, fun j k c1 c2 b h1 h2 h3 h4 => ?_⟩
  · by_cases q : x = a
    · subst q; rw [upd_same] at e; cases e; exact eo
    · rw [upd_ne q] at e; exact R.gr.sub x u e
  · by_cases q : x = a
    · subst q; exact e5
    · rw [upd_ne q] at h2; exact R.gr.new x h1 h2
  · by_cases q : i = j
    · subst q
      rw [List.getElem?_set_self (List.getElem?_eq_some_iff.mp hi).1] at h
      cases h
      exact ⟨_, ea, p⟩
    · rw [List.getElem?_set_ne q] at h
      obtain ⟨v, z1, z2⟩ := R.im j e h
      exact ⟨v, z1, e.mono (.of sm) z2⟩
  · by_cases q : i = j
    · subst q
      rw [List.getElem?_set_self (List.getElem?_eq_some_iff.mp hi).1] at h
      cases h
    · rw [List.getElem?_set_ne q] at h
      obtain ⟨b, o2, q1, q2, q3, q4, q5⟩ := R.ow j c2 h
      have nb : b ≠ a := fun z => q (R.dj i j c c2 a hi h ea (z ▸ q1))
      exact ⟨b, o2, q1, q2, c2.mono (.of sm) q3, by rw [upd_ne nb]; exact q4, q5⟩
  · have f : ∀ j c1, (δ.set i (some (.im d)))[j]? = some (some (Sl.ow c1)) → δ[j]? = some (some (Sl.ow c1)) := fun j c1 h => by
      by_cases q : i = j
      · subst q
        rw [List.getElem?_set_self (List.getElem?_eq_some_iff.mp hi).1] at h
        cases h
      · rw [List.getElem?_set_ne q] at h; exact h
    exact R.dj j k _ _ b (f j c1 h1) (f k c2 h2) h3 h4
theorem sx_pubL {ds : List Dn} (i : Nat) (hi : δ[i]? = some (some (.ow (oL ds)))) (h : Sx E t (δ.set i (some (.im (dL K ds)))) P) : Sx E t δ P := fun G0 H0 G σ H D R hd => by
  obtain ⟨a, o, e1, e2, ⟨vs, e, r⟩, e4, e5⟩ := R.ow i _ hi
  subst e
  refine h G0 H0 _ σ H D (R.pub hi e1 e2 ⟨a, vs, rfl, .of upd_same, r.mono (.of (Same.new e4 _))⟩) (hd.up (.of (Same.new e4 _)))
theorem sx_pubD {ds : List (Str × Dn)} (i : Nat) (hi : δ[i]? = some (some (.ow (oD ds)))) (h : Sx E t (δ.set i (some (.im (dD ds)))) P) : Sx E t δ P := fun G0 H0 G σ H D R hd => by
  obtain ⟨a, o, e1, e2, ⟨vs, e, r⟩, e4, e5⟩ := R.ow i _ hi
  subst e
  refine h G0 H0 _ σ H D (R.pub hi e1 e2 ⟨a, vs, rfl, .of upd_same, r.mono (.of (Same.new e4 _))⟩) (hd.up (.of (Same.new e4 _)))
/-- a value of an own slot, known from here on -/
theorem sx_retL {ds : List Dn} (i : Nat) (hi : δ[i]? = some (some (.ow (oL ds)))) (k : P.rt = .im (dL K ds)) : Sx E (tRet (tVar i)) δ P :=
  sx_pubL (K := K) i hi (sx_ret (ev_var i (by rw [List.getElem?_set_self (List.getElem?_eq_some_iff.mp hi).1])) k)
theorem sx_retD {ds : List (Str × Dn)} (i : Nat) (hi : δ[i]? = some (some (.ow (oD ds)))) (k : P.rt = .im (dD ds)) : Sx E (tRet (tVar i)) δ P :=
  sx_pubD i hi (sx_ret (ev_var i (by rw [List.getElem?_set_self (List.getElem?_eq_some_iff.mp hi).1])) k)
/-! ### loops -/
theorem sx_while (I : Nat → DEnv → Prop) (h0 : ∃ m, I m δ) (hs : ∀ m δ, I m δ → ∃ b, Et E tt δ b ∧ (b = true → Sx E t δ { P with nx := fun δ' => ∃ m', m' < m ∧ I m' δ', ct := fun δ' => ∃ m', m' < m ∧ I m' δ', bk := P.nx }) ∧ (b = false → P.nx δ)) :
    Sx E (tWhile tt t) δ P := fun G0 H0 G σ H D R hd => by
  refine ⟨fun m σ H => ∃ G' δ, I m δ ∧ Rep G0 H0 G' δ σ H ∧ Le G G', ?_, ?_⟩
  · obtain ⟨m, h⟩ := h0
    exact ⟨m, G, δ, h, R, .refl _⟩
  · rintro m σ H ⟨G1, δ1, i1, R1, l1⟩
    obtain ⟨b, hb, h1, h2⟩ := hs m δ1 i1
    refine hb G0 H0 G1 σ H _ R1 fun G2 H2 g2 => ?_
    have R2 := R1.go g2
    have l2 : Le G G2 := l1.trans (.of g2.le)
    cases b with
    | true =>
      refine iteT ⟨fun σ' H' => ∃ m', m' < m ∧ ∃ G' δ, I m' δ ∧ Rep G0 H0 G' δ σ' H' ∧ Le G G', fun σ' H' h => h, ?_⟩
      refine h1 rfl G0 H0 G2 σ H2 _ R2 ⟨?_, hd.rt, ?_, ?_, ?_⟩
      · rintro δ3 G3 σ3 H3 ⟨m', lt, i3⟩ R3 l3
        exact ⟨m', lt, G3, δ3, i3, R3, l2.trans l3⟩
      · intro δ3 G3 σ3 H3 p R3 l3
        exact hd.nx δ3 G3 σ3 H3 p R3 (l2.trans l3)
      · rintro δ3 G3 σ3 H3 ⟨m', lt, i3⟩ R3 l3
        exact ⟨m', lt, G3, δ3, i3, R3, l2.trans l3⟩
      · intro c δ3 G3 σ3 H3 p R3 l3
        exact hd.ex c δ3 G3 σ3 H3 p R3 (l2.trans l3)
    | false => exact iteF (hd.nx δ1 G2 σ H2 (h2 rfl) R2 l2)
theorem sx_forL {ds : List Dn} (h : Ev E tl δ (.ok (dL K ds))) (I : Nat → DEnv → Prop) (h0 : I 0 δ)
    (hs : ∀ n δ' d, ds[n]? = some d → I n δ' → Sx E t (δ'.set i (some (.im d))) { P with nx := I (n + 1), ct := I (n + 1), bk := P.nx }) (hd : ∀ δ', I ds.length δ' → P.nx δ') : Sx E (tFor (iList K tl) (gName i) t) δ P := fun G0 H0 G σ H D R hD => by
  refine h G0 H0 G σ H _ R fun v G1 H1 g1 ⟨a, vs, ev, sq, rp⟩ => ?_
  subst ev
  refine ⟨a, rfl, ⟨vs, (Le.of g1.sub).lst sq⟩, for_list (K := K) (a := a) (xs := vs) (fun n σ H => ∃ G' δ', I n δ' ∧ Rep G0 H0 G' δ' σ H ∧ Le G1 G') ⟨G1, δ, h0, R.go g1, .refl _⟩ ?_ ?_ ?_⟩
  · rintro n σ2 H2 _ ⟨G2, δ2, _, R2, l2⟩
    exact (l2.trans (.of R2.sub)).lst sq
  · rintro n x σ2 H2 ex ⟨G2, δ2, i2, R2, l2⟩
    obtain ⟨d, ed, pd⟩ := rp.getV ex
    refine hs n δ2 d ed i2 G0 H0 G2 _ H2 _ (R2.set (d.mono l2 pd) i) ⟨?_, hD.rt, ?_, ?_, ?_⟩
    · intro δ3 G3 σ3 H3 p R3 l3
      exact ⟨G3, δ3, p, R3, l2.trans l3⟩
    · intro δ3 G3 σ3 H3 p R3 l3
      exact hD.nx δ3 G3 σ3 H3 p R3 ((Le.of g1.le).trans (l2.trans l3))
    · intro δ3 G3 σ3 H3 p R3 l3
      exact ⟨G3, δ3, p, R3, l2.trans l3⟩
    · intro c δ3 G3 σ3 H3 p R3 l3
      exact hD.ex c δ3 G3 σ3 H3 p R3 ((Le.of g1.le).trans (l2.trans l3))
  · rintro σ2 H2 ⟨G2, δ2, i2, R2, l2⟩
    rw [rp.len] at i2
    exact hD.nx δ2 G2 σ2 H2 (hd δ2 i2) R2 ((Le.of g1.le).trans l2)
/-- over a tuple -/
theorem sx_forT {ds : List Dn} (h : Ev E tl δ (.ok (dT K ds))) (I : Nat → DEnv → Prop) (h0 : I 0 δ)
    (hs : ∀ n δ' d, ds[n]? = some d → I n δ' → Sx E t (δ'.set i (some (.im d))) { P with nx := I (n + 1), ct := I (n + 1), bk := P.nx }) (hd : ∀ δ', I ds.length δ' → P.nx δ') : Sx E (tFor (iTup K tl) (gName i) t) δ P := fun G0 H0 G σ H D R hD => by
  refine h G0 H0 G σ H _ R fun v G1 H1 g1 ⟨a, vs, ev, sq, rp⟩ => ?_
  subst ev
  refine ⟨a, rfl, ⟨vs, (Le.of g1.sub).tup sq⟩, for_tup (K := K) (a := a) (xs := vs) (fun n σ H => ∃ G' δ', I n δ' ∧ Rep G0 H0 G' δ' σ H ∧ Le G1 G') ⟨G1, δ, h0, R.go g1, .refl _⟩ ?_ ?_ ?_⟩
  · rintro n σ2 H2 _ ⟨G2, δ2, _, R2, l2⟩
    exact (l2.trans (.of R2.sub)).tup sq
  · rintro n x σ2 H2 ex ⟨G2, δ2, i2, R2, l2⟩
    obtain ⟨d, ed, pd⟩ := rp.getV ex
    refine hs n δ2 d ed i2 G0 H0 G2 _ H2 _ (R2.set (d.mono l2 pd) i) ⟨?_, hD.rt, ?_, ?_, ?_⟩
    · intro δ3 G3 σ3 H3 p R3 l3
      exact ⟨G3, δ3, p, R3, l2.trans l3⟩
    · intro δ3 G3 σ3 H3 p R3 l3
      exact hD.nx δ3 G3 σ3 H3 p R3 ((Le.of g1.le).trans (l2.trans l3))
    · intro δ3 G3 σ3 H3 p R3 l3
      exact ⟨G3, δ3, p, R3, l2.trans l3⟩
    · intro c δ3 G3 σ3 H3 p R3 l3
      exact hD.ex c δ3 G3 σ3 H3 p R3 ((Le.of g1.le).trans (l2.trans l3))
  · rintro σ2 H2 ⟨G2, δ2, i2, R2, l2⟩
    rw [rp.len] at i2
    exact hD.nx δ2 G2 σ2 H2 (hd δ2 i2) R2 ((Le.of g1.le).trans l2)
/-- over range(n) -/
theorem sx_forR {ta : TA} {n : Int} (h : Ea E ta δ [dI n]) (hn : 0 ≤ n ∧ n ≤ 1000000) (I : Nat → DEnv → Prop) (h0 : I 0 δ)
    (hs : ∀ (k : Nat) δ', (k : Int) < n → I k δ' → Sx E t (δ'.set i (some (.im (dI (k : Int))))) { P with nx := I (k + 1), ct := I (k + 1), bk := P.nx }) (hd : ∀ δ', I n.toNat δ' → P.nx δ') : Sx E (tFor (iRng1 ta) (gName i) t) δ P := fun G0 H0 G σ H D R hD => by
  refine h G0 H0 G σ H _ R fun vs G1 H1 g1 rp => ?_
  have e := Reps.mapVeq V.int (xs := [n]) rp
  subst e
  have b : (2 : Int) ^ 62 = 4611686018427387904 := by decide
  refine ⟨n, rfl, by rw [b]; omega, by rw [b]; omega, for_range (lo := 0) (n := n.toNat) (fun k σ H => ∃ G' δ', I k δ' ∧ Rep G0 H0 G' δ' σ H ∧ Le G1 G') ⟨G1, δ, h0, R.go g1, .refl _⟩ ?_ ?_⟩
  · rintro k σ2 H2 lt ⟨G2, δ2, i2, R2, l2⟩
    refine hs k δ2 (by omega) i2 G0 H0 G2 _ H2 _ (R2.set (v := .int (0 + k)) (by rw [Int.zero_add]; rfl) i) ⟨?_, hD.rt, ?_, ?_, ?_⟩
    · intro δ3 G3 σ3 H3 p R3 l3
      exact ⟨G3, δ3, p, R3, l2.trans l3⟩
    · intro δ3 G3 σ3 H3 p R3 l3
      exact hD.nx δ3 G3 σ3 H3 p R3 ((Le.of g1.le).trans (l2.trans l3))
    · intro δ3 G3 σ3 H3 p R3 l3
      exact ⟨G3, δ3, p, R3, l2.trans l3⟩
    · intro c δ3 G3 σ3 H3 p R3 l3
      exact hD.ex c δ3 G3 σ3 H3 p R3 ((Le.of g1.le).trans (l2.trans l3))
  · rintro σ2 H2 ⟨G2, δ2, i2, R2, l2⟩
    exact hD.nx δ2 G2 σ2 H2 (hd δ2 i2) R2 ((Le.of g1.le).trans l2)
/-! ### own lists and dicts -/
theorem sx_app {ds : List Dn} (j : Nat) (hj : δ[j]? = some (some (.ow (oL ds)))) (h : Ev E te δ (.ok d)) (hl : ds.length < 100000) (k : P.nx (δ.set j (some (.ow (oL (ds ++ [d])))))) :
    Sx E (tDrop (tBM K "list" rAppend (tVar j) (tCons te tNil))) δ P := fun G0 H0 G σ H D R hd => by
  obtain ⟨a, o, e1, e2, ⟨vs, e, r⟩, e4, e5⟩ := R.ow j _ hj
  subst e
  refine ⟨_, e1, .inl ⟨rfl, _, SqL.of e2⟩, h G0 H0 G σ H _ R fun v G' H' g p => ?_⟩
  refine ⟨a, vs, v, rfl, rfl, g.ext a _ e2, ?_, ?_⟩
  · rw [r.len]; exact Nat.lt_of_lt_of_le hl (by decide)
  · refine hd.nx _ G' _ _ k ((R.go g).mut hj e1 ⟨_, rfl, (r.mono (.of g.le)).app ⟨p, True.intro⟩⟩) (.of g.le)
theorem sx_setL {ds : List Dn} {n : Int} (j : Nat) (m : Nat) (hj : δ[j]? = some (some (.ow (oL ds)))) (h : Ev E te δ (.ok d)) (hi : Ev E tb δ (.ok (dI n))) (hn : n = (m : Int)) (hl : m < ds.length) (k : P.nx (δ.set j (some (.ow (oL (ds.set m d)))))) :
    Sx E (tAsg te (gSub (tVar j) tb rSetL)) δ P := fun G0 H0 G σ H D R hd => by
  obtain ⟨a, o, e1, e2, ⟨vs, e, r⟩, e4, e5⟩ := R.ow j _ hj
  subst e
  refine h G0 H0 G σ H _ R fun v G1 H1 g1 p => ?_
  refine ⟨_, e1, hi G0 H0 G1 σ H1 _ (R.go g1) fun w G2 H2 g2 q => ?_⟩
  have q : w = .int n := q
  subst q
  have g := g1.trans g2
  refine ⟨a, vs, n, m, rfl, rfl, g.ext a _ e2, ?_, ?_⟩
  · unfold ixN
    rw [r.len, if_pos (show 0 ≤ n by omega), if_pos (show n < (ds.length : Int) by omega), hn]
    rfl
  · exact hd.nx _ G2 _ _ k ((R.go g).mut hj e1 ⟨_, rfl, (r.mono (.of g.le)).set (d.mono (.of g2.le) p) m⟩) (.of g.le)
/-- an own list read -/
theorem ev_ixO {ds : List Dn} {n : Int} (j : Nat) (m : Nat) (hj : δ[j]? = some (some (.ow (oL ds)))) (hi : Ev E tb δ (.ok (dI n))) (hn : n = (m : Int)) (hd : ds[m]? = some d) {r : R2} (hr : ∀ x y H Q, rIxL K x y H Q → r x y H Q) : Ev E (tOp r (tVar j) tb) δ (.ok d) := fun G0 H0 G σ H Q R q => by
  obtain ⟨a, o, e1, e2, ⟨vs, e, rp⟩, e4, e5⟩ := R.ow j _ hj
  subst e
  refine ⟨_, e1, hi G0 H0 G σ H _ R fun w G2 H2 g2 q2 => hr _ _ _ _ ?_⟩
  have q2 : w = .int n := q2
  subst q2
  obtain ⟨v, ev, pv⟩ := rp.get hd
  exact ⟨a, vs, n, v, rfl, rfl, .of (g2.ext a _ e2), at_of hn ev, q v G2 H2 g2 (d.mono (.of g2.le) pv)⟩
end
/-! ### promises -/
def OutOk (G H : Hp) (Q : VK) (E : XK) : Res → Prop
  | .ok d => ∀ v G' H', Gr G H G' H' → d.p G' v → Q v H'
  | .own c => ∀ a o G' H', Gr G H G' H' → H a = none → G' a = none → H' a = some o → c.p G' o → Q (.ref a) H'
  | .ex c => ∀ G' H', Gr G H G' H' → E (.ref c) none H'
/-- what a def is worth: S tells how it comes out for what is handed in -/
abbrev Sem' := List Dn → Res → Prop
def spD (S : Sem') : Sp := fun vs H Q E => ∃ G ds r, S ds r ∧ Reps G ds vs ∧ Same G H ∧ OutOk G H Q E r
section
variable {E : XS} {E' : XK} {δ : DEnv} {P : Post} {te ta' : TE} {ta : TA} {d : Dn} {c : Addr} {o : On} {S : Sem'} {ds : List Dn} {K : PySem.W.Frag}
theorem ev_call (h : Ea E ta δ ds) (s : S ds (.ok d)) : Ev E (tCall (spD S) [] E' ta) δ (.ok d) := fun G0 H0 G σ H Q R q =>
  h G0 H0 G σ H _ R fun vs G1 H1 g1 p1 => ⟨G1, ds, _, s, by rw [List.append_nil]; exact p1, g1.sub, fun v G' H' g p => q v G' H' (g1.trans g) p⟩
theorem eo_call (h : Ea E ta δ ds) (s : S ds (.own o)) : Ev E (tCall (spD S) [] E' ta) δ (.own o) := fun G0 H0 G σ H Q R q =>
  h G0 H0 G σ H _ R fun vs G1 H1 g1 p1 => ⟨G1, ds, _, s, by rw [List.append_nil]; exact p1, g1.sub, fun a o G' H' g ha => q a o G' H' (g1.trans g) (g1.ext.free ha)⟩
theorem ex_call (h : Ea (fun _ => E') ta δ ds) (s : S ds (.ex c)) : Ev (fun _ => E') (tCall (spD S) [] E' ta) δ (.ex c) := fun G0 H0 G σ H Q R q =>
  h G0 H0 G σ H _ R fun vs G1 H1 g1 p1 => ⟨G1, ds, _, s, by rw [List.append_nil]; exact p1, g1.sub, fun G' H' g => q G' H' (g1.trans g)⟩
theorem ev_callS (h : Ea E ta δ ds) (s : S ds (.ok d)) : Ev E (tCallS (spD S) E ta) δ (.ok d) := fun G0 H0 G σ H Q R q =>
  h G0 H0 G σ H _ R fun vs G1 H1 g1 p1 => ⟨G1, ds, _, s, p1, g1.sub, fun v G' H' g p => q v G' H' (g1.trans g) p⟩
theorem ex_callS (h : Ea E ta δ ds) (s : S ds (.ex c)) : Ev E (tCallS (spD S) E ta) δ (.ex c) := fun G0 H0 G σ H Q R q =>
  h G0 H0 G σ H _ R fun vs G1 H1 g1 p1 => ⟨G1, ds, _, s, p1, g1.sub, fun G' H' g => q G' H' (g1.trans g)⟩
/-- a method of the class at C -/
def IsC (C : Addr) (m : Str) (x : Dn) : Prop := ∀ G v, x.p G v → ∃ a dx fs, v = .ref a ∧ G a = some (.ins C dx fs) ∧ fs.lookup m = none
theorem ev_meth {C : Addr} {m : Str} {x : Dn} (hx : Ev E ta' δ (.ok x)) (hc : IsC C m x) (h : Ea E ta δ ds) (s : S (x :: ds) (.ok d)) : Ev E (tMeth C m (spD S) [] E' ta' ta) δ (.ok d) := fun G0 H0 G σ H Q R q =>
  hx G0 H0 G σ H _ R fun v G1 H1 g1 p1 => by
    obtain ⟨a, dx, fs, e, ga, l⟩ := hc G1 v p1
    subst e
    refine ⟨a, dx, fs, rfl, g1.sub a _ ga, l, h G0 H0 G1 σ H1 _ (R.go g1) fun vs G2 H2 g2 p2 => ?_⟩
    exact ⟨G2, x :: ds, _, s, by rw [List.append_nil]; exact ⟨x.mono (.of g2.le) p1, p2⟩, g2.sub, fun v G' H' g p => q v G' H' (g1.trans (g2.trans g)) p⟩
theorem eo_meth {C : Addr} {m : Str} {x : Dn} (hx : Ev E ta' δ (.ok x)) (hc : IsC C m x) (h : Ea E ta δ ds) (s : S (x :: ds) (.own o)) : Ev E (tMeth C m (spD S) [] E' ta' ta) δ (.own o) := fun G0 H0 G σ H Q R q =>
  hx G0 H0 G σ H _ R fun v G1 H1 g1 p1 => by
    obtain ⟨a, dx, fs, e, ga, l⟩ := hc G1 v p1
    subst e
    refine ⟨a, dx, fs, rfl, g1.sub a _ ga, l, h G0 H0 G1 σ H1 _ (R.go g1) fun vs G2 H2 g2 p2 => ?_⟩
    exact ⟨G2, x :: ds, _, s, by rw [List.append_nil]; exact ⟨x.mono (.of g2.le) p1, p2⟩, g2.sub, fun a o G' H' g ha => q a o G' H' (g1.trans (g2.trans g)) ((g1.trans g2).ext.free ha)⟩
theorem ex_meth {C : Addr} {m : Str} {x : Dn} (hx : Ev (fun _ => E') ta' δ (.ok x)) (hc : IsC C m x) (h : Ea (fun _ => E') ta δ ds) (s : S (x :: ds) (.ex c)) : Ev (fun _ => E') (tMeth C m (spD S) [] E' ta' ta) δ (.ex c) := fun G0 H0 G σ H Q R q =>
  hx G0 H0 G σ H _ R fun v G1 H1 g1 p1 => by
    obtain ⟨a, dx, fs, e, ga, l⟩ := hc G1 v p1
    subst e
    refine ⟨a, dx, fs, rfl, g1.sub a _ ga, l, h G0 H0 G1 σ H1 _ (R.go g1) fun vs G2 H2 g2 p2 => ?_⟩
    exact ⟨G2, x :: ds, _, s, by rw [List.append_nil]; exact ⟨x.mono (.of g2.le) p1, p2⟩, g2.sub, fun G' H' g => q G' H' (g1.trans (g2.trans g))⟩
end
/-- a choice of two readings -/
def tAlt (t u : TE) : TE := fun σ H Q => t σ H Q ∨ u σ H Q
theorem pe_alt {X : Cx} {e : Expr} {t u : TE} (h1 : PE X e t) (h2 : PE X e u) : PE X e (tAlt t u) := ⟨fun pins s σ H Q I h => h.elim (h1.run pins s σ H Q I) (h2.run pins s σ H Q I)⟩
theorem ev_alt1 {E : XS} {δ : DEnv} {t u : TE} : ∀ {r : Res}, Ev E t δ r → Ev E (tAlt t u) δ r
  | .ok _, h => fun G0 H0 G σ H Q R q => .inl (h G0 H0 G σ H Q R q)
  | .own _, h => fun G0 H0 G σ H Q R q => .inl (h G0 H0 G σ H Q R q)
  | .ex _, h => fun G0 H0 G σ H Q R q => .inl (h G0 H0 G σ H Q R q)
theorem ev_alt2 {E : XS} {δ : DEnv} {t u : TE} : ∀ {r : Res}, Ev E u δ r → Ev E (tAlt t u) δ r
  | .ok _, h => fun G0 H0 G σ H Q R q => .inr (h G0 H0 G σ H Q R q)
  | .own _, h => fun G0 H0 G σ H Q R q => .inr (h G0 H0 G σ H Q R q)
  | .ex _, h => fun G0 H0 G σ H Q R q => .inr (h G0 H0 G σ H Q R q)
/-! ### defs -/
def entry (N : List Str) (ds : List Dn) : DEnv := ds.map (fun d => some (.im d)) ++ List.replicate (N.length - ds.length) none
theorem Rep.entry {G H : Hp} {ds : List Dn} {vs : List V} (N : List Str) (r : Reps G ds vs) (s : Same G H) : Rep G H G (entry N ds) (L2.start N vs) H := by
  have noow : ∀ (i : Nat) c, (HM.entry N ds)[i]? ≠ some (some (.ow c)) := fun i c h => by
    unfold HM.entry at h
    by_cases q : i < ds.length
    · rw [List.getElem?_append_left (by rw [List.length_map]; exact q), List.getElem?_map] at h
      rw [List.getElem?_eq_getElem q] at h
      cases h
    · rw [List.getElem?_append_right (by rw [List.length_map]; omega), List.getElem?_replicate] at h
      split at h <;> cases h
  refine ⟨.refl s, ?_, fun i d h => ?_, fun i c h => absurd h (noow i c), fun i j c c' a h => absurd h (noow i c)⟩
  · unfold HM.entry L2.start
    rw [List.length_append, List.length_append, List.length_map, List.length_map, List.length_replicate, List.length_replicate, r.len]
  · unfold HM.entry at h
    by_cases q : i < ds.length
    · rw [List.getElem?_append_left (by rw [List.length_map]; exact q), List.getElem?_map, List.getElem?_eq_getElem q] at h
      cases h
      obtain ⟨v, e, p⟩ := r.get (List.getElem?_eq_getElem q)
      refine ⟨v, ?_, p⟩
      unfold L2.start
      rw [List.getElem?_append_left (by rw [List.length_map, r.len]; exact q), List.getElem?_map, e]
      rfl
    · rw [List.getElem?_append_right (by rw [List.length_map]; omega), List.getElem?_replicate] at h
      split at h <;> cases h
def postOf : Res → Post
  | .ok d => { nx := fun _ => ∀ G, d.p G .non, rt := .im d }
  | .own c => { nx := fun _ => False, rt := .ow c }
  | .ex c => { nx := fun _ => False, rt := .im dF, ex := fun c' _ => c' = c }
theorem Holds.of {G H : Hp} {Q : VK} {E : XK} {r : Res} (o : OutOk G H Q E r) : Holds (fun _ => E) (postOf r) G H G { nx := fun _ H' => Q .non H', rt := Q } := by
  cases r with
  | ok d => exact ⟨fun δ G' σ H' p R l => o .non G' H' R.gr (p G'), o, fun _ _ _ _ z => z.elim, fun _ _ _ _ z => z.elim, fun _ _ _ _ _ z => z.elim⟩
  | own c => exact ⟨fun δ G' σ H' p R l => p.elim, o, fun _ _ _ _ z => z.elim, fun _ _ _ _ z => z.elim, fun _ _ _ _ _ z => z.elim⟩
  | ex c =>
    refine ⟨fun δ G' σ H' p R l => p.elim, fun v G' H' g p => p.elim, fun _ _ _ _ z => z.elim, fun _ _ _ _ z => z.elim, fun c' δ G' σ H' z R l => ?_⟩
    have z : c' = c := z
    subst z
    exact o G' H' R.gr
section
variable {P : Program} {w : World} {K : PySem.W.Frag} {mg : Str → Option Value} {base : Heap} {x qual : Str} {st : Stmt} {f : Addr} {fd : FuncData} {N ps : List Str} {k : Nat} {S : Sem'}
/-- a def that lets no exception out -/
theorem fn0 (F : Fun K x qual st f fd) (sc : FnScope N ps (defScope st)) (len : ∀ ds r, S ds r → ds.length = ps.length)
    (body : ∀ (cdv : Value) (A : Around) (outer : List PySem.Env) (s : Shared) (H : Hp) (E : XK) (ds : List Dn) (r : Res), Room k (A.deeper (PyProof.Rows.envOfC qual (defScope st) s.heap.objs.size f cdv)) → S ds r →
      ∃ t, PSs (cxOf CX0 P w K mg base N qual (defScope st) f cdv A outer s H E).nox (defBody st) t ∧ Sx (fun _ => E) t (entry N ds) (postOf r)) : FnOk P w K mg base CX0 (k + 1) f fd ps (spD S) := by
  refine F.ok sc (fun vs H Q E ⟨G, ds, r, s, rp, _⟩ => rp.len.trans (len ds r s)) fun cdv A outer s H vs Q E hr ⟨G, ds, r, hs, rp, sm, o⟩ => ?_
  obtain ⟨t, h1, h2⟩ := body cdv A outer s H E ds r hr hs
  exact ⟨t, h1, h2 G H G _ H _ (Rep.entry N rp sm) (.of o)⟩
/-- a def that may raise -/
theorem fnX (F : Fun K x qual st f fd) (sc : FnScope N ps (defScope st)) (len : ∀ ds r, S ds r → ds.length = ps.length)
    (body : ∀ (cdv : Value) (A : Around) (outer : List PySem.Env) (s : Shared) (H : Hp) (E : XK) (ds : List Dn) (r : Res), Room k (A.deeper (PyProof.Rows.envOfC qual (defScope st) s.heap.objs.size f cdv)) → S ds r →
      ∃ t, PSs (cxOf (L2.CX P w) P w K mg base N qual (defScope st) f cdv A outer s H E) (defBody st) t ∧ Sx (fun _ => E) t (entry N ds) (postOf r)) : FnOk P w K mg base (L2.CX P w) (k + 1) f fd ps (spD S) := by
  refine F.okX sc (fun vs H Q E ⟨G, ds, r, s, rp, _⟩ => rp.len.trans (len ds r s)) fun cdv A outer s H vs Q E hr ⟨G, ds, r, hs, rp, sm, o⟩ => ?_
  obtain ⟨t, h1, h2⟩ := body cdv A outer s H E ds r hr hs
  exact ⟨t, h1, h2 G H G _ H _ (Rep.entry N rp sm) (.of o)⟩
end
end HM
/-! Operations over denotations. -/
namespace HM
open PySem L2
/-- a text by its codes -/
def cS (l : List Nat) : Str := ⟨l.toArray⟩
abbrev dC (l : List Nat) : Dn := dV (.str (cS l))
theorem cS_inj {a b : List Nat} (h : cS a = cS b) : a = b := by
  have := congrArg (fun s : Str => s.cps.toList) h
  simpa [cS] using this
theorem cS_len (l : List Nat) : (cS l).length = l.length := by show l.toArray.size = l.length; simp
theorem cS_app (a b : List Nat) : cS a ++ cS b = cS (a ++ b) := by
  show (⟨a.toArray ++ b.toArray⟩ : Str) = ⟨(a ++ b).toArray⟩
  simp
/-! ### operators that know more than one kind -/
def rAddU : R2 := fun x y H Q => rI0 (fun i j => .int (i + j)) x y H Q ∨ ((∃ i j, x = .str i ∧ y = .str j ∧ i.length + j.length ≤ sizeLine ∧ Q (.str (i ++ j)) H) ∨ rCat x y H Q)
def rEqU (K : PySem.W.Frag) : R2 := fun x y H Q => rEq x y H Q ∨ rEqD K x y H Q
def rNeU (K : PySem.W.Frag) : R2 := fun x y H Q => rNe x y H Q ∨ rNeD K x y H Q
def rMulU : R2 := fun x y H Q => rI CMul (fun i j => .int (i * j)) x y H Q ∨ rI CMulW (fun i j => .int (i * j)) x y H Q
abbrev rDivU : R2 := rI CDivW fun i j => .int (i / j)
abbrev rModU : R2 := rI (fun _ j => 0 < j) fun i j => .int (i % j)
section
variable {X : Cx}
theorem op_addU : OpR X (binaryOp .Add) rAddU := op_add.or (op_add_str.or op_cat)
theorem op_mulU : OpR X (binaryOp .Mult) rMulU := op_mul.or op_mulW
theorem op_eqU (hu : X.A.units + 64 < cLine) : OpR X (compareOp .Eq) (rEqU X.K) := op_eq.or (op_eqD hu)
theorem op_neU (hu : X.A.units + 64 < cLine) : OpR X (compareOp .NotEq) (rNeU X.K) := op_ne.or (op_neD hu)
end
/-! ### data for == -/
mutual
theorem Dp_mono {K : PySem.W.Frag} {H H' : Hp} (h : Same H H') : ∀ {v : V} {d : PyData}, Dp K H v d → Dp K H' v d
  | _, _, .non => .non
  | _, _, .bl b => .bl b
  | _, _, .int i => .int i
  | _, _, .str x => .str x
  | _, _, .lst s a => .lst ((Le.of h).lst s) (DpAll_mono h a)
  | _, _, .tup s a => .tup ((Le.of h).tup s) (DpAll_mono h a)
theorem DpAll_mono {K : PySem.W.Frag} {H H' : Hp} (h : Same H H') : ∀ {v : List V} {d : List PyData}, DpAll K H v d → DpAll K H' v d
  | _, _, .nil => .nil
  | _, _, .cons a r => .cons (Dp_mono h a) (DpAll_mono h r)
end
/-- what denotes d is the data q -/
def Dq (K : PySem.W.Frag) (d : Dn) (q : PyData) : Prop := ∀ G v, d.p G v → Dp K G v q
def Dqs (K : PySem.W.Frag) : List Dn → List PyData → Prop
  | [], [] => True
  | d :: ds, q :: qs => Dq K d q ∧ Dqs K ds qs
  | _, _ => False
section
variable {K : PySem.W.Frag}
theorem dq_int (i : Int) : Dq K (dI i) (.int i) := fun G v h => by
  have h : v = .int i := h
  subst h; exact .int i
theorem dq_bl (i : Bool) : Dq K (dB i) (.bool i) := fun G v h => by
  have h : v = .bl i := h
  subst h; exact .bl i
theorem dq_non : Dq K dN .none := fun G v h => by
  have h : v = .non := h
  subst h; exact .non
theorem dq_str (s : Str) : Dq K (dS s) (.str s) := fun G v h => by
  have h : v = .str s := h
  subst h; exact .str s
theorem dq_all {G : Hp} : ∀ {ds : List Dn} {qs : List PyData} {vs : List V}, Dqs K ds qs → Reps G ds vs → DpAll K G vs qs
  | [], [], [], _, _ => .nil
  | _ :: _, _ :: _, _ :: _, h, r => .cons (h.1 _ _ r.1) (dq_all h.2 r.2)
  | [], _ :: _, _, h, _ => h.elim
  | _ :: _, [], _, h, _ => h.elim
  | [], [], _ :: _, _, r => r.elim
  | _ :: _, _ :: _, [], _, r => r.elim
theorem dq_tup {ds : List Dn} {qs : List PyData} (h : Dqs K ds qs) : Dq K (dT K ds) (.tuple qs) := fun G v ⟨a, vs, e, t, r⟩ => by
  subst e; exact .tup t (dq_all h r)
theorem dq_lst {ds : List Dn} {qs : List PyData} (h : Dqs K ds qs) : Dq K (dL K ds) (.list qs) := fun G v ⟨a, vs, e, t, r⟩ => by
  subst e; exact .lst t (dq_all h r)
def qR (r : Rat) : PyData := .tuple [.int r.num, .int (r.den : Int)]
theorem dq_R (r : Rat) : Dq K (dR K r) (qR r) := fun G v h => dq_tup (K := K) (ds := [dI r.num, dI (r.den : Int)]) (qs := [.int r.num, .int (r.den : Int)]) ⟨dq_int _, dq_int _, True.intro⟩ G v (dR_dT h)
end
/-- no bools, no dicts, not deep -/
def pl : Nat → PyData → Bool
  | _, .none => true
  | _, .int _ => true
  | _, .str x => PyData.strOk x
  | n + 1, .list xs => xs.all (pl n)
  | n + 1, .tuple xs => xs.all (pl n)
  | _, _ => false
theorem pl_lay : ∀ (n : Nat) (d : PyData), pl n d = true → PyData.canLay0 d = true ∧ d.depth ≤ n := by
  intro n
  have all : ∀ (m : Nat) (ih : ∀ d : PyData, pl m d = true → PyData.canLay0 d = true ∧ d.depth ≤ m) (xs : List PyData), xs.all (pl m) = true → PyData.canLayAll0 xs = true ∧ PyData.depthAll xs ≤ m := by
    intro m ih xs h
    induction xs with
    | nil => exact ⟨rfl, Nat.zero_le _⟩
    | cons x r ih2 =>
      rw [List.all_cons, Bool.and_eq_true] at h
      obtain ⟨a1, a2⟩ := ih x h.1
      obtain ⟨b1, b2⟩ := ih2 h.2
      refine ⟨by simp only [PyData.canLayAll0, a1, b1, Bool.and_self], ?_⟩
      simp only [PyData.depthAll]
      exact Nat.max_le.mpr ⟨a2, b2⟩
  induction n with
  | zero =>
    intro d h
    cases d with
    | none => exact ⟨rfl, Nat.zero_le _⟩
    | int i => exact ⟨rfl, Nat.zero_le _⟩
    | str i => exact ⟨h, Nat.zero_le _⟩
    | bool b => cases h
    | list b => cases h
    | tuple b => cases h
    | dict b => cases h
  | succ n ih =>
    intro d h
    cases d with
    | none => exact ⟨rfl, Nat.zero_le _⟩
    | int i => exact ⟨rfl, Nat.zero_le _⟩
    | str i => exact ⟨h, Nat.zero_le _⟩
    | bool b => cases h
    | list xs =>
      have z := all n ih xs h
      exact ⟨by simp only [PyData.canLay0]; exact z.1, by simp only [PyData.depth]; omega⟩
    | tuple xs =>
      have z := all n ih xs h
      exact ⟨by simp only [PyData.canLay0]; exact z.1, by simp only [PyData.depth]; omega⟩
    | dict b => cases h
theorem pl_shaped {n : Nat} {d : PyData} (h : pl n d = true) (hn : n ≤ 64) : SeqAt.shaped d = true := by
  obtain ⟨a, b⟩ := pl_lay n d h
  unfold SeqAt.shaped
  rw [a, Bool.true_and]
  exact decide_eq_true (Nat.le_trans b hn)
theorem pl_eq : ∀ (n : Nat) (d e : PyData), pl n d = true → pl n e = true → (PyData.eqv d e = true ↔ d = e) := by
  intro n
  have all : ∀ (m : Nat) (ih : ∀ d e : PyData, pl m d = true → pl m e = true → (PyData.eqv d e = true ↔ d = e)) (xs ys : List PyData), xs.all (pl m) = true → ys.all (pl m) = true → (PyData.eqvAll xs ys = true ↔ xs = ys) := by
    intro m ih xs
    induction xs with
    | nil => intro ys _ _; cases ys <;> simp [PyData.eqvAll]
    | cons x r ih2 =>
      intro ys h h'
      cases ys with
      | nil => simp [PyData.eqvAll]
      | cons y s =>
        rw [List.all_cons, Bool.and_eq_true] at h h'
        simp only [PyData.eqvAll, Bool.and_eq_true, ih x y h.1 h'.1, ih2 s h.2 h'.2, List.cons.injEq]
  induction n with
  | zero =>
    intro d e h h'
    cases d <;> first | (cases h; done) | skip
    all_goals (cases e <;> first | (cases h'; done) | skip)
    all_goals (simp only [PyData.eqv, PyData.int.injEq, PyData.str.injEq, beq_iff_eq, reduceCtorEq, Bool.false_eq_true])
  | succ n ih =>
    intro d e h h'
    cases d <;> first | (cases h; done) | skip
    all_goals (cases e <;> first | (cases h'; done) | skip)
    all_goals first
      | (simp only [PyData.eqv, PyData.int.injEq, PyData.str.injEq, beq_iff_eq, reduceCtorEq, Bool.false_eq_true]; done)
      | (simp only [PyData.eqv, PyData.list.injEq, PyData.tuple.injEq]; exact all n ih _ _ h h')
/-! ### values of two denotations -/
section
variable {K : PySem.W.Frag} {x y z : Dn} {b : Bool}
theorem rv_of {r : R2} {u v w : V} (h : ∀ H Q, Q w H → r u v H Q) : Rv r (dV u) (dV v) (dV w) := fun G H u' v' Q sm h1 h2 q => by
  have h1 : u' = u := h1
  have h2 : v' = v := h2
  subst h1; subst h2
  exact h H Q (q w G H (.refl sm) rfl)
theorem rv_add {i j : Int} : Rv rAddU (dI i) (dI j) (dI (i + j)) := rv_of fun H Q q => .inl ⟨i, j, rfl, rfl, q⟩
theorem rv_addS {a b : List Nat} (h : a.length + b.length ≤ 100000) : Rv rAddU (dC a) (dC b) (dC (a ++ b)) := rv_of fun H Q q => .inr (.inl ⟨_, _, rfl, rfl, by
  rw [cS_len, cS_len]; exact Nat.le_trans h (by decide), by rw [cS_app]; exact q⟩)
theorem rv_sub {i j : Int} : Rv (rI0 fun i j => .int (i - j)) (dI i) (dI j) (dI (i - j)) := rv_of fun H Q q => ⟨i, j, rfl, rfl, q⟩
theorem rv_mul {i j : Int} (h : CMulW i j) : Rv rMulU (dI i) (dI j) (dI (i * j)) := rv_of fun H Q q => .inr ⟨i, j, rfl, rfl, h, q⟩
theorem rv_mulS {i j : Int} (h : CMul i j) : Rv rMulU (dI i) (dI j) (dI (i * j)) := rv_of fun H Q q => .inl ⟨i, j, rfl, rfl, h, q⟩
theorem rv_div {i j : Int} (h : CDivW i j) : Rv rDivU (dI i) (dI j) (dI (i / j)) := rv_of fun H Q q => ⟨i, j, rfl, rfl, h, q⟩
theorem rv_mod {i j : Int} (h : 0 < j) : Rv rModU (dI i) (dI j) (dI (i % j)) := rv_of fun H Q q => ⟨i, j, rfl, rfl, h, q⟩
theorem rv_pow {i j : Int} (h : CPow i j) : Rv (rI CPow fun i j => .int (i ^ j.toNat)) (dI i) (dI j) (dI (i ^ j.toNat)) := rv_of fun H Q q => ⟨i, j, rfl, rfl, h, q⟩
theorem ru_neg {i : Int} : Ru (rU fun i => .int (-i)) (dI i) (dI (-i)) := fun G H u Q sm h q => by
  have h : u = .int i := h
  subst h
  exact ⟨i, rfl, q _ G H (.refl sm) rfl⟩
theorem rv_lt {i j : Int} : Rv (rI0 fun i j => .bl (decide (i < j))) (dI i) (dI j) (dB (decide (i < j))) := rv_of fun H Q q => ⟨i, j, rfl, rfl, q⟩
theorem rv_le {i j : Int} : Rv (rI0 fun i j => .bl (decide (i ≤ j))) (dI i) (dI j) (dB (decide (i ≤ j))) := rv_of fun H Q q => ⟨i, j, rfl, rfl, q⟩
theorem rv_gt {i j : Int} : Rv (rI0 fun i j => .bl (decide (j < i))) (dI i) (dI j) (dB (decide (j < i))) := rv_of fun H Q q => ⟨i, j, rfl, rfl, q⟩
theorem rv_ge {i j : Int} : Rv (rI0 fun i j => .bl (decide (j ≤ i))) (dI i) (dI j) (dB (decide (j ≤ i))) := rv_of fun H Q q => ⟨i, j, rfl, rfl, q⟩
theorem rv_eqI {i j : Int} : Rv (rEqU K) (dI i) (dI j) (dB (decide (i = j))) := rv_of fun H Q q => .inl ⟨rfl, by
  have : decide (V.int i = V.int j) = decide (i = j) := by simp
  rw [this]; exact q⟩
theorem rv_eqS {i j : List Nat} : Rv (rEqU K) (dC i) (dC j) (dB (decide (i = j))) := rv_of fun H Q q => .inl ⟨rfl, by
  have : decide (V.str (cS i) = V.str (cS j)) = decide (i = j) := by
    by_cases h : i = j
    · subst h; simp
    · rw [decide_eq_false h, decide_eq_false fun z => h (cS_inj (V.str.inj z))]
  rw [this]; exact q⟩
theorem rv_eqB {i j : Bool} : Rv (rEqU K) (dB i) (dB j) (dB (decide (i = j))) := rv_of fun H Q q => .inl ⟨rfl, by
  have : decide (V.bl i = V.bl j) = decide (i = j) := by simp
  rw [this]; exact q⟩
theorem rv_neI {i j : Int} : Rv (rNeU K) (dI i) (dI j) (dB (!decide (i = j))) := rv_of fun H Q q => .inl ⟨rfl, by
  have : decide (V.int i = V.int j) = decide (i = j) := by simp
  rw [this]; exact q⟩
theorem rv_neS {i j : List Nat} : Rv (rNeU K) (dC i) (dC j) (dB (!decide (i = j))) := rv_of fun H Q q => .inl ⟨rfl, by
  have : decide (V.str (cS i) = V.str (cS j)) = decide (i = j) := by
    by_cases h : i = j
    · subst h; simp
    · rw [decide_eq_false h, decide_eq_false fun z => h (cS_inj (V.str.inj z))]
  rw [this]; exact q⟩
theorem rv_neB {i j : Bool} : Rv (rNeU K) (dB i) (dB j) (dB (!decide (i = j))) := rv_of fun H Q q => .inl ⟨rfl, by
  have : decide (V.bl i = V.bl j) = decide (i = j) := by simp
  rw [this]; exact q⟩
theorem rv_eqD {q q' : PyData} (n : Nat) (h1 : Dq K x q) (h2 : Dq K y q') (p1 : pl n q = true) (p2 : pl n q' = true) (hn : n ≤ 64) (hb : q = q' ↔ b = true) : Rv (rEqU K) x y (dB b) := fun G H u v Q sm a1 a2 k =>
  .inr ⟨q, q', Dp_mono sm (h1 G u a1), Dp_mono sm (h2 G v a2), pl_shaped p1 hn, pl_shaped p2 hn, by
    have e : PyData.eqv q q' = b := by
      rw [Bool.eq_iff_iff, pl_eq n q q' p1 p2]; exact hb
    rw [e]; exact k _ G H (.refl sm) rfl⟩
theorem rv_neD {q q' : PyData} (n : Nat) (h1 : Dq K x q) (h2 : Dq K y q') (p1 : pl n q = true) (p2 : pl n q' = true) (hn : n ≤ 64) (hb : q = q' ↔ b = true) : Rv (rNeU K) x y (dB (!b)) := fun G H u v Q sm a1 a2 k =>
  .inr ⟨q, q', Dp_mono sm (h1 G u a1), Dp_mono sm (h2 G v a2), pl_shaped p1 hn, pl_shaped p2 hn, by
    have e : PyData.eqv q q' = b := by
      rw [Bool.eq_iff_iff, pl_eq n q q' p1 p2]; exact hb
    rw [e]; exact k _ G H (.refl sm) rfl⟩
theorem qR_inj {r s : Rat} : qR r = qR s ↔ r = s := by
  constructor
  · intro h
    simp only [qR, PyData.tuple.injEq, List.cons.injEq, PyData.int.injEq, and_true] at h
    exact Rat.ext h.1 (by omega)
  · intro h; rw [h]
theorem rv_eqR {r s : Rat} : Rv (rEqU K) (dR K r) (dR K s) (dB (decide (r = s))) := rv_eqD 1 (dq_R r) (dq_R s) rfl rfl (by decide) (by rw [qR_inj, decide_eq_true_iff])
theorem rv_neR {r s : Rat} : Rv (rNeU K) (dR K r) (dR K s) (dB (!decide (r = s))) := rv_neD 1 (dq_R r) (dq_R s) rfl rfl (by decide) (by rw [qR_inj, decide_eq_true_iff])
theorem rv_isN : Rv (fun x y H Q => y = .non ∧ Q (.bl (decide (x = .non))) H) dN dN (dB true) := rv_of fun H Q q => ⟨rfl, q⟩
/-- None asked of what is not None -/
theorem rv_isN0 (h : ∀ G v, x.p G v → v ≠ .non) : Rv (fun x y H Q => y = .non ∧ Q (.bl (decide (x = .non))) H) x dN (dB false) := fun G H u v Q sm a1 a2 k => by
  have a2 : v = .non := a2
  refine ⟨a2, ?_⟩
  rw [decide_eq_false (h G u a1)]
  exact k _ G H (.refl sm) rfl
theorem rv_notN : Rv (fun x y H Q => y = .non ∧ Q (.bl (!decide (x = .non))) H) dN dN (dB false) := rv_of fun H Q q => ⟨rfl, q⟩
theorem rv_notN0 (h : ∀ G v, x.p G v → v ≠ .non) : Rv (fun x y H Q => y = .non ∧ Q (.bl (!decide (x = .non))) H) x dN (dB true) := fun G H u v Q sm a1 a2 k => by
  have a2 : v = .non := a2
  refine ⟨a2, ?_⟩
  rw [decide_eq_false (h G u a1)]
  exact k _ G H (.refl sm) rfl
/-! ### items -/
theorem rv_ixT {ds : List Dn} {n : Int} (m : Nat) (hn : n = (m : Int)) (hd : ds[m]? = some z) : Rv (rIx K) (dT K ds) (dI n) z := fun G H u v Q sm ⟨a, vs, e, t, r⟩ h2 k => by
  have h2 : v = .int n := h2
  subst e; subst h2
  obtain ⟨w, ew, pw⟩ := r.get hd
  exact .inr (.inl ⟨a, vs, n, w, rfl, rfl, (Le.of sm).tup t, at_of hn ew, k w G H (.refl sm) pw⟩)
theorem rv_ixL {ds : List Dn} {n : Int} (m : Nat) (hn : n = (m : Int)) (hd : ds[m]? = some z) : Rv (rIx K) (dL K ds) (dI n) z := fun G H u v Q sm ⟨a, vs, e, t, r⟩ h2 k => by
  have h2 : v = .int n := h2
  subst e; subst h2
  obtain ⟨w, ew, pw⟩ := r.get hd
  exact .inl ⟨a, vs, n, w, rfl, rfl, (Le.of sm).lst t, at_of hn ew, k w G H (.refl sm) pw⟩
theorem rv_R0 {r : Rat} : Rv (rIx K) (dR K r) (dI 0) (dI r.num) := fun G H u v Q sm h1 h2 k => rv_ixT (K := K) (ds := [dI r.num, dI (r.den : Int)]) 0 rfl rfl G H u v Q sm (dR_dT h1) h2 k
theorem rv_R1 {r : Rat} : Rv (rIx K) (dR K r) (dI 1) (dI (r.den : Int)) := fun G H u v Q sm h1 h2 k => rv_ixT (K := K) (ds := [dI r.num, dI (r.den : Int)]) 1 rfl rfl G H u v Q sm (dR_dT h1) h2 k
theorem rv_ixS {l : List Nat} {n : Int} {c : Nat} (m : Nat) (hn : n = (m : Int)) (hl : l.length ≤ 100000) (hc : l[m]? = some c) : Rv (rIx K) (dC l) (dI n) (dC [c]) := fun G H u v Q sm h1 h2 k => by
  have h1 : u = .str (cS l) := h1
  have h2 : v = .int n := h2
  subst h1; subst h2
  refine .inr (.inr ⟨cS l, n, c, rfl, rfl, by rw [cS_len]; exact Nat.le_trans hl (by decide), ?_, k _ G H (.refl sm) rfl⟩)
  have e : (cS l).cps.toList = l := by simp [cS]
  rw [e, hn]
  exact atI_nat hc
/-! ### built-ins -/
theorem Reps_one {G : Hp} {d : Dn} {us : List V} (h : Reps G [d] us) : ∃ u, us = [u] ∧ d.p G u := by
  cases us with
  | nil => exact h.elim
  | cons u r =>
    cases r with
    | nil => exact ⟨u, rfl, h.1⟩
    | cons _ _ => exact h.2.elim
theorem Reps_two {G : Hp} {d e : Dn} {us : List V} (h : Reps G [d, e] us) : ∃ u w, us = [u, w] ∧ d.p G u ∧ e.p G w := by
  cases us with
  | nil => exact h.elim
  | cons u r =>
    obtain ⟨w, e, q⟩ := Reps_one h.2
    subst e
    exact ⟨u, w, rfl, h.1, q⟩
theorem rc_of {r : List V → Hp → VK → Prop} {us : List V} {w : V} (h : ∀ H Q, Q w H → r us H Q) : Rc r (us.map dV) (dV w) := fun G H us' Q sm h1 q => by
  have e : us' = us := by
    have := Reps.mapVeq (G := G) (fun v : V => v) (xs := us) h1
    simpa using this
  subst e
  exact h H Q (q w G H (.refl sm) rfl)
theorem rc_abs {i : Int} : Rc (fun xs H Q => ∃ i, xs = [.int i] ∧ Q (.int (if i < 0 then -i else i)) H) [dI i] (dI (i.natAbs : Int)) := fun G H us Q sm h k => by
  have e := Reps.mapVeq V.int (xs := [i]) h
  subst e
  refine ⟨i, rfl, ?_⟩
  have : (if i < 0 then -i else i) = (i.natAbs : Int) := by split <;> omega
  rw [this]
  exact k _ G H (.refl sm) rfl
/-- len of whatever has one -/
def rLenU (K : PySem.W.Frag) : List V → Hp → VK → Prop := fun xs H Q => (∃ p ys, xs = [.ref p] ∧ (SqL K H p ys ∨ SqT K H p ys) ∧ Q (.int ys.length) H) ∨ ((∃ z, xs = [.str z] ∧ z.length ≤ sizeLine ∧ Q (.int z.length) H) ∨ ∃ a kvs, xs = [V.ref a] ∧ H a = some (.dK kvs) ∧ Q (.int kvs.length) H)
theorem call_lenU {X : Cx} : CallR X (.builtin "len") (rLenU X.K) := call_len_seq.or (call_len_str.or call_lenD)
theorem rc_lenL {ds : List Dn} : Rc (rLenU K) [dL K ds] (dI (ds.length : Int)) := fun G H us Q sm h k => by
  obtain ⟨u, e, h1⟩ := Reps_one h
  subst e
  · obtain ⟨a, vs, e2, t, r⟩ := h1
    subst e2
    have e3 := r.len
    refine .inl ⟨a, vs, rfl, .inl ((Le.of sm).lst t), k (.int (vs.length : Int)) G H (.refl sm) ?_⟩
    show V.int _ = V.int _
    rw [e3]
theorem rc_lenT {ds : List Dn} : Rc (rLenU K) [dT K ds] (dI (ds.length : Int)) := fun G H us Q sm h k => by
  obtain ⟨u, e, h1⟩ := Reps_one h
  subst e
  · obtain ⟨a, vs, e2, t, r⟩ := h1
    subst e2
    have e3 := r.len
    refine .inl ⟨a, vs, rfl, .inr ((Le.of sm).tup t), k (.int (vs.length : Int)) G H (.refl sm) ?_⟩
    show V.int _ = V.int _
    rw [e3]
theorem rc_lenR {r : Rat} : Rc (rLenU K) [dR K r] (dI 2) := fun G H us Q sm h k => by
  obtain ⟨u, e, h1⟩ := Reps_one h
  subst e
  exact rc_lenT (K := K) (ds := [dI r.num, dI (r.den : Int)]) G H [u] Q sm ⟨dR_dT h1, True.intro⟩ k
theorem rc_lenS {l : List Nat} (hl : l.length ≤ 100000) : Rc (rLenU K) [dC l] (dI (l.length : Int)) := fun G H us Q sm h k => by
  have e := Reps.mapVeq (fun l => V.str (cS l)) (xs := [l]) h
  subst e
  refine .inr (.inl ⟨cS l, rfl, by rw [cS_len]; exact Nat.le_trans hl (by decide), k (.int ((cS l).length : Int)) G H (.refl sm) ?_⟩)
  show V.int _ = V.int _
  rw [cS_len]
/-! ### isinstance -/
theorem TyX_mono {H H' : Hp} (h : Same H H') {v : V} {t : Value} (x : TyX K H v t) : TyX K H' v t := by
  cases x with
  | base b => exact .base (by
      cases b with
      | non => exact .non
      | bl x => exact .bl x
      | int i => exact .int i
      | str x => exact .str x
      | flt x => exact .flt x
      | lst e => exact .lst (h _ _ e)
      | frz e => exact .frz (h _ _ e)
      | tup e => exact .tup (h _ _ e)
      | dK e => exact .dK (h _ _ e)
      | dT e => exact .dT (h _ _ e)
      | ins e cl ha hn htk hm => exact .ins (h _ _ e) cl ha hn htk hm)
  | byt b => exact .byt b
  | set e => exact .set (h _ _ e)
  | kList e c => exact .kList e c
  | kTuple e c => exact .kTuple e c
  | kDict e c => exact .kDict e c
  | fTuple e => exact .fTuple (h _ _ e)
  | fDict e => exact .fDict (h _ _ e)
/-- what denotes d is of the type t -/
def Ty (K : PySem.W.Frag) (d : Dn) (t : Value) : Prop := ∀ G v, d.p G v → TyX K G v t
theorem ty_I {i : Int} : Ty K (dI i) (.type "int") := fun G v h => by
  have h : v = .int i := h
  subst h; exact .base (.int i)
theorem ty_B {i : Bool} : Ty K (dB i) (.type "bool") := fun G v h => by
  have h : v = .bl i := h
  subst h; exact .base (.bl i)
theorem ty_N : Ty K dN (.type "NoneType") := fun G v h => by
  have h : v = .non := h
  subst h; exact .base .non
theorem ty_S {i : Str} : Ty K (dS i) (.type "str") := fun G v h => by
  have h : v = .str i := h
  subst h; exact .base (.str i)
theorem ty_T {ds : List Dn} : Ty K (dT K ds) (.type "tuple") := fun G v ⟨a, vs, e, t, r⟩ => by
  subst e
  rcases t with (t | ⟨o, t⟩) | ⟨o, its, n, t, c, _⟩
  · exact .base (.tup t)
  · exact .fTuple t
  · exact .kTuple t c
theorem ty_R {r : Rat} : Ty K (dR K r) (.type "tuple") := fun G v h => ty_T (K := K) G v (dR_dT h)
theorem ty_L {ds : List Dn} : Ty K (dL K ds) (.type "list") := fun G v ⟨a, vs, e, t, r⟩ => by
  subst e
  rcases t with (t | ⟨o, t⟩) | ⟨o, its, n, t, c, _⟩
  · exact .base (.lst t)
  · exact .base (.frz t)
  · exact .kList t c
def rIsiU (K : PySem.W.Frag) : List V → Hp → VK → Prop := fun xs H Q => rIsi K xs H Q ∨ rIsiT K xs H Q
theorem call_isiU {X : Cx} : CallR X (.builtin "isinstance") (rIsiU X.K) := call_isi.or call_isiT
theorem rc_isi {t u : Value} {c : V} (ht : Ty K x t) (hc : ClsV c u) (hk : PySem.W.kitOne K t u = some b) : Rc (rIsiU K) [x, dV c] (dB b) := fun G H us Q sm h k => by
  obtain ⟨u1, u2, e, h1, h2⟩ := Reps_two h
  subst e
  have e : u2 = c := h2
  subst e
  exact .inl ⟨u1, u2, t, u, b, rfl, hc, TyX_mono sm (ht G u1 h1), hk, k _ G H (.refl sm) rfl⟩
/-- a built-in class -/
theorem rc_isiB {t n : String} (ht : Ty K x (.type t)) (hk : kitB t n = some b) : Rc (rIsiU K) [x, dV (.ty n)] (dB b) := rc_isi ht (.ty n) (kit_ty hk)
end
end HM
/-! Fractions: what the program's reckoning comes to, in Rat. -/
namespace HM
open PySem L2
theorem gcd_pos_of {t b : Int} (h : 0 < b) : 0 < (Nat.gcd t.natAbs b.natAbs : Nat) := Nat.gcd_pos_of_pos_right _ (by omega)
theorem frac_num {t b : Int} (h : 0 < b) : t / ((Nat.gcd t.natAbs b.natAbs : Nat) : Int) = (Rat.divInt t b).num := by
  rw [Rat.num_divInt, Int.sign_eq_one_of_pos h, Int.one_mul]
  show t / _ = t / ((Nat.gcd b.natAbs t.natAbs : Nat) : Int)
  rw [Nat.gcd_comm]
theorem frac_den {t b : Int} (h : 0 < b) : b / ((Nat.gcd t.natAbs b.natAbs : Nat) : Int) = ((Rat.divInt t b).den : Int) := by
  rw [Rat.den_divInt, if_neg (by omega)]
  show b / _ = ((b.natAbs / Nat.gcd b.natAbs t.natAbs : Nat) : Int)
  rw [Nat.gcd_comm, Int.natCast_ediv]
  congr 1
  omega
theorem frac_neg (t b : Int) : Rat.divInt (-t) (-b) = Rat.divInt t b := Rat.neg_divInt_neg t b
/-- sizes -/
def Sz (n : Nat) (r : Rat) : Prop := r.num.natAbs < 2 ^ n ∧ r.den < 2 ^ n
theorem Sz.mono {n m : Nat} {r : Rat} (h : Sz n r) (l : n ≤ m) : Sz m r := ⟨Nat.lt_of_lt_of_le h.1 (Nat.pow_le_pow_right (by decide) l), Nat.lt_of_lt_of_le h.2 (Nat.pow_le_pow_right (by decide) l)⟩
theorem num_le {t b : Int} : (Rat.divInt t b).num.natAbs ≤ t.natAbs := by
  rw [Rat.num_divInt]
  refine Nat.le_trans (Int.natAbs_ediv_le_natAbs _ _) ?_
  rw [Int.natAbs_mul]
  have : b.sign.natAbs ≤ 1 := by
    rcases Int.lt_trichotomy b 0 with h | h | h
    · rw [Int.sign_eq_neg_one_of_neg h]; decide
    · subst h; decide
    · rw [Int.sign_eq_one_of_pos h]; decide
  calc b.sign.natAbs * t.natAbs ≤ 1 * t.natAbs := Nat.mul_le_mul_right _ this
    _ = t.natAbs := Nat.one_mul _
theorem den_le {t b : Int} (h : b ≠ 0) : (Rat.divInt t b).den ≤ b.natAbs := by
  rw [Rat.den_divInt, if_neg h]
  exact Nat.div_le_self _ _
theorem Sz.div {n : Nat} {t b : Int} (h : b ≠ 0) (h1 : t.natAbs < 2 ^ n) (h2 : b.natAbs < 2 ^ n) : Sz n (Rat.divInt t b) := ⟨Nat.lt_of_le_of_lt num_le h1, Nat.lt_of_le_of_lt (den_le h) h2⟩
theorem den_pos' (r : Rat) : (0 : Int) < (r.den : Int) := by have := r.den_pos; omega
theorem den_ne (r : Rat) : (r.den : Int) ≠ 0 := by have := r.den_pos; omega
theorem self_div (r : Rat) : Rat.divInt r.num (r.den : Int) = r := Rat.num_divInt_den r
theorem add_div (r s : Rat) : Rat.divInt (r.num * (s.den : Int) + s.num * (r.den : Int)) ((r.den : Int) * (s.den : Int)) = r + s := by
  rw [← Rat.divInt_add_divInt _ _ (den_ne r) (den_ne s), self_div, self_div]
theorem sub_div (r s : Rat) : Rat.divInt (r.num * (s.den : Int) - s.num * (r.den : Int)) ((r.den : Int) * (s.den : Int)) = r - s := by
  rw [← Rat.divInt_sub_divInt _ _ (den_ne r) (den_ne s), self_div, self_div]
theorem mul_div (r s : Rat) : Rat.divInt (r.num * s.num) ((r.den : Int) * (s.den : Int)) = r * s := by
  rw [← Rat.divInt_mul_divInt, self_div, self_div]
theorem quo_div (r s : Rat) : Rat.divInt (r.num * (s.den : Int)) ((r.den : Int) * s.num) = r / s := by
  rw [← Rat.divInt_mul_divInt, self_div, ← Rat.inv_divInt, self_div, Rat.div_def]
theorem lt_div (r s : Rat) : (r.num * (s.den : Int) < s.num * (r.den : Int)) ↔ r < s := (Rat.lt_iff r s).symm
theorem pow_mul_lt {a b n m : Nat} (h1 : a < 2 ^ n) (h2 : b < 2 ^ m) : a * b < 2 ^ (n + m) := by
  rw [Nat.pow_add]; exact Nat.mul_lt_mul'' h1 h2
theorem add_lt_pow {a b n : Nat} (h1 : a < 2 ^ n) (h2 : b < 2 ^ n) : a + b < 2 ^ (n + 1) := by rw [Nat.pow_succ]; omega
theorem Sz.mulnn {n m : Nat} {r s : Rat} (h1 : Sz n r) (h2 : Sz m s) : (r.num * s.num).natAbs < 2 ^ (n + m) := by rw [Int.natAbs_mul]; exact pow_mul_lt h1.1 h2.1
theorem Sz.muldd {n m : Nat} {r s : Rat} (h1 : Sz n r) (h2 : Sz m s) : ((r.den : Int) * (s.den : Int)).natAbs < 2 ^ (n + m) := by rw [Int.natAbs_mul]; exact pow_mul_lt (by simpa using h1.2) (by simpa using h2.2)
theorem Sz.mulnd {n m : Nat} {r s : Rat} (h1 : Sz n r) (h2 : Sz m s) : (r.num * (s.den : Int)).natAbs < 2 ^ (n + m) := by rw [Int.natAbs_mul]; exact pow_mul_lt h1.1 (by simpa using h2.2)
theorem Sz.muldn {n m : Nat} {r s : Rat} (h1 : Sz n r) (h2 : Sz m s) : ((r.den : Int) * s.num).natAbs < 2 ^ (n + m) := by rw [Int.natAbs_mul]; exact pow_mul_lt (by simpa using h1.2) h2.1
theorem Sz.add {n m : Nat} {r s : Rat} (h1 : Sz n r) (h2 : Sz m s) : Sz (n + m + 1) (r + s) := by
  rw [← add_div]
  refine Sz.div (Int.mul_ne_zero (den_ne r) (den_ne s)) ?_ (Nat.lt_of_lt_of_le (h1.muldd h2) (Nat.pow_le_pow_right (by decide) (Nat.le_succ _)))
  refine Nat.lt_of_le_of_lt (Int.natAbs_add_le _ _) (add_lt_pow (h1.mulnd h2) ?_)
  have := h2.mulnd h1
  rwa [Nat.add_comm m n] at this
theorem Sz.sub {n m : Nat} {r s : Rat} (h1 : Sz n r) (h2 : Sz m s) : Sz (n + m + 1) (r - s) := by
  rw [← sub_div]
  refine Sz.div (Int.mul_ne_zero (den_ne r) (den_ne s)) ?_ (Nat.lt_of_lt_of_le (h1.muldd h2) (Nat.pow_le_pow_right (by decide) (Nat.le_succ _)))
  refine Nat.lt_of_le_of_lt (Int.natAbs_sub_le _ _) (add_lt_pow (h1.mulnd h2) ?_)
  have := h2.mulnd h1
  rwa [Nat.add_comm m n] at this
theorem Sz.mul {n m : Nat} {r s : Rat} (h1 : Sz n r) (h2 : Sz m s) : Sz (n + m) (r * s) := by
  rw [← mul_div]
  exact Sz.div (Int.mul_ne_zero (den_ne r) (den_ne s)) (h1.mulnn h2) (h1.muldd h2)
theorem Sz.quo {n m : Nat} {r s : Rat} (h1 : Sz n r) (h2 : Sz m s) : Sz (n + m) (r / s) := by
  by_cases z : s = 0
  · subst z
    have : r / 0 = 0 := by rw [Rat.div_def, Rat.inv_zero, Rat.mul_zero]
    rw [this]
    exact ⟨Nat.two_pow_pos _, Nat.one_lt_two_pow (by
      have := h2.2
      intro q
      have : m = 0 := by omega
      subst this
      have := h2.2
      simp at this)⟩
  · rw [← quo_div]
    exact Sz.div (Int.mul_ne_zero (den_ne r) fun q => z (Rat.num_eq_zero.mp q)) (h1.mulnd h2) (h1.muldn h2)
theorem log2_le_of {a n : Nat} (h : a < 2 ^ n) : a.log2 ≤ n := by
  by_cases z : a = 0
  · subst z; exact Nat.zero_le _
  · exact Nat.le_of_lt ((Nat.log2_lt z).mpr h)
theorem mulW {i j : Int} {n m : Nat} (h1 : i.natAbs < 2 ^ n) (h2 : j.natAbs < 2 ^ m) (h : n + m < 1000000) : CMulW i j := by
  have a := log2_le_of h1
  have b := log2_le_of h2
  show _ + _ < 1000000
  omega
theorem divW {i j : Int} {n : Nat} (h0 : 0 < j) (h1 : j.natAbs < 2 ^ n) (h : n < 9000) : CDivW i j := ⟨h0, Nat.lt_of_le_of_lt (log2_le_of h1) h⟩
theorem Sz.mW0 {n m : Nat} {r s : Rat} (h1 : Sz n r) (h2 : Sz m s) (h : n + m < 1000000) : CMulW r.num s.num := mulW h1.1 h2.1 h
theorem Sz.dn {n : Nat} {r : Rat} (h : Sz n r) : ((r.den : Int)).natAbs < 2 ^ n := by simpa using h.2
theorem Sz.mW1 {n m : Nat} {r s : Rat} (h1 : Sz n r) (h2 : Sz m s) (h : n + m < 1000000) : CMulW r.num (s.den : Int) := mulW h1.1 h2.dn h
theorem Sz.mW2 {n m : Nat} {r s : Rat} (h1 : Sz n r) (h2 : Sz m s) (h : n + m < 1000000) : CMulW (r.den : Int) s.num := mulW h1.dn h2.1 h
theorem Sz.mW3 {n m : Nat} {r s : Rat} (h1 : Sz n r) (h2 : Sz m s) (h : n + m < 1000000) : CMulW (r.den : Int) (s.den : Int) := mulW h1.dn h2.dn h
theorem div_cross {t b : Int} (hb : b ≠ 0) : (Rat.divInt t b).num * b = t * ((Rat.divInt t b).den : Int) := by
  have h := self_div (Rat.divInt t b)
  exact (Rat.divInt_eq_divInt_iff (den_ne _) hb).mp h
theorem num_ne {r : Rat} (h : r ≠ 0) : r.num ≠ 0 := fun q => h (Rat.num_eq_zero.mp q)
end HM
/-! Calls of the text's defs, subscripts, slices, comprehensions, errors. -/
namespace HM
open PySem L2
/-- a def as the top has left it -/
structure Df (K : PySem.W.Frag) (mg : Str → Option Value) (x : Str) (st : Stmt) (ps : List Str) (f : Addr) (fd : FuncData) : Prop where
  F : Fun K x x st f fd
  g : mg x = some (.ref f)
  b : Binds K fd ps []
section
variable {X : Cx} {CX : CXT} {k : Nat} {x : Str} {st : Stmt} {ps : List Str} {f : Addr} {fd : FuncData} {sp : Sp} {E : XK} {a b e : Expr} {es : List Expr} {t : TA} {ta tb : TE} {p pos : Pos}
theorem pe_cl (D : Df X.K X.mg x st ps f fd) (G : FnOk X.prog X.w X.K X.mg X.base CX k f fd ps sp) (hr : Room k X.A) (hx : Passes CX X E) (ha : PA X (e :: es) t) (hg : Gl X x := by rfl) (hdb : (x == ("__debug__" : Str)) = false := by decide)
    (he : starEach (e :: es) X.env = (false, eval e X.env) :: starEach es X.env := by rfl) (hpl : (backTo pos (starEach es X.env)).any (·.1) = false := by rfl) : PE X (.Call (.Name x p) (e :: es) [] pos) (tCall sp [] E t) :=
  pe_call G hr hg D.g D.F.kp D.b .nil hx ha (hdb := hdb) (he := he) (hpl := hpl)
theorem pe_clS {E : St → XK} (D : Df X.K X.mg x st ps f fd) (G : FnOk X.prog X.w X.K X.mg X.base CX k f fd ps sp) (hr : Room k X.A) (hx : ∀ σ, PassesAt CX X σ (E σ)) (ha : PA X (e :: es) t) (hg : Gl X x := by rfl) (hdb : (x == ("__debug__" : Str)) = false := by decide)
    (he : starEach (e :: es) X.env = (false, eval e X.env) :: starEach es X.env := by rfl) (hpl : (backTo pos (starEach es X.env)).any (·.1) = false := by rfl) : PE X (.Call (.Name x p) (e :: es) [] pos) (tCallS sp E t) :=
  pe_callS G hr hg D.g D.F.kp D.b hx ha (hdb := hdb) (he := he) (hpl := hpl)
/-- an item of a list, a tuple, a text; of a dict -/
def tSubU (K : PySem.W.Frag) (ta tb : TE) : TE := tAlt (tOp (rIx K) ta tb) (tDGet ta tb)
theorem pe_sub (hu : X.A.units + 1 < cLine) (ha : PE X a ta) (hb : PE X b tb) (h1 : PlainIx b := by exact fun _ _ => rfl) : PE X (.Subscript a b pos) (tSubU X.K ta tb) :=
  pe_alt (pe_ix ix_seq ha hb h1) (pe_dget hu ha hb h1)
/-- the wish of a def that lets out what its callees raise -/
theorem passT (hs : X.stack = X.env :: X.outer) (hf : X.env.frame = some X.env.locals) (hex : X.ex = []) {E₁ : Value → Shared → Prop}
    (hx : X.xe = fun e s' => wpAny (model X.prog X.w) X.A (PySem.leaving X.env e) (fun _ s'' => L2.CX X.prog X.w X.outer X.H_0 X.s_0 E e s'') E₁ s') : Passes (L2.CX X.prog X.w) X E :=
  passes_call (takes_of hs hf hex hx) fun _ _ _ _ h => h
end
theorem passL {X : Cx} : Passes (L2.CX X.prog X.w) X (fun _ _ _ => False) := passes_call takes0 fun _ _ _ _ h => h
section
variable {E : XS} {δ : DEnv} {P : Post} {te ta tb tl : TE} {t u : TS} {d x y z : Dn} {i : Nat} {v : V} {K : PySem.W.Frag} {tt : TT}
theorem ev_sub (ha : Ev E ta δ (.ok x)) (hb : Ev E tb δ (.ok y)) (hr : Rv (rIx K) x y z) : Ev E (tSubU K ta tb) δ (.ok z) := ev_alt1 (ev_op ha hb hr)
theorem ev_str {s : Str} (l : List Nat) (h : s = cS l) : Ev E (tC (.str s)) δ (.ok (dC l)) := h ▸ ev_c
/-- an item of an own list -/
theorem ev_subO {ds : List Dn} {n : Int} (j : Nat) (m : Nat) (hj : δ[j]? = some (some (.ow (oL ds)))) (hi : Ev E tb δ (.ok (dI n))) (hn : n = (m : Int)) (hd : ds[m]? = some d) : Ev E (tSubU K (tVar j) tb) δ (.ok d) :=
  ev_alt1 (ev_ixO j m hj hi hn hd fun _ _ _ _ h => .inl h)
theorem ev_lenO {ds : List Dn} (j : Nat) (hj : δ[j]? = some (some (.ow (oL ds)))) : Ev E (tCB (rLenU K) (tCons (tVar j) tNil)) δ (.ok (dI (ds.length : Int))) := fun G0 H0 G σ H Q R q => by
  obtain ⟨a, o, e1, e2, ⟨vs, e, r⟩, e4, e5⟩ := R.ow j _ hj
  subst e
  refine ⟨_, e1, .inl ⟨a, vs, rfl, .inl (.of e2), q (.int (vs.length : Int)) G H (.refl R.sub) ?_⟩⟩
  show V.int _ = V.int _
  rw [r.len]
/-! ### comprehensions -/
theorem Rep.wipe {G0 H0 G H : Hp} {σ : St} (R : Rep G0 H0 G δ σ H) (i : Nat) : Rep G0 H0 G (δ.set i none) (σ.set i none) H := by
  have ne : ∀ (j : Nat) s, (δ.set i none)[j]? = some (some s) → i ≠ j := fun j s h q => by
    subst q
    by_cases l : i < δ.length
    · rw [List.getElem?_set_self l] at h; cases h
    · rw [List.getElem?_eq_none (by rw [List.length_set]; omega)] at h; cases h
  refine ⟨R.gr, by rw [List.length_set, List.length_set]; exact R.len, fun j d h => ?_, fun j c h => ?_, fun j k c c' a h1 h2 h3 h4 => ?_⟩
  · have q := ne j _ h
    rw [List.getElem?_set_ne q] at h ⊢
    exact R.im j d h
  · have q := ne j _ h
    rw [List.getElem?_set_ne q] at h ⊢
    exact R.ow j c h
  · have q1 := ne j _ h1
    have q2 := ne k _ h2
    rw [List.getElem?_set_ne q1] at h1 h3
    rw [List.getElem?_set_ne q2] at h2 h4
    exact R.dj j k c c' a h1 h2 h3 h4
theorem wipe_again (σ : St) (i : Nat) (v : V) : wipe ((wipe σ [i]).set i (some v)) [i] = wipe σ [i] := by
  show ((σ.set i none).set i (some v)).set i none = σ.set i none
  rw [List.set_set, List.set_set]
/-- what stands while a comprehension's list at D is made -/
structure LcOk (G1 H1 : Hp) (D : Addr) (es : List Dn) (H : Hp) : Prop where
  ex : ∃ G' vs, Gr G1 H1 G' H ∧ G' D = none ∧ H D = some (.lst vs) ∧ Reps G' es vs
theorem lc_turn {G0 H0 G1 H1 H : Hp} {σ : St} {D : Addr} {es : List Dn} {g : Dn} {v : V} {b : Bool} {Nx : Hp → Prop} (R1 : Rep G0 H0 G1 δ σ H1) (hD : H1 D = none) (L : LcOk G1 H1 D es H) (pv : g.p G1 v) (hl : es.length < 100000)
    (ht : Et E tt ((δ.set i none).set i (some (.im g))) b) (he : b = true → Ev E te ((δ.set i none).set i (some (.im g))) (.ok d)) (k1 : b = true → ∀ H', LcOk G1 H1 D (es ++ [d]) H' → Nx H') (k0 : b = false → ∀ H', LcOk G1 H1 D es H' → Nx H') :
    gName i v (wipe σ [i]) H fun σ2 H2 => wipe σ2 [i] = wipe σ [i] ∧ tt σ2 H2 fun b H3 => if b = true then te σ2 H3 fun y H4 => ∃ acc, H4 D = some (.lst acc) ∧ acc.length < sizeLine ∧ Nx (upd H4 D (.lst (acc ++ [y]))) else Nx H3 := by
  obtain ⟨G2, vs, g2, d2, hd2, r2⟩ := L.ex
  have R2 : Rep G0 H0 G2 ((δ.set i none).set i (some (.im g))) ((wipe σ [i]).set i (some v)) H := ((R1.go g2).wipe i).set (g.mono (.of g2.le) pv) i
  refine ⟨wipe_again σ i v, ht G0 H0 G2 _ H _ R2 fun G3 H3 g3 => ?_⟩
  have d3 : G3 D = none := by
    cases q : G3 D with
    | none => rfl
    | some u =>
      have z := g3.new D d2 (by rw [q]; exact fun z => nomatch z)
      rw [hd2] at z; cases z
  have h3 := g3.ext D _ hd2
  cases b with
  | true =>
    refine iteT (he rfl G0 H0 G3 _ H3 _ (R2.go g3) fun w G4 H4 g4 p4 => ?_)
    have d4 : G4 D = none := by
      cases q : G4 D with
      | none => rfl
      | some u =>
        have z := g4.new D d3 (by rw [q]; exact fun z => nomatch z)
        rw [h3] at z; cases z
    have h4 := g4.ext D _ h3
    refine ⟨vs, h4, by rw [r2.len]; exact Nat.lt_of_lt_of_le hl (by decide), k1 rfl _ ⟨G4, _, ?_, d4, upd_same, (r2.mono (.of (g3.le.trans g4.le))).app ⟨p4, True.intro⟩⟩⟩
    have g := g2.trans (g3.trans g4)
    exact ⟨g.le, fun a u e => by rw [upd_ne (ne_of_none e d4)]; exact g.sub a u e, fun a u e => by rw [upd_ne (ne_of_none e hD)]; exact g.ext a u e, g.new⟩
  | false => exact iteF (k0 rfl _ ⟨G3, vs, g2.trans g3, d3, h3, r2.mono (.of g3.le)⟩)
theorem filter_take {α : Type} {xs : List α} {n : Nat} {x : α} (b : α → Bool) (h : xs[n]? = some x) : (xs.take (n + 1)).filter b = (xs.take n).filter b ++ (if b x = true then [x] else []) := by
  have e : xs.take (n + 1) = xs.take n ++ [x] := by
    rw [List.take_add_one, h]; rfl
  rw [e, List.filter_append]
  congr 1
  simp only [List.filter_cons, List.filter_nil]
theorem eo_lcL {α : Type} (xs : List α) (g : α → Dn) (b : α → Bool) (e : α → Dn) (h : Ev E tl δ (.ok (dL K (xs.map g)))) (hl : xs.length ≤ 10000) (ht : ∀ x, x ∈ xs → Et E tt ((δ.set i none).set i (some (.im (g x)))) (b x))
    (he : ∀ x, x ∈ xs → b x = true → Ev E te ((δ.set i none).set i (some (.im (g x)))) (.ok (e x))) : Ev E (tLc (iList K tl) (gName i) tt te [i]) δ (.own (oL ((xs.filter b).map e))) := fun G0 H0 G σ H Q R q => by
  refine h G0 H0 G σ H _ R fun v G1 H1 g1 ⟨a, vs, ev, sq, rp⟩ => ?_
  subst ev
  refine ⟨a, rfl, ⟨vs, (Le.of g1.sub).lst sq⟩, fun D hD => ?_⟩
  have R1 := R.go g1
  have g1D : G1 D = none := g1.sub.free hD
  refine lc_list (K := K) (a := a) (xs := vs) (fun n H' => LcOk G1 H1 D (((xs.take n).filter b).map e) H') ?_ ?_ ?_ ?_
  · exact ⟨G1, [], .skip g1.sub hD, g1D, upd_same, True.intro⟩
  · rintro n H' _ ⟨G2, us, g2, _⟩
    exact ((Le.of g2.le).trans (.of g2.sub)).lst sq
  · rintro n x H' ex L
    obtain ⟨dx, edx, pdx⟩ := rp.getV ex
    rw [List.getElem?_map] at edx
    obtain ⟨y, ey, rfl⟩ := Option.map_eq_some_iff.mp edx
    have my : y ∈ xs := List.mem_of_getElem? ey
    have ft := filter_take b ey
    refine lc_turn (d := e y) R1 hD L pdx ?_ (ht y my) (he y my) ?_ ?_
    · rw [List.length_map]
      refine Nat.lt_of_le_of_lt (List.length_filter_le _ _) ?_
      rw [List.length_take]
      omega
    · intro hb H'' L'
      rw [ft, if_pos hb, List.map_append]
      exact L'
    · intro hb H'' L'
      rw [ft, if_neg (by rw [hb]; decide), List.append_nil]
      exact L'
  · rintro H' L
    rw [rp.len, List.length_map, List.take_length] at L
    obtain ⟨G2, us, g2, d2, hd2, r2⟩ := L.ex
    exact q D _ G2 H' (g1.trans g2) (g1.ext.free hD) d2 hd2 ⟨us, rfl, r2⟩
theorem eo_lcR {ta : TA} {n : Int} (b : Nat → Bool) (e : Nat → Dn) (h : Ea E ta δ [dI n]) (hn : 0 ≤ n ∧ n ≤ 10000) (ht : ∀ k : Nat, (k : Int) < n → Et E tt ((δ.set i none).set i (some (.im (dI (k : Int))))) (b k))
    (he : ∀ k : Nat, (k : Int) < n → b k = true → Ev E te ((δ.set i none).set i (some (.im (dI (k : Int))))) (.ok (e k))) : Ev E (tLc (iRng1 ta) (gName i) tt te [i]) δ (.own (oL (((List.range n.toNat).filter b).map e))) := fun G0 H0 G σ H Q R q => by
  refine h G0 H0 G σ H _ R fun vs G1 H1 g1 rp => ?_
  have e' := Reps.mapVeq V.int (xs := [n]) rp
  subst e'
  have bb : (2 : Int) ^ 62 = 4611686018427387904 := by decide
  refine ⟨n, rfl, by rw [bb]; omega, by rw [bb]; omega, fun D hD => ?_⟩
  have R1 := R.go g1
  have g1D : G1 D = none := g1.sub.free hD
  refine lc_range (lo := 0) (n := n.toNat) (fun k H' => LcOk G1 H1 D (((List.range k).filter b).map e) H') ?_ ?_ ?_
  · exact ⟨G1, [], .skip g1.sub hD, g1D, upd_same, True.intro⟩
  · rintro k H' hk L
    have ft : (List.range (k + 1)).filter b = (List.range k).filter b ++ (if b k = true then [k] else []) := by
      rw [List.range_succ, List.filter_append]
      congr 1
      simp only [List.filter_cons, List.filter_nil]
    refine lc_turn (d := e k) (g := dI (k : Int)) R1 hD L (by rw [Int.zero_add]; rfl) ?_ (ht k (by omega)) (he k (by omega)) ?_ ?_
    · rw [List.length_map]
      refine Nat.lt_of_le_of_lt (List.length_filter_le _ _) ?_
      rw [List.length_range]
      omega
    · intro hb H'' L'
      rw [ft, if_pos hb, List.map_append]
      exact L'
    · intro hb H'' L'
      rw [ft, if_neg (by rw [hb]; decide), List.append_nil]
      exact L'
  · rintro H' L
    obtain ⟨G2, us, g2, d2, hd2, r2⟩ := L.ex
    exact q D _ G2 H' (g1.trans g2) (g1.ext.free hD) d2 hd2 ⟨us, rfl, r2⟩
theorem et_yes : Et E tYes δ true := fun G0 H0 G σ H Q R q => q G H (.refl R.sub)
/-! ### errors -/
/-- try: tb except c as n: ts (slot i) -/
def tTryA (K : PySem.W.Frag) (c : Value) (i : Nat) (ts : Addr → Value → Option Addr → TS) (Wout : WX) (tb : WX → TS) : TS := fun D σ H => tb (wAs K c i ts Wout D) D σ H
def tTryN (K : PySem.W.Frag) (c : Value) (ts : Addr → Value → Option Addr → TS) (Wout : WX) (tb : WX → TS) : TS := fun D σ H => tb (wOnly K c ts Wout D) D σ H
theorem sx_try_ok {c : Value} {ts : Addr → Value → Option Addr → TS} {Wout : WX} {tb : WX → TS} (h : ∀ W, Sx (WE W) (tb W) δ { P with ex := fun _ _ => False }) : Sx E (tTryA K c i ts Wout tb) δ P := fun G0 H0 G σ H D R hd =>
  h _ G0 H0 G σ H D R ⟨hd.nx, hd.rt, hd.bk, hd.ct, fun _ _ _ _ _ z => z.elim⟩
theorem sx_try_ex {c : Value} {c' : Addr} {ts : Addr → Value → Option Addr → TS} {Wout : WX} {tb : WX → TS} (h : ∀ W, Sx (WE W) (tb W) δ { nx := fun _ => False, rt := .im dF, ex := fun x δ' => x = c' ∧ δ' = δ }) (hm : PySem.W.exmOne K (.ref c') c = some true)
    (hs : ∀ a, Sx E (ts a (.ref c') none) (δ.set i (some (.im (dV (.ref a))))) { P with nx := fun δ' => P.nx (δ'.set i none), bk := fun δ' => P.bk (δ'.set i none), ct := fun δ' => P.ct (δ'.set i none), ex := fun _ _ => False }) :
    Sx E (tTryA K c i ts Wout tb) δ P := fun G0 H0 G σ H D R hd =>
  h _ G0 H0 G σ H D R ⟨fun _ _ _ _ z => z.elim, fun _ _ _ _ z => z.elim, fun _ _ _ _ z => z.elim, fun _ _ _ _ z => z.elim, fun x δ' G' σ' H' z R' l => by
    obtain ⟨rfl, rfl⟩ := z
    refine ⟨true, hm, fun _ a na => ?_, fun q => nomatch q⟩
    refine hs a G0 H0 G' _ H' _ (R'.set (d := dV (.ref a)) rfl i) ⟨?_, hd.rt, ?_, ?_, ?_⟩
    · intro δ2 G2 σ2 H2 p R2 l2
      exact hd.nx _ G2 _ H2 p (R2.wipe i) (l.trans l2)
    · intro δ2 G2 σ2 H2 p R2 l2
      exact hd.bk _ G2 _ H2 p (R2.wipe i) (l.trans l2)
    · intro δ2 G2 σ2 H2 p R2 l2
      exact hd.ct _ G2 _ H2 p (R2.wipe i) (l.trans l2)
    · intro _ _ _ _ _ z
      exact z.elim⟩
/-- try .. except X: without a name -/
theorem sx_tryN_ok {c : Value} {ts : Addr → Value → Option Addr → TS} {Wout : WX} {tb : WX → TS} (h : ∀ W, Sx (WE W) (tb W) δ { P with ex := fun _ _ => False }) : Sx E (tTryN K c ts Wout tb) δ P := fun G0 H0 G σ H D R hd =>
  h _ G0 H0 G σ H D R ⟨hd.nx, hd.rt, hd.bk, hd.ct, fun _ _ _ _ _ z => z.elim⟩
theorem sx_tryN_ex {c : Value} {c' : Addr} {ts : Addr → Value → Option Addr → TS} {Wout : WX} {tb : WX → TS} (h : ∀ W, Sx (WE W) (tb W) δ { nx := fun _ => False, rt := .im dF, ex := fun x δ' => x = c' ∧ δ' = δ }) (hm : PySem.W.exmOne K (.ref c') c = some true)
    (hs : ∀ a, Sx E (ts a (.ref c') none) δ { P with ex := fun _ _ => False }) : Sx E (tTryN K c ts Wout tb) δ P := fun G0 H0 G σ H D R hd =>
  h _ G0 H0 G σ H D R ⟨fun _ _ _ _ z => z.elim, fun _ _ _ _ z => z.elim, fun _ _ _ _ z => z.elim, fun _ _ _ _ z => z.elim, fun x δ' G' σ' H' z R' l => by
    obtain ⟨rfl, rfl⟩ := z
    refine ⟨true, hm, fun _ a na => ?_, fun q => nomatch q⟩
    refine hs a G0 H0 G' _ H' _ R' ⟨?_, hd.rt, ?_, ?_, ?_⟩
    · intro δ2 G2 σ2 H2 p R2 l2
      exact hd.nx _ G2 _ H2 p R2 (l.trans l2)
    · intro δ2 G2 σ2 H2 p R2 l2
      exact hd.bk _ G2 _ H2 p R2 (l.trans l2)
    · intro δ2 G2 σ2 H2 p R2 l2
      exact hd.ct _ G2 _ H2 p R2 (l.trans l2)
    · intro _ _ _ _ _ z
      exact z.elim⟩
end
/-- an own error class over ValueError (without own __init__) -/
structure XcOk (K : PySem.W.Frag) (mg : Str → Option Value) (x : Str) (C : Addr) : Prop where
  q : PySem.W.excIn K C [.type "ValueError", .type "Exception", .type "BaseException", .type "object"] "ValueError.__new__" = true
  g : mg x = some (.ref C)
  k : PySem.W.keepIn K (.ref C) = true
  b : PySem.W.subIn K (.ref C) (.type "BaseException") = some true
  t : PySem.W.typeIn K (.ref C) = some (.type "type")
  s : PySem.W.subIn K (.ref C) (.ref C) = some true
  e : ExcC K C
theorem pmk {X : Cx} {x m : Str} {C : Addr} {j : Nat} {p p2 pos : Pos} (T : XcOk X.K X.mg x C) (hg : Gl X x := by rfl) (hdb : (x == ("__debug__" : Str)) = false := by decide) :
    PMk X (.Call (.Name x p) [.Constant (.str m) j p2] [] pos) (fun _ H Q => Q (.ref C) none H) := pmk_own PySem.F.excBase_ValueError T.q T.g T.k (raises_own T.b T.t) hg hdb
section
variable {K : PySem.W.Frag} {mg : Str → Option Value} {x y : Str} {C D : Addr} {b : Bool}
theorem exm (T : XcOk K mg x C) (h : PySem.W.subIn K (.ref D) (.ref C) = some b) : PySem.W.exmOne K (.ref D) (.ref C) = some b := PySem.W.exm_ref T.b T.e.hd T.t h
theorem kit_c (T : XcOk K mg x C) (h : PySem.W.subIn K (.ref D) (.ref C) = some b) (hs : PySem.W.subIn K (.ref D) (.ref D) = some true) : PySem.W.kitOne K (.ref D) (.ref C) = some b := by
  unfold PySem.W.kitOne
  split
  · rename_i e
    have e : D = C := by simpa using e
    subst e
    rw [hs] at h
    exact h
  · unfold PySem.W.kitCls
    have hi : (PySem.W.clsIn K C).isSome = true := by
      obtain ⟨cd, hc, _⟩ := PySem.W.any_some T.e.hd
      rw [hc]; rfl
    have h2 : ((PySem.W.clsIn K C).isSome && PySem.W.typeIn K (.ref C) == some (.type "type")) = true := by
      rw [hi, T.t] <;> rfl
    simp only [h2, if_true]
    exact h
theorem kit_v {n : String} (h : PySem.W.subIn K (.ref D) (.type n) = some b) (hk : PySem.W.kitMeta n = true) : PySem.W.kitOne K (.ref D) (.type n) = some b := by
  unfold PySem.W.kitOne
  rw [if_neg (by simp)]
  unfold PySem.W.kitCls
  simp only [hk, if_true]
  exact h
end
section
variable {X : Cx} {Wout : WX} {tb : WX → TS} {i : Nat} {n x : Str} {c : Value} {body suite : List Stmt} {b₀ : Stmt} {np pos pos' : Pos} {ts : Addr → Value → Option Addr → TS}
theorem ps_tryA (hs : X.stack = X.env :: X.outer) (hf : X.env.frame = some X.env.locals) (hN : X.N.Nodup) (hi : X.N[i]? = some n) (hln : X.env.kindOf n = some .local) (hc : Names X x c) (tk : Takes X Wout)
    (hb : ∀ (W : WX) (pn : List (Addr × Obj)) (xe : Value → Shared → Prop), Takes (X.tr pn xe) W → PassesOwn (model X.prog X.w) X.A X.env xe → PSs (X.tr pn xe) body (tb W))
    (hsu : ∀ (a : Addr) (oe : Obj) (cls : Value) (d : Option Addr) (pn : List (Addr × Obj)), Zc cls d oe → (∃ vs, oe.data = .fields vs) → PSs (X.suite a ((a, oe) :: pn)) (b₀ :: suite) (ts a cls d)) :
    PS X (.Try body [.ExceptHandler (some (.Name x np)) (some n) (b₀ :: suite) pos'] [] [] pos) (tTryA X.K c i ts Wout tb) := ps_try_as hs hf hN hi hln hc tk hb hsu
theorem ps_tryN (hs : X.stack = X.env :: X.outer) (hf : X.env.frame = some X.env.locals) (hc : Names X x c) (tk : Takes X Wout)
    (hb : ∀ (W : WX) (pn : List (Addr × Obj)) (xe : Value → Shared → Prop), Takes (X.tr pn xe) W → PassesOwn (model X.prog X.w) X.A X.env xe → PSs (X.tr pn xe) body (tb W))
    (hsu : ∀ (a : Addr) (oe : Obj) (cls : Value) (d : Option Addr) (pn : List (Addr × Obj)), Zc cls d oe → (∃ vs, oe.data = .fields vs) → PSs (X.suite a ((a, oe) :: pn)) (b₀ :: suite) (ts a cls d)) :
    PS X (.Try body [.ExceptHandler (some (.Name x np)) none (b₀ :: suite) pos'] [] [] pos) (tTryN X.K c ts Wout tb) := ps_try_only hs hf hc tk hb hsu
end
/-- what law(script) is worth -/
def SLaw (K : PySem.W.Frag) : Sem' := fun ds r => ∃ ns : List Int, ns.length ≤ 63 ∧ ds = [dL K (ns.map fun i => dI i)] ∧ r = .ok (dB true)
theorem law_sp {K : PySem.W.Frag} {H : Hp} {a : Addr} {ns : List Int} (hl : ns.length ≤ 63) (hS : SqL K H a (ns.map V.int)) : spD (SLaw K) [.ref a] H (fun v _ => v = .bl true) fun _ _ _ => False :=
  ⟨H, _, _, ⟨ns, hl, rfl, rfl⟩, ⟨⟨a, _, rfl, hS, Reps.mapV V.int ns⟩, True.intro⟩, .refl H, fun v G' H' g p => p⟩
/-- a tuple that was just laid -/
def dTX (ds : List Dn) : Dn := ⟨fun G v => ∃ a vs, v = .ref a ∧ G a = some (.tup vs) ∧ Reps G ds vs, fun h ⟨a, vs, e, t, r⟩ => ⟨a, vs, e, h.get t (fun _ z => nomatch z) (fun _ _ z => nomatch z), r.mono h⟩⟩
theorem ev_tupX {E : XS} {δ : DEnv} {ta : TA} {ds : List Dn} (h : Ea E ta δ ds) (hl : ds.length ≤ 1000) : Ev E (tTup ta) δ (.ok (dTX ds)) := fun G0 H0 G σ H Q R q =>
  h G0 H0 G σ H _ R fun vs G1 H1 g1 p1 => ⟨Nat.le_of_lt (small1000 (by rw [p1.len]; exact hl)), fun p hp =>
    q (.ref p) _ _ (g1.trans (.add (o := .tup vs) g1.sub hp)) ⟨p, vs, rfl, upd_same, p1.mono (.of (Same.new (g1.sub.free hp) _))⟩⟩
/-- isinstance(e, c), isinstance(e, (c1, c2)), e the error that the suite holds -/
def rIsEU (K : PySem.W.Frag) (a : Addr) (cls : Value) (d : Option Addr) : List V → Hp → VK → Prop := fun xs H Q => ∃ D, cls = .ref D ∧ d = none ∧ ExcC K D ∧
  (rIsE K D a xs H Q ∨ ∃ (tp : Addr) (cs : List V) (us : List Value) (b : Bool), xs = [.ref a, .ref tp] ∧ H tp = some (.tup cs) ∧ Paired ClsV cs us ∧ PySem.W.kitAny K (.ref D) us = some b ∧ Q (.bl b) H)
theorem call_isEU {X : Cx} {a : Addr} {cls : Value} {d : Option Addr} {oe : Obj} {pn : List (Addr × Obj)} (hz : Zc cls d oe) (hf : ∃ vs, oe.data = .fields vs) : CallR (X.suite a ((a, oe) :: pn)) (.builtin "isinstance") (rIsEU X.K a cls d) := by
  intro pins s σ H xs us Q I r h
  obtain ⟨D, rfl, rfl, C, h⟩ := h
  rcases h with h | ⟨tp, cs, ws, b, rfl, hT, k, e, q⟩
  · exact call_isE C hz hf pins s σ H xs us Q I r h
  · obtain ⟨u1, u2, rfl, r1, r2⟩ := vals2 r
    cases (show u1 = Value.ref a from r1)
    cases (show u2 = Value.ref tp from r2)
    obtain ⟨hget, _⟩ := I.pin (a, oe) (List.mem_append.mpr (.inl List.mem_cons_self))
    obtain ⟨vs, hv⟩ := hf
    have J : PySem.W.InstAt s.heap a oe D none := by
      obtain ⟨oc, od, oda, osl⟩ := oe
      obtain ⟨h1, h2⟩ := hz
      dsimp only at h1 h2 hv
      subst h1 h2 hv
      exact ⟨hget, rfl, rfl, trivial⟩
    obtain ⟨_, its, rv, o, h1, h2, n, h3⟩ := (show ObjOk X.prog X.w H s.heap tp (.tup cs) from I.hok tp _ hT)
    have e3 := ClsV.all k rv
    subst e3
    obtain ⟨oc, od, dt, sl⟩ := o
    simp only at h2 h3
    subst h2 h3
    exact PySem.W.kia_tup (PySem.W.handS_kitx_exc C.hg C.hk C.hs C.hd C.ha C.hn C.ht C.hm) I.kIn J h1 e (fun z => nomatch z) fun tk => ⟨.bl b, H, I.tok tk, rfl, q⟩
section
variable {K : PySem.W.Frag} {a D : Addr} {b : Bool}
theorem rc_isE {c : V} {u : Value} (C : ExcC K D) (hc : ClsV c u) (hk : PySem.W.kitOne K (.ref D) u = some b) : Rc (rIsEU K a (.ref D) none) [dV (.ref a), dV c] (dB b) := fun G H us Q sm h k => by
  obtain ⟨u1, u2, e, h1, h2⟩ := Reps_two h
  have h1 : u1 = .ref a := h1
  have h2 : u2 = c := h2
  rw [h1, h2] at e
  subst e
  exact ⟨D, rfl, rfl, C, .inl ⟨c, u, b, rfl, fun _ r => hc.eq r, hk, k _ G H (.refl sm) rfl⟩⟩
theorem rc_isE2 {c1 c2 : V} {u1 u2 : Value} (C : ExcC K D) (hc1 : ClsV c1 u1) (hc2 : ClsV c2 u2) (hk1 : PySem.W.kitOne K (.ref D) u1 = some false) (hk2 : PySem.W.kitOne K (.ref D) u2 = some b) :
    Rc (rIsEU K a (.ref D) none) [dV (.ref a), dTX [dV c1, dV c2]] (dB b) := fun G H us Q sm h k => by
  obtain ⟨w1, w2, e, h1, h2⟩ := Reps_two h
  have h1 : w1 = .ref a := h1
  subst h1
  obtain ⟨tp, vs, e2, t, r⟩ := h2
  obtain ⟨v1, v2, e3, h3, h4⟩ := Reps_two r
  have h3 : v1 = c1 := h3
  have h4 : v2 = c2 := h4
  subst h3 h4 e3 e2 e
  refine ⟨D, rfl, rfl, C, .inr ⟨tp, _, [u1, u2], b, rfl, sm _ _ t, .cons hc1 (.cons hc2 .nil), ?_, k _ G H (.refl sm) rfl⟩⟩
  exact kitAny_cons hk1 (fun _ => kitAny_cons hk2 (fun z => by rw [z]; exact kitAny_nil) fun z => z) fun z => nomatch z
end
end HM
namespace HM
open PySem L2
/-! ### the top of the text -/
def top (i : Nat) : Stmt := PySem.Challenge.pw_hangmobile_k01_fractions.main.body.getD i (.Pass ⟨0, 0, 0, 0⟩)
abbrev s_divisor : Stmt := top 6
abbrev n_divisor : List Str := ["one", "other", "rest"]
theorem sc_divisor : FnScope n_divisor ["one", "other"] (defScope s_divisor) := ⟨rfl, rfl, rfl, by decide +kernel, rfl, by decide +kernel, by decide +kernel⟩
abbrev s_fraction : Stmt := top 7
abbrev n_fraction : List Str := ["top", "bottom", "by"]
theorem sc_fraction : FnScope n_fraction ["top", "bottom"] (defScope s_fraction) := ⟨rfl, rfl, rfl, by decide +kernel, rfl, by decide +kernel, by decide +kernel⟩
abbrev s_plus : Stmt := top 8
abbrev n_plus : List Str := ["one", "other"]
theorem sc_plus : FnScope n_plus ["one", "other"] (defScope s_plus) := ⟨rfl, rfl, rfl, by decide +kernel, rfl, by decide +kernel, by decide +kernel⟩
abbrev s_minus : Stmt := top 9
abbrev n_minus : List Str := ["one", "other"]
theorem sc_minus : FnScope n_minus ["one", "other"] (defScope s_minus) := ⟨rfl, rfl, rfl, by decide +kernel, rfl, by decide +kernel, by decide +kernel⟩
abbrev s_times : Stmt := top 10
abbrev n_times : List Str := ["one", "other"]
theorem sc_times : FnScope n_times ["one", "other"] (defScope s_times) := ⟨rfl, rfl, rfl, by decide +kernel, rfl, by decide +kernel, by decide +kernel⟩
abbrev s_over : Stmt := top 11
abbrev n_over : List Str := ["one", "other"]
theorem sc_over : FnScope n_over ["one", "other"] (defScope s_over) := ⟨rfl, rfl, rfl, by decide +kernel, rfl, by decide +kernel, by decide +kernel⟩
abbrev s_under : Stmt := top 12
abbrev n_under : List Str := ["one", "other"]
theorem sc_under : FnScope n_under ["one", "other"] (defScope s_under) := ⟨rfl, rfl, rfl, by decide +kernel, rfl, by decide +kernel, by decide +kernel⟩
abbrev s__law_cell_at : Stmt := top 14
abbrev n__law_cell_at : List Str := ["_law_script", "_law_k"]
theorem sc__law_cell_at : FnScope n__law_cell_at ["_law_script", "_law_k"] (defScope s__law_cell_at) := ⟨rfl, rfl, rfl, by decide +kernel, rfl, by decide +kernel, by decide +kernel⟩
abbrev s__law_whole : Stmt := top 15
abbrev n__law_whole : List Str := ["_law_found"]
theorem sc__law_whole : FnScope n__law_whole ["_law_found"] (defScope s__law_whole) := ⟨rfl, rfl, rfl, by decide +kernel, rfl, by decide +kernel, by decide +kernel⟩
abbrev s__law_divisor : Stmt := top 16
abbrev n__law_divisor : List Str := ["_law_one", "_law_other", "_law_rest"]
theorem sc__law_divisor : FnScope n__law_divisor ["_law_one", "_law_other"] (defScope s__law_divisor) := ⟨rfl, rfl, rfl, by decide +kernel, rfl, by decide +kernel, by decide +kernel⟩
abbrev s__law_tells : Stmt := top 17
abbrev n__law_tells : List Str := ["_law_found", "_law_top", "_law_bottom"]
theorem sc__law_tells : FnScope n__law_tells ["_law_found", "_law_top", "_law_bottom"] (defScope s__law_tells) := ⟨rfl, rfl, rfl, by decide +kernel, rfl, by decide +kernel, by decide +kernel⟩
abbrev s__law_number : Stmt := top 18
abbrev n__law_number : List Str := ["_law_cell"]
theorem sc__law_number : FnScope n__law_number ["_law_cell"] (defScope s__law_number) := ⟨rfl, rfl, rfl, by decide +kernel, rfl, by decide +kernel, by decide +kernel⟩
abbrev s__law_lowest : Stmt := top 19
abbrev n__law_lowest : List Str := ["_law_top", "_law_bottom", "_law_by"]
theorem sc__law_lowest : FnScope n__law_lowest ["_law_top", "_law_bottom"] (defScope s__law_lowest) := ⟨rfl, rfl, rfl, by decide +kernel, rfl, by decide +kernel, by decide +kernel⟩
abbrev s__law_no_fraction : Stmt := top 20
abbrev n__law_no_fraction : List Str := ["_law_top", "_law_refused", "error"]
theorem sc__law_no_fraction : FnScope n__law_no_fraction ["_law_top"] (defScope s__law_no_fraction) := ⟨rfl, rfl, rfl, by decide +kernel, rfl, by decide +kernel, by decide +kernel⟩
abbrev s__law_no_quotient : Stmt := top 21
abbrev n__law_no_quotient : List Str := ["_law_one", "_law_refused", "error"]
theorem sc__law_no_quotient : FnScope n__law_no_quotient ["_law_one"] (defScope s__law_no_quotient) := ⟨rfl, rfl, rfl, by decide +kernel, rfl, by decide +kernel, by decide +kernel⟩
abbrev s_law : Stmt := top 22
abbrev n_law : List Str := ["_law_script", "_law_numbers", "_law_k", "_law_one", "_law_other", "_law_both", "_law_found"]
theorem sc_law : FnScope n_law ["_law_script"] (defScope s_law) := ⟨rfl, rfl, rfl, by decide +kernel, rfl, by decide +kernel, by decide +kernel⟩
/-- what the top has left -/
structure Top (K : PySem.W.Frag) (mg : Str → Option Value) where
  f_divisor : Addr
  fd_divisor : FuncData
  d_divisor : Df K mg "divisor" s_divisor ["one", "other"] f_divisor fd_divisor
  f_fraction : Addr
  fd_fraction : FuncData
  d_fraction : Df K mg "fraction" s_fraction ["top", "bottom"] f_fraction fd_fraction
  f_plus : Addr
  fd_plus : FuncData
  d_plus : Df K mg "plus" s_plus ["one", "other"] f_plus fd_plus
  f_minus : Addr
  fd_minus : FuncData
  d_minus : Df K mg "minus" s_minus ["one", "other"] f_minus fd_minus
  f_times : Addr
  fd_times : FuncData
  d_times : Df K mg "times" s_times ["one", "other"] f_times fd_times
  f_over : Addr
  fd_over : FuncData
  d_over : Df K mg "over" s_over ["one", "other"] f_over fd_over
  f_under : Addr
  fd_under : FuncData
  d_under : Df K mg "under" s_under ["one", "other"] f_under fd_under
  f__law_cell_at : Addr
  fd__law_cell_at : FuncData
  d__law_cell_at : Df K mg "_law_cell_at" s__law_cell_at ["_law_script", "_law_k"] f__law_cell_at fd__law_cell_at
  f__law_whole : Addr
  fd__law_whole : FuncData
  d__law_whole : Df K mg "_law_whole" s__law_whole ["_law_found"] f__law_whole fd__law_whole
  f__law_divisor : Addr
  fd__law_divisor : FuncData
  d__law_divisor : Df K mg "_law_divisor" s__law_divisor ["_law_one", "_law_other"] f__law_divisor fd__law_divisor
  f__law_tells : Addr
  fd__law_tells : FuncData
  d__law_tells : Df K mg "_law_tells" s__law_tells ["_law_found", "_law_top", "_law_bottom"] f__law_tells fd__law_tells
  f__law_number : Addr
  fd__law_number : FuncData
  d__law_number : Df K mg "_law_number" s__law_number ["_law_cell"] f__law_number fd__law_number
  f__law_lowest : Addr
  fd__law_lowest : FuncData
  d__law_lowest : Df K mg "_law_lowest" s__law_lowest ["_law_top", "_law_bottom"] f__law_lowest fd__law_lowest
  f__law_no_fraction : Addr
  fd__law_no_fraction : FuncData
  d__law_no_fraction : Df K mg "_law_no_fraction" s__law_no_fraction ["_law_top"] f__law_no_fraction fd__law_no_fraction
  f__law_no_quotient : Addr
  fd__law_no_quotient : FuncData
  d__law_no_quotient : Df K mg "_law_no_quotient" s__law_no_quotient ["_law_one"] f__law_no_quotient fd__law_no_quotient
  f_law : Addr
  fd_law : FuncData
  d_law : Df K mg "law" s_law ["_law_script"] f_law fd_law
  c_MobileError : Addr
  c_NoNumber : Addr
  c_NoPlace : Addr
  c_NoText : Addr
  x_MobileError : XcOk K mg "MobileError" c_MobileError
  x_NoNumber : XcOk K mg "NoNumber" c_NoNumber
  x_NoPlace : XcOk K mg "NoPlace" c_NoPlace
  x_NoText : XcOk K mg "NoText" c_NoText
  u_MobileError_MobileError : PySem.W.subIn K (.ref c_MobileError) (.ref c_MobileError) = some true
  u_MobileError_NoNumber : PySem.W.subIn K (.ref c_MobileError) (.ref c_NoNumber) = some false
  u_MobileError_NoPlace : PySem.W.subIn K (.ref c_MobileError) (.ref c_NoPlace) = some false
  u_MobileError_NoText : PySem.W.subIn K (.ref c_MobileError) (.ref c_NoText) = some false
  u_NoNumber_MobileError : PySem.W.subIn K (.ref c_NoNumber) (.ref c_MobileError) = some true
  u_NoNumber_NoNumber : PySem.W.subIn K (.ref c_NoNumber) (.ref c_NoNumber) = some true
  u_NoNumber_NoPlace : PySem.W.subIn K (.ref c_NoNumber) (.ref c_NoPlace) = some false
  u_NoNumber_NoText : PySem.W.subIn K (.ref c_NoNumber) (.ref c_NoText) = some false
  u_NoPlace_MobileError : PySem.W.subIn K (.ref c_NoPlace) (.ref c_MobileError) = some true
  u_NoPlace_NoNumber : PySem.W.subIn K (.ref c_NoPlace) (.ref c_NoNumber) = some false
  u_NoPlace_NoPlace : PySem.W.subIn K (.ref c_NoPlace) (.ref c_NoPlace) = some true
  u_NoPlace_NoText : PySem.W.subIn K (.ref c_NoPlace) (.ref c_NoText) = some false
  u_NoText_MobileError : PySem.W.subIn K (.ref c_NoText) (.ref c_MobileError) = some true
  u_NoText_NoNumber : PySem.W.subIn K (.ref c_NoText) (.ref c_NoNumber) = some false
  u_NoText_NoPlace : PySem.W.subIn K (.ref c_NoText) (.ref c_NoPlace) = some false
  u_NoText_NoText : PySem.W.subIn K (.ref c_NoText) (.ref c_NoText) = some true
  v_MobileError : PySem.W.subIn K (.ref c_MobileError) (.type "ValueError") = some true
  v_NoNumber : PySem.W.subIn K (.ref c_NoNumber) (.type "ValueError") = some true
  v_NoPlace : PySem.W.subIn K (.ref c_NoPlace) (.type "ValueError") = some true
  v_NoText : PySem.W.subIn K (.ref c_NoText) (.type "ValueError") = some true
  z_isinstance : mg "isinstance" = none
  z_len : mg "len" = none
  z_abs : mg "abs" = none
  z_int : mg "int" = none
  z_range : mg "range" = none
  z_tuple : mg "tuple" = none
  z_bool : mg "bool" = none
  z_ValueError : mg "ValueError" = none
local macro_rules | `(tactic| walk_at "hm_add") => `(tactic| first | exact rv_add | (exact rv_addS (by assumption)))
local macro_rules | `(tactic| walk_at "hm_eq") => `(tactic| first | exact rv_eqI | exact rv_eqS | exact rv_eqB | exact rv_eqR)
local macro_rules | `(tactic| walk_at "hm_ne") => `(tactic| first | exact rv_neI | exact rv_neS | exact rv_neB | exact rv_neR)
local macro_rules | `(tactic| walk_at "hm_ix") => `(tactic| first | exact rv_R0 | exact rv_R1 | exact rv_ixT 0 rfl rfl | exact rv_ixT 1 rfl rfl | exact rv_ixT 2 rfl rfl | exact rv_ixL 0 rfl rfl | exact rv_ixL 1 rfl rfl)
local macro_rules | `(tactic| walk_at "hm_isi") => `(tactic| first | exact rc_isiB ty_I (by decide +kernel) | exact rc_isiB ty_B (by decide +kernel) | exact rc_isiB ty_R (by decide +kernel) | exact rc_isiB ty_T (by decide +kernel) | exact rc_isiB ty_L (by decide +kernel) | exact rc_isiB ty_S (by decide +kernel))
local macro_rules | `(tactic| walk_at "hm_len") => `(tactic| first | exact rc_lenR | exact rc_lenT | exact rc_lenL)
/-! ### fractions -/
def SDiv : Sem' := fun ds r => ∃ a b : Nat, ds = [dI (a : Int), dI (b : Int)] ∧ r = .ok (dI ((Nat.gcd a b : Nat) : Int))
/-- one turn of the greatest divisor's loop -/
theorem gcd_turn {x y : Nat} : Nat.gcd y (x % y) = Nat.gcd x y := by rw [Nat.gcd_comm x y, Nat.gcd_rec y x, Nat.gcd_comm]
theorem rd_div {E : XS} {P : Post} {a b : Nat} {s : Option Sl} {t : TS} (h : ∀ s, Sx E t [some (.im (dI ((Nat.gcd a b : Nat) : Int))), some (.im (dI 0)), s] P) :
    Sx E (tSeq (tWhile (tTest (tOp (rI0 fun i j => .bl (decide (j < i))) (tVar 1) (tC (.int 0)))) (tSeq (tAsg (tOp rModU (tVar 0) (tVar 1)) (gName 2)) (tSeq (tAsg (tVar 1) (gName 0)) (tAsg (tVar 2) (gName 1))))) t)
      [some (.im (dI (a : Int))), some (.im (dI (b : Int))), s] P := by
  refine sx_seq (sx_while (fun m δ => ∃ x y : Nat, ∃ s, m = y ∧ Nat.gcd x y = Nat.gcd a b ∧ δ = [some (.im (dI (x : Int))), some (.im (dI (y : Int))), s]) ⟨b, a, b, s, rfl, rfl, rfl⟩ ?_)
  rintro m δ ⟨x, y, s, rfl, hg, rfl⟩
  refine ⟨_, et_test (ev_op (ev_var 1) ev_c rv_gt), fun hb => ?_, fun hb => ?_⟩
  · have hp : 0 < m := by have := of_decide_eq_true hb; omega
    refine sx_seq (sx_asg (ev_op (ev_var 0) (ev_var 1) (rv_mod (by omega))) ?_)
    refine sx_seq (sx_asg (ev_var 1) ?_)
    refine sx_asg (ev_var 2) ?_
    have e : (x : Int) % (m : Int) = ((x % m : Nat) : Int) := (Int.natCast_emod x m).symm
    exact ⟨x % m, Nat.mod_lt _ hp, m, x % m, _, rfl, gcd_turn.trans hg, by rw [e]; rfl⟩
  · have hz : m = 0 := by have := of_decide_eq_false hb; omega
    subst hz
    have e : x = Nat.gcd a b := by rw [← hg, Nat.gcd_zero_right]
    rw [e]
    exact h s
theorem ok_divisor {P : Program} {w : World} {K : PySem.W.Frag} {mg : Str → Option Value} {base : Heap} (T : Top K mg) : FnOk P w K mg base CX0 1 T.f_divisor T.fd_divisor ["one", "other"] (spD SDiv) := by
  refine fn0 T.d_divisor.F sc_divisor (fun ds r h => by obtain ⟨a, b, rfl, rfl⟩ := h; rfl) fun cdv A outer s H E ds r hr h => ?_
  obtain ⟨a, b, rfl, rfl⟩ := h
  have hu := hu_of hr
  have hu64 := hr.units
  refine ⟨_, pss_cons (ps_while PassesOwn.never (pt_cmpR op_gt (pv 1) pe_int (nomark _)) (pss_cons (ps_set (i := 2) sc_divisor.nd rfl (Or.inl rfl) (pe_op op_mod (pv 0) (pv 1)))
      (pss_cons (ps_set (i := 0) sc_divisor.nd rfl (Or.inl rfl) (pv 1))
      (pss_one (ps_set (i := 1) sc_divisor.nd rfl (Or.inl rfl) (pv 2))))))
      (pss_one (ps_ret (pv 0))), ?_⟩
  exact rd_div fun s => sx_ret (ev_var 0) rfl
def SFrac (K : PySem.W.Frag) (c : Addr) : Sem' := fun ds r => ∃ t b : Int, ds = [dI t, dI b] ∧ ((b = 0 ∧ r = .ex c) ∨ (b ≠ 0 ∧ b.natAbs < 2 ^ 8900 ∧ r = .ok (dR K (Rat.divInt t b))))
theorem nat_abs_of {b : Int} (h : 0 < b) : ((b.natAbs : Nat) : Int) = b := by omega
theorem ev_frac {E : XS} {δ : DEnv} {K : PySem.W.Frag} {t b : Int} {ta : TA} (hb : 0 < b) (h : Ea E ta δ [dI (t / ((Nat.gcd t.natAbs b.natAbs : Nat) : Int)), dI (b / ((Nat.gcd t.natAbs b.natAbs : Nat) : Int))]) : Ev E (tTup ta) δ (.ok (dR K (Rat.divInt t b))) := by
  rw [frac_num hb, frac_den hb] at h
  exact ev_tupR h
theorem gcd_divW {i t b : Int} (hb : 0 < b) (h : b.natAbs < 2 ^ 8900) : CDivW i ((Nat.gcd t.natAbs b.natAbs : Nat) : Int) := by
  have h1 : Nat.gcd t.natAbs b.natAbs ≤ b.natAbs := Nat.gcd_le_right _ (by omega)
  have h2 := gcd_pos_of (t := t) hb
  exact divW (by omega) (n := 8900) (by rw [Int.natAbs_natCast]; exact Nat.lt_of_le_of_lt h1 h) (by decide)
theorem ok_fraction {P : Program} {w : World} {K : PySem.W.Frag} {mg : Str → Option Value} {base : Heap} (T : Top K mg) : FnOk P w K mg base (L2.CX P w) 2 T.f_fraction T.fd_fraction ["top", "bottom"] (spD (SFrac K T.c_NoNumber)) := by
  refine fnX T.d_fraction.F sc_fraction (fun ds r h => by obtain ⟨t, b, rfl, h⟩ := h; rfl) fun cdv A outer s H E ds r hr h => ?_
  obtain ⟨t, b, rfl, h⟩ := h
  have hu := hu_of hr
  have hu64 := hr.units
  refine ⟨_, pss_cons (ps_if (pt_cmpR (op_eqU hu64) (pv 1) pe_int (nomark _)) (pss_one (ps_raise rfl (takes_of rfl rfl rfl rfl) (pmk T.x_NoNumber rfl))) pss_nil)
      (pss_cons (ps_if (pt_cmpR op_lt (pv 1) pe_int (nomark _)) (pss_cons (ps_set (i := 0) sc_fraction.nd rfl (Or.inl rfl) (pe_un un_neg (pv 0)))
      (pss_one (ps_set (i := 1) sc_fraction.nd rfl (Or.inl rfl) (pe_un un_neg (pv 1))))) pss_nil)
      (pss_cons (ps_set (i := 2) sc_fraction.nd rfl (Or.inl rfl) (pe_cl T.d_divisor (ok_divisor T) (hr.mono (by decide)) pass0 (pa_cons (pe_callB call_abs rfl T.z_abs (by decide +kernel) (pa_cons (pv 0) pa_nil)) (pa_cons (pv 1) pa_nil))))
      (pss_one (ps_ret (pe_tup (pa_cons (pe_op op_fdivW (pv 0) (pv 2)) (pa_cons (pe_op op_fdivW (pv 1) (pv 2)) pa_nil))))))), ?_⟩
  rcases h with ⟨rfl, rfl⟩ | ⟨hb, hs, rfl⟩
  · refine sx_seq (sx_yes (et_test (ev_op (ev_var 1) ev_c (by walk_at "hm_eq"))) (sx_raiseE rfl))
  refine sx_seq (sx_no (et_is (et_test (ev_op (ev_var 1) ev_c (by walk_at "hm_eq"))) (decide_eq_false hb)) (sx_nil ?_))
  refine sx_seq (sx_if (et_test (ev_op (ev_var 1) ev_c rv_lt)) (fun h => ?_) (fun h => ?_))
  · have hn : b < 0 := of_decide_eq_true h
    refine sx_seq (sx_asg (ev_un (ev_var 0) ru_neg) ?_)
    refine sx_asg (ev_un (ev_var 1) ru_neg) ?_
    have hp : 0 < -b := by omega
    have ea : (-b).natAbs = b.natAbs := by omega
    refine sx_seq (sx_asg (ev_call (ea_cons (ev_cb (ea_cons (ev_var 0) ea_nil) rc_abs) (ea_cons (ev_var 1) ea_nil)) ⟨(-t).natAbs, (-b).natAbs, by rw [nat_abs_of hp], rfl⟩) ?_)
    rw [← frac_neg]
    exact sx_ret (ev_frac hp (ea_cons (ev_op (ev_var 0) (ev_var 2) (rv_div (gcd_divW hp (ea ▸ hs)))) (ea_cons (ev_op (ev_var 1) (ev_var 2) (rv_div (gcd_divW hp (ea ▸ hs)))) ea_nil))) rfl
  · have hp : 0 < b := by have := of_decide_eq_false h; omega
    refine sx_nil ?_
    refine sx_seq (sx_asg (ev_call (ea_cons (ev_cb (ea_cons (ev_var 0) ea_nil) rc_abs) (ea_cons (ev_var 1) ea_nil)) ⟨t.natAbs, b.natAbs, by rw [nat_abs_of hp], rfl⟩) ?_)
    exact sx_ret (ev_frac hp (ea_cons (ev_op (ev_var 0) (ev_var 2) (rv_div (gcd_divW hp hs))) (ea_cons (ev_op (ev_var 1) (ev_var 2) (rv_div (gcd_divW hp hs))) ea_nil))) rfl
theorem two_pow_le' {a n m : Nat} (h : a < 2 ^ n) (l : n ≤ m) : a < 2 ^ m := Nat.lt_of_lt_of_le h (Nat.pow_le_pow_right (by decide) l)
def SPlus (K : PySem.W.Frag) : Sem' := fun ds r => ∃ a b : Rat, Sz 4000 a ∧ Sz 4000 b ∧ ds = [dR K a, dR K b] ∧ r = .ok (dR K (a + b))
def SMinus (K : PySem.W.Frag) : Sem' := fun ds r => ∃ a b : Rat, Sz 4000 a ∧ Sz 4000 b ∧ ds = [dR K a, dR K b] ∧ r = .ok (dR K (a - b))
def STimes (K : PySem.W.Frag) : Sem' := fun ds r => ∃ a b : Rat, Sz 4000 a ∧ Sz 4000 b ∧ ds = [dR K a, dR K b] ∧ r = .ok (dR K (a * b))
def SOver (K : PySem.W.Frag) (c : Addr) : Sem' := fun ds r => ∃ a b : Rat, Sz 4000 a ∧ Sz 4000 b ∧ ds = [dR K a, dR K b] ∧ ((b = 0 ∧ r = .ex c) ∨ (b ≠ 0 ∧ r = .ok (dR K (a / b))))
def SUnder (K : PySem.W.Frag) : Sem' := fun ds r => ∃ a b : Rat, Sz 4000 a ∧ Sz 4000 b ∧ ds = [dR K a, dR K b] ∧ r = .ok (dB (decide (a < b)))
theorem ok_plus {P : Program} {w : World} {K : PySem.W.Frag} {mg : Str → Option Value} {base : Heap} (T : Top K mg) : FnOk P w K mg base (L2.CX P w) 3 T.f_plus T.fd_plus ["one", "other"] (spD (SPlus K)) := by
  refine fnX T.d_plus.F sc_plus (fun ds r h => by obtain ⟨a, b, ha, hb, rfl, rfl⟩ := h; rfl) fun cdv A outer s H E ds r hr h => ?_
  obtain ⟨a, b, ha, hb, rfl, rfl⟩ := h
  have hu := hu_of hr
  have hu64 := hr.units
  refine ⟨_, pss_one (ps_ret (pe_cl T.d_fraction (ok_fraction T) (hr.mono (by decide)) (passT rfl rfl rfl rfl) (pa_cons (pe_op op_addU (pe_op op_mulU (pe_sub hu (pv 0) pe_int (fun _ _ => rfl)) (pe_sub hu (pv 1) pe_int (fun _ _ => rfl))) (pe_op op_mulU (pe_sub hu (pv 1) pe_int (fun _ _ => rfl)) (pe_sub hu (pv 0) pe_int (fun _ _ => rfl)))) (pa_cons (pe_op op_mulU (pe_sub hu (pv 0) pe_int (fun _ _ => rfl)) (pe_sub hu (pv 1) pe_int (fun _ _ => rfl))) pa_nil)))), ?_⟩
  refine sx_ret (ev_call (ea_cons (ev_op (ev_op (ev_sub (ev_var 0) ev_c (by walk_at "hm_ix")) (ev_sub (ev_var 1) ev_c (by walk_at "hm_ix")) (rv_mul (ha.mW1 hb (by decide)))) (ev_op (ev_sub (ev_var 1) ev_c (by walk_at "hm_ix")) (ev_sub (ev_var 0) ev_c (by walk_at "hm_ix")) (rv_mul (hb.mW1 ha (by decide)))) (by walk_at "hm_add")) (ea_cons (ev_op (ev_sub (ev_var 0) ev_c (by walk_at "hm_ix")) (ev_sub (ev_var 1) ev_c (by walk_at "hm_ix")) (rv_mul (ha.mW3 hb (by decide)))) ea_nil)) ⟨_, _, rfl, .inr ⟨Int.mul_ne_zero (den_ne a) (den_ne b), two_pow_le' (ha.muldd hb) (by decide), ?_⟩⟩) rfl
  rw [add_div]
theorem ok_minus {P : Program} {w : World} {K : PySem.W.Frag} {mg : Str → Option Value} {base : Heap} (T : Top K mg) : FnOk P w K mg base (L2.CX P w) 3 T.f_minus T.fd_minus ["one", "other"] (spD (SMinus K)) := by
  refine fnX T.d_minus.F sc_minus (fun ds r h => by obtain ⟨a, b, ha, hb, rfl, rfl⟩ := h; rfl) fun cdv A outer s H E ds r hr h => ?_
  obtain ⟨a, b, ha, hb, rfl, rfl⟩ := h
  have hu := hu_of hr
  have hu64 := hr.units
  refine ⟨_, pss_one (ps_ret (pe_cl T.d_fraction (ok_fraction T) (hr.mono (by decide)) (passT rfl rfl rfl rfl) (pa_cons (pe_op op_sub (pe_op op_mulU (pe_sub hu (pv 0) pe_int (fun _ _ => rfl)) (pe_sub hu (pv 1) pe_int (fun _ _ => rfl))) (pe_op op_mulU (pe_sub hu (pv 1) pe_int (fun _ _ => rfl)) (pe_sub hu (pv 0) pe_int (fun _ _ => rfl)))) (pa_cons (pe_op op_mulU (pe_sub hu (pv 0) pe_int (fun _ _ => rfl)) (pe_sub hu (pv 1) pe_int (fun _ _ => rfl))) pa_nil)))), ?_⟩
  refine sx_ret (ev_call (ea_cons (ev_op (ev_op (ev_sub (ev_var 0) ev_c (by walk_at "hm_ix")) (ev_sub (ev_var 1) ev_c (by walk_at "hm_ix")) (rv_mul (ha.mW1 hb (by decide)))) (ev_op (ev_sub (ev_var 1) ev_c (by walk_at "hm_ix")) (ev_sub (ev_var 0) ev_c (by walk_at "hm_ix")) (rv_mul (hb.mW1 ha (by decide)))) rv_sub) (ea_cons (ev_op (ev_sub (ev_var 0) ev_c (by walk_at "hm_ix")) (ev_sub (ev_var 1) ev_c (by walk_at "hm_ix")) (rv_mul (ha.mW3 hb (by decide)))) ea_nil)) ⟨_, _, rfl, .inr ⟨Int.mul_ne_zero (den_ne a) (den_ne b), two_pow_le' (ha.muldd hb) (by decide), ?_⟩⟩) rfl
  rw [sub_div]
theorem ok_times {P : Program} {w : World} {K : PySem.W.Frag} {mg : Str → Option Value} {base : Heap} (T : Top K mg) : FnOk P w K mg base (L2.CX P w) 3 T.f_times T.fd_times ["one", "other"] (spD (STimes K)) := by
  refine fnX T.d_times.F sc_times (fun ds r h => by obtain ⟨a, b, ha, hb, rfl, rfl⟩ := h; rfl) fun cdv A outer s H E ds r hr h => ?_
  obtain ⟨a, b, ha, hb, rfl, rfl⟩ := h
  have hu := hu_of hr
  have hu64 := hr.units
  refine ⟨_, pss_one (ps_ret (pe_cl T.d_fraction (ok_fraction T) (hr.mono (by decide)) (passT rfl rfl rfl rfl) (pa_cons (pe_op op_mulU (pe_sub hu (pv 0) pe_int (fun _ _ => rfl)) (pe_sub hu (pv 1) pe_int (fun _ _ => rfl))) (pa_cons (pe_op op_mulU (pe_sub hu (pv 0) pe_int (fun _ _ => rfl)) (pe_sub hu (pv 1) pe_int (fun _ _ => rfl))) pa_nil)))), ?_⟩
  refine sx_ret (ev_call (ea_cons (ev_op (ev_sub (ev_var 0) ev_c (by walk_at "hm_ix")) (ev_sub (ev_var 1) ev_c (by walk_at "hm_ix")) (rv_mul (ha.mW0 hb (by decide)))) (ea_cons (ev_op (ev_sub (ev_var 0) ev_c (by walk_at "hm_ix")) (ev_sub (ev_var 1) ev_c (by walk_at "hm_ix")) (rv_mul (ha.mW3 hb (by decide)))) ea_nil)) ⟨_, _, rfl, .inr ⟨Int.mul_ne_zero (den_ne a) (den_ne b), two_pow_le' (ha.muldd hb) (by decide), ?_⟩⟩) rfl
  rw [mul_div]
theorem ok_over {P : Program} {w : World} {K : PySem.W.Frag} {mg : Str → Option Value} {base : Heap} (T : Top K mg) : FnOk P w K mg base (L2.CX P w) 3 T.f_over T.fd_over ["one", "other"] (spD (SOver K T.c_NoNumber)) := by
  refine fnX T.d_over.F sc_over (fun ds r h => by obtain ⟨a, b, ha, hb, rfl, h⟩ := h; rfl) fun cdv A outer s H E ds r hr h => ?_
  obtain ⟨a, b, ha, hb, rfl, h⟩ := h
  have hu := hu_of hr
  have hu64 := hr.units
  refine ⟨_, pss_one (ps_ret (pe_cl T.d_fraction (ok_fraction T) (hr.mono (by decide)) (passT rfl rfl rfl rfl) (pa_cons (pe_op op_mulU (pe_sub hu (pv 0) pe_int (fun _ _ => rfl)) (pe_sub hu (pv 1) pe_int (fun _ _ => rfl))) (pa_cons (pe_op op_mulU (pe_sub hu (pv 0) pe_int (fun _ _ => rfl)) (pe_sub hu (pv 1) pe_int (fun _ _ => rfl))) pa_nil)))), ?_⟩
  rcases h with ⟨rfl, rfl⟩ | ⟨h, rfl⟩
  · refine sx_retX (ex_call (ea_cons (ev_op (ev_sub (ev_var 0) ev_c (by walk_at "hm_ix")) (ev_sub (ev_var 1) ev_c (by walk_at "hm_ix")) (rv_mul (ha.mW1 hb (by decide)))) (ea_cons (ev_op (ev_sub (ev_var 0) ev_c (by walk_at "hm_ix")) (ev_sub (ev_var 1) ev_c (by walk_at "hm_ix")) (rv_mul (ha.mW2 hb (by decide)))) ea_nil)) ⟨_, _, rfl, .inl ⟨by simp, rfl⟩⟩) rfl
  · refine sx_ret (ev_call (ea_cons (ev_op (ev_sub (ev_var 0) ev_c (by walk_at "hm_ix")) (ev_sub (ev_var 1) ev_c (by walk_at "hm_ix")) (rv_mul (ha.mW1 hb (by decide)))) (ea_cons (ev_op (ev_sub (ev_var 0) ev_c (by walk_at "hm_ix")) (ev_sub (ev_var 1) ev_c (by walk_at "hm_ix")) (rv_mul (ha.mW2 hb (by decide)))) ea_nil)) ⟨_, _, rfl, .inr ⟨Int.mul_ne_zero (den_ne a) (num_ne h), two_pow_le' (ha.muldn hb) (by decide), ?_⟩⟩) rfl
    rw [quo_div]
theorem ok_under {P : Program} {w : World} {K : PySem.W.Frag} {mg : Str → Option Value} {base : Heap} (T : Top K mg) : FnOk P w K mg base CX0 1 T.f_under T.fd_under ["one", "other"] (spD (SUnder K)) := by
  refine fn0 T.d_under.F sc_under (fun ds r h => by obtain ⟨a, b, ha, hb, rfl, rfl⟩ := h; rfl) fun cdv A outer s H E ds r hr h => ?_
  obtain ⟨a, b, ha, hb, rfl, rfl⟩ := h
  have hu := hu_of hr
  have hu64 := hr.units
  refine ⟨_, pss_one (ps_ret (pe_cmpR op_lt (pe_op op_mulU (pe_sub hu (pv 0) pe_int (fun _ _ => rfl)) (pe_sub hu (pv 1) pe_int (fun _ _ => rfl))) (pe_op op_mulU (pe_sub hu (pv 1) pe_int (fun _ _ => rfl)) (pe_sub hu (pv 0) pe_int (fun _ _ => rfl))) (nomark _))), ?_⟩
  refine sx_ret (ev_eq (ev_op (ev_op (ev_sub (ev_var 0) ev_c (by walk_at "hm_ix")) (ev_sub (ev_var 1) ev_c (by walk_at "hm_ix")) (rv_mul (ha.mW1 hb (by decide)))) (ev_op (ev_sub (ev_var 1) ev_c (by walk_at "hm_ix")) (ev_sub (ev_var 0) ev_c (by walk_at "hm_ix")) (rv_mul (hb.mW1 ha (by decide)))) rv_lt) ?_) rfl
  congr 1; congr 1; simp only [lt_div]

/-! ### law k01 -/
theorem ok__law_divisor {P : Program} {w : World} {K : PySem.W.Frag} {mg : Str → Option Value} {base : Heap} (T : Top K mg) : FnOk P w K mg base CX0 1 T.f__law_divisor T.fd__law_divisor ["_law_one", "_law_other"] (spD SDiv) := by
  refine fn0 T.d__law_divisor.F sc__law_divisor (fun ds r h => by obtain ⟨a, b, rfl, rfl⟩ := h; rfl) fun cdv A outer s H E ds r hr h => ?_
  obtain ⟨a, b, rfl, rfl⟩ := h
  have hu := hu_of hr
  have hu64 := hr.units
  refine ⟨_, pss_cons (ps_while PassesOwn.never (pt_cmpR op_gt (pv 1) pe_int (nomark _)) (pss_cons (ps_set (i := 2) sc__law_divisor.nd rfl (Or.inl rfl) (pe_op op_mod (pv 0) (pv 1)))
      (pss_cons (ps_set (i := 0) sc__law_divisor.nd rfl (Or.inl rfl) (pv 1))
      (pss_one (ps_set (i := 1) sc__law_divisor.nd rfl (Or.inl rfl) (pv 2))))))
      (pss_one (ps_ret (pv 0))), ?_⟩
  exact rd_div fun s => sx_ret (ev_var 0) rfl
/-! ### the law's helpers -/
def cellAt (ns : List Int) (k : Nat) : Int := ns.getD k 0
def SCell (K : PySem.W.Frag) : Sem' := fun ds r => ∃ (ns : List Int) (k : Nat), ns.length ≤ 63 ∧ ds = [dL K (ns.map fun i => dI i), dI (k : Int)] ∧ r = .ok (dI (cellAt ns k))
theorem ok__law_cell_at {P : Program} {w : World} {K : PySem.W.Frag} {mg : Str → Option Value} {base : Heap} (T : Top K mg) : FnOk P w K mg base CX0 1 T.f__law_cell_at T.fd__law_cell_at ["_law_script", "_law_k"] (spD (SCell K)) := by
  refine fn0 T.d__law_cell_at.F sc__law_cell_at (fun ds r h => by obtain ⟨ns, k, hl, rfl, rfl⟩ := h; rfl) fun cdv A outer s H E ds r hr h => ?_
  obtain ⟨ns, k, hl, rfl, rfl⟩ := h
  have hu := hu_of hr
  have hu64 := hr.units
  refine ⟨_, pss_cons (ps_if (pt_cmpR op_lt (pv 1) (pe_callB call_lenU rfl T.z_len PySem.boot_len (pa_cons (pv 0) pa_nil)) (nomark _)) (pss_one (ps_ret (pe_sub hu (pv 0) (pv 1) (fun _ _ => rfl)))) pss_nil)
      (pss_one (ps_ret pe_int)), ?_⟩
  refine sx_seq (sx_if (et_test (ev_op (ev_var 1) (ev_cb (ea_cons (ev_var 0) ea_nil) (by walk_at "hm_len")) rv_lt)) (fun h => ?_) (fun h => ?_))
  · have h := of_decide_eq_true h
    rw [List.length_map] at h
    have hk : k < ns.length := by omega
    refine sx_ret (ev_sub (ev_var 0) (ev_var 1) (rv_ixL k rfl ?_)) rfl
    rw [List.getElem?_map, List.getElem?_eq_getElem hk]
    show some (dI ns[k]) = some (dI (ns.getD k 0))
    rw [List.getD_eq_getElem?_getD, List.getElem?_eq_getElem hk]
    rfl
  · have h := of_decide_eq_false h
    rw [List.length_map] at h
    refine sx_nil ?_
    have e : cellAt ns k = 0 := by
      unfold cellAt
      rw [List.getD_eq_getElem?_getD, List.getElem?_eq_none (by omega)]
      rfl
    rw [e]
    exact sx_ret ev_c rfl
def SWhole : Sem' := fun ds r => ∃ i : Int, ds = [dI i] ∧ r = .ok (dB true)
theorem ok__law_whole {P : Program} {w : World} {K : PySem.W.Frag} {mg : Str → Option Value} {base : Heap} (T : Top K mg) : FnOk P w K mg base CX0 1 T.f__law_whole T.fd__law_whole ["_law_found"] (spD SWhole) := by
  refine fn0 T.d__law_whole.F sc__law_whole (fun ds r h => by obtain ⟨i, rfl, rfl⟩ := h; rfl) fun cdv A outer s H E ds r hr h => ?_
  obtain ⟨i, rfl, rfl⟩ := h
  have hu := hu_of hr
  have hu64 := hr.units
  refine ⟨_, pss_one (ps_ret (pe_and (pe_callB call_isiU rfl T.z_isinstance (by decide +kernel) (pa_cons (pv 0) (pa_cons (pe_bltn (v := .ty "int") (u := .type "int") rfl T.z_int (by decide +kernel) rfl) pa_nil))) (pe_one (pe_not (pe_callB call_isiU rfl T.z_isinstance (by decide +kernel) (pa_cons (pv 0) (pa_cons (pe_bltn (v := .ty "bool") (u := .type "bool") rfl T.z_bool (by decide +kernel) rfl) pa_nil))))))), ?_⟩
  exact sx_ret (ev_andV (a := true) (b := !false) (ev_cb (ea_cons (ev_var 0) (ea_cons ev_c ea_nil)) (by walk_at "hm_isi")) (fun h => (ev_notV (a := false) (ev_cb (ea_cons (ev_var 0) (ea_cons ev_c ea_nil)) (by walk_at "hm_isi"))))) rfl
def SLow (K : PySem.W.Frag) : Sem' := fun ds r => ∃ t b : Int, ds = [dI t, dI b] ∧ b ≠ 0 ∧ b.natAbs < 2 ^ 8900 ∧ r = .ok (dR K (Rat.divInt t b))
theorem ok__law_lowest {P : Program} {w : World} {K : PySem.W.Frag} {mg : Str → Option Value} {base : Heap} (T : Top K mg) : FnOk P w K mg base CX0 3 T.f__law_lowest T.fd__law_lowest ["_law_top", "_law_bottom"] (spD (SLow K)) := by
  refine fn0 T.d__law_lowest.F sc__law_lowest (fun ds r h => by obtain ⟨t, b, rfl, hb, hs, rfl⟩ := h; rfl) fun cdv A outer s H E ds r hr h => ?_
  obtain ⟨t, b, rfl, hb, hs, rfl⟩ := h
  have hu := hu_of hr
  have hu64 := hr.units
  refine ⟨_, pss_cons (ps_if (pt_cmpR op_lt (pv 1) pe_int (nomark _)) (pss_cons (ps_set (i := 0) sc__law_lowest.nd rfl (Or.inl rfl) (pe_un un_neg (pv 0)))
      (pss_one (ps_set (i := 1) sc__law_lowest.nd rfl (Or.inl rfl) (pe_un un_neg (pv 1))))) pss_nil)
      (pss_cons (ps_set (i := 2) sc__law_lowest.nd rfl (Or.inl rfl) (pe_cl T.d__law_divisor (ok__law_divisor T) (hr.mono (by decide)) pass0 (pa_cons (pe_callB call_abs rfl T.z_abs (by decide +kernel) (pa_cons (pv 0) pa_nil)) (pa_cons (pv 1) pa_nil))))
      (pss_one (ps_ret (pe_tup (pa_cons (pe_op op_fdivW (pv 0) (pv 2)) (pa_cons (pe_op op_fdivW (pv 1) (pv 2)) pa_nil)))))), ?_⟩
  refine sx_seq (sx_if (et_test (ev_op (ev_var 1) ev_c rv_lt)) (fun h => ?_) (fun h => ?_))
  · have hn : b < 0 := of_decide_eq_true h
    refine sx_seq (sx_asg (ev_un (ev_var 0) ru_neg) ?_)
    refine sx_asg (ev_un (ev_var 1) ru_neg) ?_
    have hp : 0 < -b := by omega
    have ea : (-b).natAbs = b.natAbs := by omega
    refine sx_seq (sx_asg (ev_call (ea_cons (ev_cb (ea_cons (ev_var 0) ea_nil) rc_abs) (ea_cons (ev_var 1) ea_nil)) ⟨(-t).natAbs, (-b).natAbs, by rw [nat_abs_of hp], rfl⟩) ?_)
    rw [← frac_neg]
    exact sx_ret (ev_frac hp (ea_cons (ev_op (ev_var 0) (ev_var 2) (rv_div (gcd_divW hp (ea ▸ hs)))) (ea_cons (ev_op (ev_var 1) (ev_var 2) (rv_div (gcd_divW hp (ea ▸ hs)))) ea_nil))) rfl
  · have hp : 0 < b := by have := of_decide_eq_false h; omega
    refine sx_nil ?_
    refine sx_seq (sx_asg (ev_call (ea_cons (ev_cb (ea_cons (ev_var 0) ea_nil) rc_abs) (ea_cons (ev_var 1) ea_nil)) ⟨t.natAbs, b.natAbs, by rw [nat_abs_of hp], rfl⟩) ?_)
    exact sx_ret (ev_frac hp (ea_cons (ev_op (ev_var 0) (ev_var 2) (rv_div (gcd_divW hp hs))) (ea_cons (ev_op (ev_var 1) (ev_var 2) (rv_div (gcd_divW hp hs))) ea_nil))) rfl

def STells (K : PySem.W.Frag) : Sem' := fun ds r => ∃ (q : Rat) (t b : Int), Sz 4000 q ∧ t.natAbs < 2 ^ 8000 ∧ b.natAbs < 2 ^ 8000 ∧ q.num * b = t * (q.den : Int) ∧ ds = [dR K q, dI t, dI b] ∧ r = .ok (dB true)
theorem ok__law_tells {P : Program} {w : World} {K : PySem.W.Frag} {mg : Str → Option Value} {base : Heap} (T : Top K mg) : FnOk P w K mg base CX0 2 T.f__law_tells T.fd__law_tells ["_law_found", "_law_top", "_law_bottom"] (spD (STells K)) := by
  refine fn0 T.d__law_tells.F sc__law_tells (fun ds r h => by obtain ⟨q, t, b, hq, ht, hb, he, rfl, rfl⟩ := h; rfl) fun cdv A outer s H E ds r hr h => ?_
  obtain ⟨q, t, b, hq, ht, hb, he, rfl, rfl⟩ := h
  have hu := hu_of hr
  have hu64 := hr.units
  refine ⟨_, pss_cons (ps_if (PW.pt (pw_or (pt_not (pt_val (pe_callB call_isiU rfl T.z_isinstance (by decide +kernel) (pa_cons (pv 0) (pa_cons (pe_bltn (v := .ty "tuple") (u := .type "tuple") rfl T.z_tuple (by decide +kernel) rfl) pa_nil))))) (pw_or1 (pt_cmpR (op_neU hu64) (pe_callB call_lenU rfl T.z_len PySem.boot_len (pa_cons (pv 0) pa_nil)) pe_int (nomark _))))) (pss_one (ps_ret pe_bl)) pss_nil)
      (pss_cons (ps_if (PW.pt (pw_or (pt_not (pt_val (pe_cl T.d__law_whole (ok__law_whole T) (hr.mono (by decide)) pass0 (pa_cons (pe_sub hu (pv 0) pe_int (fun _ _ => rfl)) pa_nil)))) (pw_or (pt_not (pt_val (pe_cl T.d__law_whole (ok__law_whole T) (hr.mono (by decide)) pass0 (pa_cons (pe_sub hu (pv 0) pe_int (fun _ _ => rfl)) pa_nil)))) (pw_or1 (pt_cmpR op_lt (pe_sub hu (pv 0) pe_int (fun _ _ => rfl)) pe_int (nomark _)))))) (pss_one (ps_ret pe_bl)) pss_nil)
      (pss_cons (ps_if (pt_cmpR (op_neU hu64) (pe_cl T.d__law_divisor (ok__law_divisor T) (hr.mono (by decide)) pass0 (pa_cons (pe_callB call_abs rfl T.z_abs (by decide +kernel) (pa_cons (pe_sub hu (pv 0) pe_int (fun _ _ => rfl)) pa_nil)) (pa_cons (pe_sub hu (pv 0) pe_int (fun _ _ => rfl)) pa_nil))) pe_int (nomark _)) (pss_one (ps_ret pe_bl)) pss_nil)
      (pss_one (ps_ret (pe_cmpR (op_eqU hu64) (pe_op op_mulU (pe_sub hu (pv 0) pe_int (fun _ _ => rfl)) (pv 2)) (pe_op op_mulU (pv 1) (pe_sub hu (pv 0) pe_int (fun _ _ => rfl))) (nomark _)))))), ?_⟩
  refine sx_seq (sx_no (et_or (a := false) (b := false) (et_not (b := true) (et_B (ev_cb (ea_cons (ev_var 0) (ea_cons ev_c ea_nil)) (by walk_at "hm_isi")))) (fun h => (et_test (ev_op (ev_cb (ea_cons (ev_var 0) ea_nil) (by walk_at "hm_len")) ev_c (by walk_at "hm_ne"))))) (sx_nil ?_))
  have hd := q.den_pos
  refine sx_seq (sx_no (et_or (a := false) (b := false) (et_not (b := true) (et_B (ev_call (ea_cons (ev_sub (ev_var 0) ev_c (by walk_at "hm_ix")) ea_nil) ⟨_, rfl, rfl⟩))) (fun h => (et_or (a := false) (b := false) (et_not (b := true) (et_B (ev_call (ea_cons (ev_sub (ev_var 0) ev_c (by walk_at "hm_ix")) ea_nil) ⟨_, rfl, rfl⟩))) (fun h => (et_is (et_test (ev_op (ev_sub (ev_var 0) ev_c (by walk_at "hm_ix")) ev_c rv_lt)) (decide_eq_false (by omega))))))) (sx_nil ?_))
  refine sx_seq (sx_no (et_is (et_test (ev_op (ev_call (ea_cons (ev_cb (ea_cons (ev_sub (ev_var 0) ev_c (by walk_at "hm_ix")) ea_nil) rc_abs) (ea_cons (ev_sub (ev_var 0) ev_c (by walk_at "hm_ix")) ea_nil)) ⟨q.num.natAbs, q.den, rfl, rfl⟩) ev_c (by walk_at "hm_ne"))) ?_) (sx_nil ?_))
  · have := q.reduced
    have e : Nat.gcd q.num.natAbs q.den = 1 := this
    rw [e]; rfl
  refine sx_ret (ev_eq (ev_op (ev_op (ev_sub (ev_var 0) ev_c (by walk_at "hm_ix")) (ev_var 2) (rv_mul (mulW hq.1 hb (by decide)))) (ev_op (ev_var 1) (ev_sub (ev_var 0) ev_c (by walk_at "hm_ix")) (rv_mul (mulW ht hq.dn (by decide)))) (by walk_at "hm_eq")) ?_) rfl
  rw [he]; simp
def num (c : Int) : Int := if c % 5 < 2 then c / 5 % (2 * 10 ^ 60 + 1) - 10 ^ 60 else if c % 5 = 2 then c / 5 % 2001 - 1000 else c / 5 % 13 - 6
theorem num_lt (c : Int) : (num c).natAbs < 2 ^ 200 := by
  unfold num
  split
  · omega
  · split
    · omega
    · omega
def SNum : Sem' := fun ds r => ∃ c : Int, ds = [dI c] ∧ r = .ok (dI (num c))
theorem ok__law_number {P : Program} {w : World} {K : PySem.W.Frag} {mg : Str → Option Value} {base : Heap} (T : Top K mg) : FnOk P w K mg base CX0 1 T.f__law_number T.fd__law_number ["_law_cell"] (spD SNum) := by
  refine fn0 T.d__law_number.F sc__law_number (fun ds r h => by obtain ⟨c, rfl, rfl⟩ := h; rfl) fun cdv A outer s H E ds r hr h => ?_
  obtain ⟨c, rfl, rfl⟩ := h
  have hu := hu_of hr
  have hu64 := hr.units
  refine ⟨_, pss_cons (ps_if (pt_cmpR op_lt (pe_op op_mod (pv 0) pe_int) pe_int (nomark _)) (pss_one (ps_ret (pe_op op_sub (pe_op op_mod (pe_op op_fdivW (pv 0) pe_int) (pe_op op_addU (pe_op op_mulU pe_int (pe_op op_pow pe_int pe_int)) pe_int)) (pe_op op_pow pe_int pe_int)))) pss_nil)
      (pss_cons (ps_if (pt_cmpR (op_eqU hu64) (pe_op op_mod (pv 0) pe_int) pe_int (nomark _)) (pss_one (ps_ret (pe_op op_sub (pe_op op_mod (pe_op op_fdivW (pv 0) pe_int) pe_int) pe_int))) pss_nil)
      (pss_one (ps_ret (pe_op op_sub (pe_op op_mod (pe_op op_fdivW (pv 0) pe_int) pe_int) pe_int)))), ?_⟩
  refine sx_seq (sx_if (et_test (ev_op (ev_op (ev_var 0) ev_c (rv_mod (by decide))) ev_c rv_lt)) (fun h => ?_) (fun h => ?_))
  · have h := of_decide_eq_true h
    refine sx_ret (ev_eq (ev_op (ev_op (ev_op (ev_var 0) ev_c (rv_div ⟨by decide, by decide +kernel⟩)) (ev_op (ev_op ev_c (ev_op ev_c ev_c (rv_pow ⟨by decide, by decide, by decide⟩)) (rv_mulS (.inl (by decide)))) ev_c (by walk_at "hm_add")) (rv_mod (by decide))) (ev_op ev_c ev_c (rv_pow ⟨by decide, by decide, by decide⟩)) rv_sub) ?_) rfl
    unfold num
    rw [if_pos h]
    rfl
  · have h := of_decide_eq_false h
    refine sx_nil ?_
    refine sx_seq (sx_if (et_test (ev_op (ev_op (ev_var 0) ev_c (rv_mod (by decide))) ev_c (by walk_at "hm_eq"))) (fun h' => ?_) (fun h' => ?_))
    · have h' := of_decide_eq_true h'
      refine sx_ret (ev_eq (ev_op (ev_op (ev_op (ev_var 0) ev_c (rv_div ⟨by decide, by decide +kernel⟩)) ev_c (rv_mod (by decide))) ev_c rv_sub) ?_) rfl
      unfold num
      rw [if_neg h, if_pos h']
    · have h' := of_decide_eq_false h'
      refine sx_nil ?_
      refine sx_ret (ev_eq (ev_op (ev_op (ev_op (ev_var 0) ev_c (rv_div ⟨by decide, by decide +kernel⟩)) ev_c (rv_mod (by decide))) ev_c rv_sub) ?_) rfl
      unfold num
      rw [if_neg h, if_neg h']
def SNoF : Sem' := fun ds r => ∃ t : Int, ds = [dI t] ∧ r = .ok (dB true)
theorem ok__law_no_fraction {P : Program} {w : World} {K : PySem.W.Frag} {mg : Str → Option Value} {base : Heap} (T : Top K mg) : FnOk P w K mg base CX0 4 T.f__law_no_fraction T.fd__law_no_fraction ["_law_top"] (spD SNoF) := by
  refine fn0 T.d__law_no_fraction.F sc__law_no_fraction (fun ds r h => by obtain ⟨t, rfl, rfl⟩ := h; rfl) fun cdv A outer s H E ds r hr h => ?_
  obtain ⟨t, rfl, rfl⟩ := h
  have hu := hu_of hr
  have hu64 := hr.units
  refine ⟨_, pss_cons (ps_set (i := 1) sc__law_no_fraction.nd rfl (Or.inl rfl) pe_bl)
      (pss_cons (ps_tryA (i := 2) rfl rfl sc__law_no_fraction.nd rfl rfl ⟨rfl, by decide, .inl T.x_NoNumber.g⟩ takes0 (fun W pn xe tk po => (pss_one (ps_expr (pe_clS T.d_fraction (ok_fraction T) (hr.mono (by decide)) (fun σ => passAt tk σ) (pa_cons (pv 0) (pa_cons pe_int pa_nil)))))) (fun a oe cls d pn hz hf => (pss_cons (ps_set (i := 1) sc__law_no_fraction.nd rfl (Or.inl rfl) (pe_and (pe_callB (call_isEU hz hf) rfl T.z_isinstance (by decide +kernel) (pa_cons (pv 2) (pa_cons (pe_bltn (v := .ty "ValueError") (u := .type "ValueError") rfl T.z_ValueError (by decide +kernel) rfl) pa_nil))) (pe_one (pe_callB (call_isEU hz hf) rfl T.z_isinstance (by decide +kernel) (pa_cons (pv 2) (pa_cons (pe_glob (v := .ref T.c_MobileError) rfl T.x_MobileError.g rfl) pa_nil))))))
      (pss_one (ps_set (i := 1) sc__law_no_fraction.nd rfl (Or.inl rfl) (pe_and (pv 1) (pe_one (pe_not (pe_callB (call_isEU hz hf) rfl T.z_isinstance (by decide +kernel) (pa_cons (pv 2) (pa_cons (pe_tup (pa_cons (pe_glob (v := .ref T.c_NoPlace) rfl T.x_NoPlace.g rfl) (pa_cons (pe_glob (v := .ref T.c_NoText) rfl T.x_NoText.g rfl) pa_nil))) pa_nil)))))))))))
      (pss_one (ps_ret (pv 1)))), ?_⟩
  refine sx_seq (sx_asg ev_c ?_)
  refine sx_seq (sx_try_ex (c' := T.c_NoNumber) (fun W => ?_) (exm T.x_NoNumber T.u_NoNumber_NoNumber) (fun a => ?_))
  · exact sx_dropX (ex_callS (ea_cons (ev_var 0) (ea_cons ev_c ea_nil)) ⟨_, _, rfl, .inl ⟨rfl, rfl⟩⟩) ⟨rfl, rfl⟩
  refine sx_seq (sx_asg (ev_andV (ev_cb (ea_cons (ev_var 2) (ea_cons ev_c ea_nil)) (rc_isE T.x_NoNumber.e (.ty _) (kit_v T.v_NoNumber (by decide +kernel)))) (fun h => (ev_cb (ea_cons (ev_var 2) (ea_cons ev_c ea_nil)) (rc_isE T.x_NoNumber.e (.own _) (kit_c T.x_MobileError T.u_NoNumber_MobileError T.u_NoNumber_NoNumber))))) ?_)
  refine sx_asg (ev_andV (ev_var 1) (fun h => (ev_notV (ev_cb (ea_cons (ev_var 2) (ea_cons (ev_tupX (ea_cons ev_c (ea_cons ev_c ea_nil)) (show 2 ≤ 1000 by decide)) ea_nil)) (rc_isE2 T.x_NoNumber.e (.own _) (.own _) (kit_c T.x_NoPlace T.u_NoNumber_NoPlace T.u_NoNumber_NoNumber) (kit_c T.x_NoText T.u_NoNumber_NoText T.u_NoNumber_NoNumber)))))) ?_
  exact sx_ret (ev_var 1) rfl
def SNoQ (K : PySem.W.Frag) : Sem' := fun ds r => ∃ a : Rat, Sz 4000 a ∧ ds = [dR K a] ∧ r = .ok (dB true)
theorem ev_int {E : XS} {δ : DEnv} {K : PySem.W.Frag} {n : Int} {ta : TA} (h : Ea E ta δ [dI n, dI 1]) : Ev E (tTup ta) δ (.ok (dR K (n : Rat))) := by
  refine ev_tupR ?_
  rw [Rat.num_intCast, Rat.den_intCast]
  exact h
theorem sz_int {n : Int} {m : Nat} (h : n.natAbs < 2 ^ m) (hm : 0 < m) : Sz m (n : Rat) := ⟨by rw [Rat.num_intCast]; exact h, by rw [Rat.den_intCast]; exact Nat.one_lt_two_pow (by omega)⟩
theorem ok__law_no_quotient {P : Program} {w : World} {K : PySem.W.Frag} {mg : Str → Option Value} {base : Heap} (T : Top K mg) : FnOk P w K mg base CX0 5 T.f__law_no_quotient T.fd__law_no_quotient ["_law_one"] (spD (SNoQ K)) := by
  refine fn0 T.d__law_no_quotient.F sc__law_no_quotient (fun ds r h => by obtain ⟨q, hq, rfl, rfl⟩ := h; rfl) fun cdv A outer s H E ds r hr h => ?_
  obtain ⟨q, hq, rfl, rfl⟩ := h
  have hu := hu_of hr
  have hu64 := hr.units
  refine ⟨_, pss_cons (ps_set (i := 1) sc__law_no_quotient.nd rfl (Or.inl rfl) pe_bl)
      (pss_cons (ps_tryA (i := 2) rfl rfl sc__law_no_quotient.nd rfl rfl ⟨rfl, by decide, .inl T.x_MobileError.g⟩ takes0 (fun W pn xe tk po => (pss_one (ps_expr (pe_clS T.d_over (ok_over T) (hr.mono (by decide)) (fun σ => passAt tk σ) (pa_cons (pv 0) (pa_cons (pe_tup (pa_cons pe_int (pa_cons pe_int pa_nil))) pa_nil)))))) (fun a oe cls d pn hz hf => (pss_one (ps_set (i := 1) sc__law_no_quotient.nd rfl (Or.inl rfl) (pe_callB (call_isEU hz hf) rfl T.z_isinstance (by decide +kernel) (pa_cons (pv 2) (pa_cons (pe_glob (v := .ref T.c_NoNumber) rfl T.x_NoNumber.g rfl) pa_nil)))))))
      (pss_one (ps_ret (pv 1)))), ?_⟩
  refine sx_seq (sx_asg ev_c ?_)
  refine sx_seq (sx_try_ex (c' := T.c_NoNumber) (fun W => ?_) (exm T.x_MobileError T.u_NoNumber_MobileError) (fun a => ?_))
  · exact sx_dropX (ex_callS (ea_cons (ev_var 0) (ea_cons (ev_int ((ea_cons ev_c (ea_cons ev_c ea_nil)))) ea_nil)) ⟨_, _, hq, sz_int (by decide) (by decide), rfl, .inl ⟨rfl, rfl⟩⟩) ⟨rfl, rfl⟩
  refine sx_asg (ev_cb (ea_cons (ev_var 2) (ea_cons ev_c ea_nil)) (rc_isE T.x_NoNumber.e (.own _) (kit_c T.x_NoNumber T.u_NoNumber_NoNumber T.u_NoNumber_NoNumber))) ?_
  exact sx_ret (ev_var 1) rfl

theorem tells_of {K : PySem.W.Frag} {q : Rat} {t b : Int} (hb : b ≠ 0) (e : q = Rat.divInt t b) (ht : t.natAbs < 2 ^ 3000) (hb2 : b.natAbs < 2 ^ 3000) : STells K [dR K q, dI t, dI b] (.ok (dB true)) :=
  ⟨q, t, b, e ▸ (Sz.div hb ht hb2).mono (by decide), two_pow_le' ht (by decide), two_pow_le' hb2 (by decide), by rw [e]; exact div_cross hb, rfl, rfl⟩
def Four (a b c d : Int) : Prop := a.natAbs < 2 ^ 300 ∧ b.natAbs < 2 ^ 300 ∧ c.natAbs < 2 ^ 300 ∧ d.natAbs < 2 ^ 300
theorem lt_mono {a n m : Nat} (h : a < 2 ^ n) (l : n ≤ m) : a < 2 ^ m := two_pow_le' h l
theorem fac_lt (c : Int) : (c % 1000 + 1).natAbs < 2 ^ 10 := by
  have e : (2 : Nat) ^ 10 = 1024 := rfl
  rw [e]; omega
theorem mul_lt {i j : Int} {n m : Nat} (h1 : i.natAbs < 2 ^ n) (h2 : j.natAbs < 2 ^ m) : (i * j).natAbs < 2 ^ (n + m) := by rw [Int.natAbs_mul]; exact pow_mul_lt h1 h2
theorem add_lt' {i j : Int} {n : Nat} (h1 : i.natAbs < 2 ^ n) (h2 : j.natAbs < 2 ^ n) : (i + j).natAbs < 2 ^ (n + 1) := Nat.lt_of_le_of_lt (Int.natAbs_add_le _ _) (add_lt_pow h1 h2)
theorem sub_lt' {i j : Int} {n : Nat} (h1 : i.natAbs < 2 ^ n) (h2 : j.natAbs < 2 ^ n) : (i - j).natAbs < 2 ^ (n + 1) := Nat.lt_of_le_of_lt (Int.natAbs_sub_le _ _) (add_lt_pow h1 h2)
theorem ok_law {P : Program} {w : World} {K : PySem.W.Frag} {mg : Str → Option Value} {base : Heap} (T : Top K mg) : FnOk P w K mg base CX0 9 T.f_law T.fd_law ["_law_script"] (spD (SLaw K)) := by
  refine fn0 T.d_law.F sc_law (fun ds r h => by obtain ⟨ns, hl, rfl, rfl⟩ := h; rfl) fun cdv A outer s H E ds r hr h => ?_
  obtain ⟨ns, hl, rfl, rfl⟩ := h
  have hu := hu_of hr
  have hu64 := hr.units
  refine ⟨_, pss_cons (ps_setLc (i := 1) (own := [("_law_k", 2)]) (g := gName 2) (tt := tYes) rfl sc_law.nd rfl rfl (sw_true rfl rfl rfl (by decide +kernel)) (pi_range1 rfl T.z_range (pa_cons pe_int pa_nil)) (blkOk_by (own := [("_law_k", 2)]) (N := n_law) (sc := defScope s_law) (by decide +kernel)) (fun _ _ _ _ _ => pg_name (i := 2) sc_law.nd rfl (Or.inl rfl)) (fun _ _ _ _ _ => pts_nil) (fun _ _ _ _ _ => (pe_cl T.d__law_number (ok__law_number T) (hr.mono (by decide)) pass0 (pa_cons (pe_cl T.d__law_cell_at (ok__law_cell_at T) (hr.mono (by decide)) pass0 (pa_cons (pv 0) (pa_cons (pv 2) pa_nil))) pa_nil))))
      (pss_cons (ps_if (pt_cmpR (op_eqU hu64) (pe_op op_mod (pe_cl T.d__law_cell_at (ok__law_cell_at T) (hr.mono (by decide)) pass0 (pa_cons (pv 0) (pa_cons pe_int pa_nil))) pe_int) pe_int (nomark _)) (pss_cons (ps_asg (pe_op op_mulU (pe_sub hu (pv 1) pe_int (fun _ _ => rfl)) (pe_op op_addU (pe_op op_mod (pe_cl T.d__law_cell_at (ok__law_cell_at T) (hr.mono (by decide)) pass0 (pa_cons (pv 0) (pa_cons pe_int pa_nil))) pe_int) pe_int)) (pg_sub (pv 1) pe_int set_list))
      (pss_one (ps_asg (pe_op op_mulU (pe_sub hu (pv 1) pe_int (fun _ _ => rfl)) (pe_op op_addU (pe_op op_mod (pe_cl T.d__law_cell_at (ok__law_cell_at T) (hr.mono (by decide)) pass0 (pa_cons (pv 0) (pa_cons pe_int pa_nil))) pe_int) pe_int)) (pg_sub (pv 1) pe_int set_list)))) pss_nil)
      (pss_cons (ps_if (PW.pt (pw_or (pt_not (pt_val (pe_cl T.d__law_no_fraction (ok__law_no_fraction T) (hr.mono (by decide)) pass0 (pa_cons (pe_sub hu (pv 1) pe_int (fun _ _ => rfl)) pa_nil)))) (pw_or1 (pt_not (pt_val (pe_cl T.d__law_no_quotient (ok__law_no_quotient T) (hr.mono (by decide)) pass0 (pa_cons (pe_tup (pa_cons (pe_sub hu (pv 1) pe_int (fun _ _ => rfl)) (pa_cons pe_int pa_nil))) pa_nil))))))) (pss_one (ps_ret pe_bl)) pss_nil)
      (pss_cons (ps_for PassesOwn.never rfl (pi_list (pe_lst (pa_cons pe_int (pa_cons pe_int pa_nil)))) (pg_name (i := 2) sc_law.nd rfl (Or.inl rfl)) (pss_one (ps_if (pt_cmpR (op_eqU hu64) (pe_sub hu (pv 1) (pv 2) (fun _ _ => rfl)) pe_int (nomark _)) (pss_one (ps_asg pe_int (pg_sub (pv 1) (pv 2) set_list))) pss_nil)))
      (pss_cons (ps_if (pt_not (pt_val (pe_cl T.d__law_tells (ok__law_tells T) (hr.mono (by decide)) pass0 (pa_cons (pe_cl T.d_fraction (ok_fraction T) (hr.mono (by decide)) passL (pa_cons (pe_sub hu (pv 1) pe_int (fun _ _ => rfl)) (pa_cons (pe_sub hu (pv 1) pe_int (fun _ _ => rfl)) pa_nil))) (pa_cons (pe_sub hu (pv 1) pe_int (fun _ _ => rfl)) (pa_cons (pe_sub hu (pv 1) pe_int (fun _ _ => rfl)) pa_nil)))))) (pss_one (ps_ret pe_bl)) pss_nil)
      (pss_cons (ps_set (i := 3) sc_law.nd rfl (Or.inl rfl) (pe_cl T.d__law_lowest (ok__law_lowest T) (hr.mono (by decide)) pass0 (pa_cons (pe_sub hu (pv 1) pe_int (fun _ _ => rfl)) (pa_cons (pe_sub hu (pv 1) pe_int (fun _ _ => rfl)) pa_nil))))
      (pss_cons (ps_set (i := 4) sc_law.nd rfl (Or.inl rfl) (pe_cl T.d__law_lowest (ok__law_lowest T) (hr.mono (by decide)) pass0 (pa_cons (pe_sub hu (pv 1) pe_int (fun _ _ => rfl)) (pa_cons (pe_sub hu (pv 1) pe_int (fun _ _ => rfl)) pa_nil))))
      (pss_cons (ps_if (pt_cmpR (op_eqU hu64) (pe_op op_mod (pe_op op_fdivW (pe_cl T.d__law_cell_at (ok__law_cell_at T) (hr.mono (by decide)) pass0 (pa_cons (pv 0) (pa_cons pe_int pa_nil))) pe_int) pe_int) pe_int (nomark _)) (pss_one (ps_set (i := 4) sc_law.nd rfl (Or.inl rfl) (pe_tup (pa_cons (pe_op op_mulU (pe_sub hu (pv 3) pe_int (fun _ _ => rfl)) (pe_op op_sub pe_int (pe_op op_mulU pe_int (pe_op op_mod (pe_cl T.d__law_cell_at (ok__law_cell_at T) (hr.mono (by decide)) pass0 (pa_cons (pv 0) (pa_cons pe_int pa_nil))) pe_int)))) (pa_cons (pe_sub hu (pv 3) pe_int (fun _ _ => rfl)) pa_nil))))) pss_nil)
      (pss_cons (ps_set (i := 5) sc_law.nd rfl (Or.inl rfl) (pe_op op_mulU (pe_sub hu (pv 3) pe_int (fun _ _ => rfl)) (pe_sub hu (pv 4) pe_int (fun _ _ => rfl))))
      (pss_cons (ps_if (pt_not (pt_val (pe_cl T.d__law_tells (ok__law_tells T) (hr.mono (by decide)) pass0 (pa_cons (pe_cl T.d_plus (ok_plus T) (hr.mono (by decide)) passL (pa_cons (pv 3) (pa_cons (pv 4) pa_nil))) (pa_cons (pe_op op_addU (pe_op op_mulU (pe_sub hu (pv 3) pe_int (fun _ _ => rfl)) (pe_sub hu (pv 4) pe_int (fun _ _ => rfl))) (pe_op op_mulU (pe_sub hu (pv 4) pe_int (fun _ _ => rfl)) (pe_sub hu (pv 3) pe_int (fun _ _ => rfl)))) (pa_cons (pv 5) pa_nil)))))) (pss_one (ps_ret pe_bl)) pss_nil)
      (pss_cons (ps_if (pt_not (pt_val (pe_cl T.d__law_tells (ok__law_tells T) (hr.mono (by decide)) pass0 (pa_cons (pe_cl T.d_minus (ok_minus T) (hr.mono (by decide)) passL (pa_cons (pv 3) (pa_cons (pv 4) pa_nil))) (pa_cons (pe_op op_sub (pe_op op_mulU (pe_sub hu (pv 3) pe_int (fun _ _ => rfl)) (pe_sub hu (pv 4) pe_int (fun _ _ => rfl))) (pe_op op_mulU (pe_sub hu (pv 4) pe_int (fun _ _ => rfl)) (pe_sub hu (pv 3) pe_int (fun _ _ => rfl)))) (pa_cons (pv 5) pa_nil)))))) (pss_one (ps_ret pe_bl)) pss_nil)
      (pss_cons (ps_if (pt_not (pt_val (pe_cl T.d__law_tells (ok__law_tells T) (hr.mono (by decide)) pass0 (pa_cons (pe_cl T.d_times (ok_times T) (hr.mono (by decide)) passL (pa_cons (pv 3) (pa_cons (pv 4) pa_nil))) (pa_cons (pe_op op_mulU (pe_sub hu (pv 3) pe_int (fun _ _ => rfl)) (pe_sub hu (pv 4) pe_int (fun _ _ => rfl))) (pa_cons (pv 5) pa_nil)))))) (pss_one (ps_ret pe_bl)) pss_nil)
      (pss_cons (ps_if (PW.pt (pw_and (pt_cmpR (op_neU hu64) (pe_sub hu (pv 4) pe_int (fun _ _ => rfl)) pe_int (nomark _)) (pw_and1 (pt_not (pt_val (pe_cl T.d__law_tells (ok__law_tells T) (hr.mono (by decide)) pass0 (pa_cons (pe_cl T.d_over (ok_over T) (hr.mono (by decide)) passL (pa_cons (pv 3) (pa_cons (pv 4) pa_nil))) (pa_cons (pe_op op_mulU (pe_sub hu (pv 3) pe_int (fun _ _ => rfl)) (pe_sub hu (pv 4) pe_int (fun _ _ => rfl))) (pa_cons (pe_op op_mulU (pe_sub hu (pv 3) pe_int (fun _ _ => rfl)) (pe_sub hu (pv 4) pe_int (fun _ _ => rfl))) pa_nil))))))))) (pss_one (ps_ret pe_bl)) pss_nil)
      (pss_cons (ps_set (i := 6) sc_law.nd rfl (Or.inl rfl) (pe_cl T.d_under (ok_under T) (hr.mono (by decide)) pass0 (pa_cons (pv 3) (pa_cons (pv 4) pa_nil))))
      (pss_one (ps_ret (pe_and (pe_callB call_isiU rfl T.z_isinstance (by decide +kernel) (pa_cons (pv 6) (pa_cons (pe_bltn (v := .ty "bool") (u := .type "bool") rfl T.z_bool (by decide +kernel) rfl) pa_nil))) (pe_one (pe_cmpR (op_eqU hu64) (pv 6) (pe_cmpR op_lt (pe_op op_mulU (pe_sub hu (pv 3) pe_int (fun _ _ => rfl)) (pe_sub hu (pv 4) pe_int (fun _ _ => rfl))) (pe_op op_mulU (pe_sub hu (pv 4) pe_int (fun _ _ => rfl)) (pe_sub hu (pv 3) pe_int (fun _ _ => rfl))) (nomark _)) (nomark _))))))))))))))))))), ?_⟩
  have cell : ∀ k : Nat, SCell K [dL K (ns.map fun i => dI i), dI (k : Int)] (.ok (dI (cellAt ns k))) := fun k => ⟨ns, k, hl, rfl, rfl⟩
  refine sx_seq (sx_asgO (eo_lcR (fun _ => true) (fun k => dI (num (cellAt ns k))) (ea_cons ev_c ea_nil) ⟨by decide, by decide⟩ (fun k hk => et_yes) (fun k hk hb => (ev_call (ea_cons (ev_call (ea_cons (ev_var 0) (ea_cons (ev_var 2) ea_nil)) (cell k)) ea_nil) ⟨_, rfl, rfl⟩))) ?_)
  have nl : ∀ k, (num (cellAt ns k)).natAbs < 2 ^ 200 := fun k => num_lt _
  refine sx_mid (fun δ => ∃ a b c d, Four a b c d ∧ δ = [some (.im (dL K (ns.map fun i => dI i))), some (.ow (oL [dI a, dI b, dI c, dI d])), none, none, none, none, none]) ?_ ?_
  · refine sx_if (et_test (ev_op (ev_op (ev_call (ea_cons (ev_var 0) (ea_cons ev_c ea_nil)) (cell 4)) ev_c (rv_mod (by decide))) ev_c (by walk_at "hm_eq"))) (fun h => ?_) (fun h => ?_)
    · refine sx_seq (sx_setL 1 0 rfl (ev_op (ev_subO 1 0 rfl ev_c rfl rfl) (ev_op (ev_op (ev_call (ea_cons (ev_var 0) (ea_cons ev_c ea_nil)) (cell 5)) ev_c (rv_mod (by decide))) ev_c (by walk_at "hm_add")) (rv_mul (mulW (nl 0) (fac_lt _) (by decide)))) ev_c rfl (show 0 < 4 by decide) ?_)
      refine sx_setL 1 1 rfl (ev_op (ev_subO 1 1 rfl ev_c rfl rfl) (ev_op (ev_op (ev_call (ea_cons (ev_var 0) (ea_cons ev_c ea_nil)) (cell 5)) ev_c (rv_mod (by decide))) ev_c (by walk_at "hm_add")) (rv_mul (mulW (nl 1) (fac_lt _) (by decide)))) ev_c rfl (show 1 < 4 by decide) ?_
      exact ⟨_, _, _, _, ⟨lt_mono (mul_lt (nl 0) (fac_lt _)) (by decide), lt_mono (mul_lt (nl 1) (fac_lt _)) (by decide), lt_mono (nl 2) (by decide), lt_mono (nl 3) (by decide)⟩, rfl⟩
    · exact sx_nil ⟨_, _, _, _, ⟨lt_mono (nl 0) (by decide), lt_mono (nl 1) (by decide), lt_mono (nl 2) (by decide), lt_mono (nl 3) (by decide)⟩, rfl⟩
  rintro _ ⟨a, b, c, d, hF, rfl⟩
  refine sx_seq (sx_no (et_or (a := false) (b := false) (et_not (b := true) (et_B (ev_call (ea_cons (ev_subO 1 0 rfl ev_c rfl rfl) ea_nil) ⟨_, rfl, rfl⟩))) (fun h => (et_not (b := true) (et_B (ev_call (ea_cons (ev_int (ea_cons (ev_subO 1 2 rfl ev_c rfl rfl) (ea_cons ev_c ea_nil))) ea_nil) ⟨_, sz_int (lt_mono hF.2.2.1 (by decide)) (by decide), rfl, rfl⟩))))) (sx_nil ?_))
  refine sx_mid (fun δ => ∃ a b c d, Four a b c d ∧ b ≠ 0 ∧ d ≠ 0 ∧ ∃ s, δ = [some (.im (dL K (ns.map fun i => dI i))), some (.ow (oL [dI a, dI b, dI c, dI d])), s, none, none, none, none]) ?_ ?_
  · refine sx_forL (ev_lst (ea_cons ev_c (ea_cons ev_c ea_nil)) (show 2 ≤ 1000 by decide)) (fun n δ => ∃ a b c d, Four a b c d ∧ (1 ≤ n → b ≠ 0) ∧ (2 ≤ n → d ≠ 0) ∧ ∃ s, δ = [some (.im (dL K (ns.map fun i => dI i))), some (.ow (oL [dI a, dI b, dI c, dI d])), s, none, none, none, none]) ⟨a, b, c, d, hF, fun z => absurd z (by decide), fun z => absurd z (by decide), none, rfl⟩ ?_ ?_
    · rintro n δ' dx en ⟨a, b, c, d, hF, hb, hd, s, rfl⟩
      match n, en with
      | 0, en =>
        cases en
        refine sx_if (et_test (ev_op (ev_subO 1 1 rfl (ev_var 2) rfl rfl) ev_c (by walk_at "hm_eq"))) (fun h => ?_) (fun h => ?_)
        · exact sx_setL 1 1 rfl ev_c (ev_var 2) rfl (show 1 < 4 by decide) ⟨a, 1, c, d, ⟨hF.1, Nat.one_lt_two_pow (by decide), hF.2.2.1, hF.2.2.2⟩, fun _ => by decide, fun z => absurd z (by decide), _, rfl⟩
        · exact sx_nil ⟨a, b, c, d, hF, fun _ => of_decide_eq_false h, fun z => absurd z (by decide), _, rfl⟩
      | 1, en =>
        cases en
        refine sx_if (et_test (ev_op (ev_subO 1 3 rfl (ev_var 2) rfl rfl) ev_c (by walk_at "hm_eq"))) (fun h => ?_) (fun h => ?_)
        · exact sx_setL 1 3 rfl ev_c (ev_var 2) rfl (show 3 < 4 by decide) ⟨a, b, c, 1, ⟨hF.1, hF.2.1, hF.2.2.1, Nat.one_lt_two_pow (by decide)⟩, fun _ => hb (by decide), fun _ => by decide, _, rfl⟩
        · exact sx_nil ⟨a, b, c, d, hF, fun _ => hb (by decide), fun _ => of_decide_eq_false h, _, rfl⟩
      | n + 2, en => cases en
    · rintro δ' ⟨a, b, c, d, hF, hb, hd, s, rfl⟩
      exact ⟨a, b, c, d, hF, hb (by decide), hd (by decide), s, rfl⟩
  clear hF a b c d
  rintro _ ⟨a, b, c, d, ⟨ha, hb, hc, hd⟩, b0, d0, s2, rfl⟩
  refine sx_seq (sx_no (et_not (b := true) (et_B (ev_call (ea_cons (ev_call (ea_cons (ev_subO 1 0 rfl ev_c rfl rfl) (ea_cons (ev_subO 1 1 rfl ev_c rfl rfl) ea_nil)) ⟨a, b, rfl, .inr ⟨b0, lt_mono hb (by decide), rfl⟩⟩) (ea_cons (ev_subO 1 0 rfl ev_c rfl rfl) (ea_cons (ev_subO 1 1 rfl ev_c rfl rfl) ea_nil))) (tells_of b0 rfl (lt_mono ha (by decide)) (lt_mono hb (by decide)))))) (sx_nil ?_))
  refine sx_seq (sx_asg (ev_call (ea_cons (ev_subO 1 0 rfl ev_c rfl rfl) (ea_cons (ev_subO 1 1 rfl ev_c rfl rfl) ea_nil)) ⟨a, b, rfl, b0, lt_mono hb (by decide), rfl⟩) ?_)
  refine sx_seq (sx_asg (ev_call (ea_cons (ev_subO 1 2 rfl ev_c rfl rfl) (ea_cons (ev_subO 1 3 rfl ev_c rfl rfl) ea_nil)) ⟨c, d, rfl, d0, lt_mono hd (by decide), rfl⟩) ?_)
  have z1 : Sz 300 (Rat.divInt a b) := Sz.div b0 ha hb
  have z2 : Sz 300 (Rat.divInt c d) := Sz.div d0 hc hd
  generalize Rat.divInt a b = x at z1 ⊢
  generalize Rat.divInt c d = y at z2 ⊢
  refine sx_mid (fun δ => ∃ y, Sz 300 y ∧ δ = [some (.im (dL K (ns.map fun i => dI i))), some (.ow (oL [dI a, dI b, dI c, dI d])), s2, some (.im (dR K x)), some (.im (dR K y)), none, none]) ?_ ?_
  · refine sx_if (et_test (ev_op (ev_op (ev_op (ev_call (ea_cons (ev_var 0) (ea_cons ev_c ea_nil)) (cell 4)) ev_c (rv_div ⟨by decide, by decide +kernel⟩)) ev_c (rv_mod (by decide))) ev_c (by walk_at "hm_eq"))) (fun h => ?_) (fun h => ?_)
    · have hw : CMulW x.num (1 - 2 * (cellAt ns 5 % 2)) := mulW z1.1 (m := 2) (by have e : (2 : Nat) ^ 2 = 4 := rfl
                                                                                  rw [e]; omega) (by decide)
      have e : ∃ y : Rat, Sz 300 y ∧ y.num = x.num * (1 - 2 * (cellAt ns 5 % 2)) ∧ y.den = x.den := by
        rcases (by omega : cellAt ns 5 % 2 = 0 ∨ cellAt ns 5 % 2 = 1) with h | h
        · exact ⟨x, z1, by rw [h]; omega, rfl⟩
        · refine ⟨-x, ⟨by rw [Rat.neg_num, Int.natAbs_neg]; exact z1.1, by rw [Rat.neg_den]; exact z1.2⟩, by rw [h, Rat.neg_num]; omega, Rat.neg_den x⟩
      obtain ⟨y', hy, e1, e2⟩ := e
      refine sx_asg (ev_tupR (r := y') ?_) ⟨y', hy, rfl⟩
      rw [e1, e2]
      exact ea_cons (ev_op (ev_sub (ev_var 3) ev_c (by walk_at "hm_ix")) (ev_op ev_c (ev_op ev_c (ev_op (ev_call (ea_cons (ev_var 0) (ea_cons ev_c ea_nil)) (cell 5)) ev_c (rv_mod (by decide))) (rv_mulS (.inl (by decide)))) rv_sub) (rv_mul hw)) (ea_cons (ev_sub (ev_var 3) ev_c (by walk_at "hm_ix")) ea_nil)
    · exact sx_nil ⟨y, z2, rfl⟩
  clear z2 y
  rintro _ ⟨y, z2, rfl⟩
  have n1 := z1.mulnd z2
  have n2 := z2.mulnd z1
  have n3 := z1.muldd z2
  have n4 := z1.mulnn z2
  have n5 := z1.muldn z2
  have w1 : Sz 4000 x := z1.mono (by decide)
  have w2 : Sz 4000 y := z2.mono (by decide)
  have e3 : (x.den : Int) * (y.den : Int) ≠ 0 := Int.mul_ne_zero (den_ne x) (den_ne y)
  have l3 : ((x.den : Int) * (y.den : Int)).natAbs < 2 ^ 3000 := lt_mono n3 (by decide)
  refine sx_seq (sx_asg (ev_op (ev_sub (ev_var 3) ev_c (by walk_at "hm_ix")) (ev_sub (ev_var 4) ev_c (by walk_at "hm_ix")) (rv_mul (w1.mW3 w2 (by decide)))) ?_)
  refine sx_seq (sx_no (et_not (b := true) (et_B (ev_call (ea_cons (ev_call (ea_cons (ev_var 3) (ea_cons (ev_var 4) ea_nil)) ⟨x, y, w1, w2, rfl, rfl⟩) (ea_cons (ev_op (ev_op (ev_sub (ev_var 3) ev_c (by walk_at "hm_ix")) (ev_sub (ev_var 4) ev_c (by walk_at "hm_ix")) (rv_mul (w1.mW1 w2 (by decide)))) (ev_op (ev_sub (ev_var 4) ev_c (by walk_at "hm_ix")) (ev_sub (ev_var 3) ev_c (by walk_at "hm_ix")) (rv_mul (w2.mW1 w1 (by decide)))) (by walk_at "hm_add")) (ea_cons (ev_var 5) ea_nil))) (tells_of e3 (add_div x y).symm (lt_mono (add_lt' n1 n2) (by decide)) l3)))) (sx_nil ?_))
  refine sx_seq (sx_no (et_not (b := true) (et_B (ev_call (ea_cons (ev_call (ea_cons (ev_var 3) (ea_cons (ev_var 4) ea_nil)) ⟨x, y, w1, w2, rfl, rfl⟩) (ea_cons (ev_op (ev_op (ev_sub (ev_var 3) ev_c (by walk_at "hm_ix")) (ev_sub (ev_var 4) ev_c (by walk_at "hm_ix")) (rv_mul (w1.mW1 w2 (by decide)))) (ev_op (ev_sub (ev_var 4) ev_c (by walk_at "hm_ix")) (ev_sub (ev_var 3) ev_c (by walk_at "hm_ix")) (rv_mul (w2.mW1 w1 (by decide)))) rv_sub) (ea_cons (ev_var 5) ea_nil))) (tells_of e3 (sub_div x y).symm (lt_mono (sub_lt' n1 n2) (by decide)) l3)))) (sx_nil ?_))
  refine sx_seq (sx_no (et_not (b := true) (et_B (ev_call (ea_cons (ev_call (ea_cons (ev_var 3) (ea_cons (ev_var 4) ea_nil)) ⟨x, y, w1, w2, rfl, rfl⟩) (ea_cons (ev_op (ev_sub (ev_var 3) ev_c (by walk_at "hm_ix")) (ev_sub (ev_var 4) ev_c (by walk_at "hm_ix")) (rv_mul (w1.mW0 w2 (by decide)))) (ea_cons (ev_var 5) ea_nil))) (tells_of e3 (mul_div x y).symm (lt_mono n4 (by decide)) l3)))) (sx_nil ?_))
  refine sx_seq (sx_no (et_is (et_and (b := false) (et_test (ev_op (ev_sub (ev_var 4) ev_c (by walk_at "hm_ix")) ev_c (by walk_at "hm_ne"))) (fun h => ?_)) (Bool.and_false _)) (sx_nil ?_))
  · have y0 : y.num ≠ 0 := by
      rw [Bool.not_eq_true'] at h
      exact of_decide_eq_false h
    exact et_not (b := true) (et_B (ev_call (ea_cons (ev_call (ea_cons (ev_var 3) (ea_cons (ev_var 4) ea_nil)) ⟨x, y, w1, w2, rfl, .inr ⟨fun z => y0 (by rw [z]; rfl), rfl⟩⟩) (ea_cons (ev_op (ev_sub (ev_var 3) ev_c (by walk_at "hm_ix")) (ev_sub (ev_var 4) ev_c (by walk_at "hm_ix")) (rv_mul (w1.mW1 w2 (by decide)))) (ea_cons (ev_op (ev_sub (ev_var 3) ev_c (by walk_at "hm_ix")) (ev_sub (ev_var 4) ev_c (by walk_at "hm_ix")) (rv_mul (w1.mW2 w2 (by decide)))) ea_nil))) (tells_of (Int.mul_ne_zero (den_ne x) y0) (quo_div x y).symm (lt_mono n1 (by decide)) (lt_mono n5 (by decide)))))
  refine sx_seq (sx_asg (ev_call (ea_cons (ev_var 3) (ea_cons (ev_var 4) ea_nil)) ⟨x, y, w1, w2, rfl, rfl⟩) ?_)
  refine sx_ret (ev_andV (a := true) (b := true) (ev_cb (ea_cons (ev_var 6) (ea_cons ev_c ea_nil)) (by walk_at "hm_isi")) (fun h => (ev_eq (ev_op (ev_var 6) (ev_op (ev_op (ev_sub (ev_var 3) ev_c (by walk_at "hm_ix")) (ev_sub (ev_var 4) ev_c (by walk_at "hm_ix")) (rv_mul (w1.mW1 w2 (by decide)))) (ev_op (ev_sub (ev_var 4) ev_c (by walk_at "hm_ix")) (ev_sub (ev_var 3) ev_c (by walk_at "hm_ix")) (rv_mul (w2.mW1 w1 (by decide)))) rv_lt) (by walk_at "hm_eq")) ?_))) rfl
  simp only [lt_div, decide_true]

/-! ### the end -/
theorem all_mk {P : Program} {w : World} {K : PySem.W.Frag} {h : Heap} {mg : Str → Option Value} {fa : Addr} (X : K.In h) (G : h.Ns mainGlobals mg) (hfa : mg "law" = some (.ref fa))
    {f_divisor f_fraction f_plus f_minus f_times f_over f_under f__law_cell_at f__law_whole f__law_divisor f__law_tells f__law_number f__law_lowest f__law_no_fraction f__law_no_quotient f_law c_MobileError c_NoNumber c_NoPlace c_NoText : Addr}
    {od0 an0 od1 an1 od2 an2 od3 an3 od4 an4 od5 an5 od6 an6 od7 an7 od8 an8 od9 an9 od10 an10 od11 an11 od12 an12 od13 an13 od14 an14 od15 an15 : Option Addr} {sl0 sl1 sl2 sl3 sl4 sl5 sl6 sl7 sl8 sl9 sl10 sl11 sl12 sl13 sl14 sl15 : Array (Option Value)} {oc0 kV0 dc0 pm0 cd0 ct0 oc1 kV1 dc1 pm1 cd1 ct1 oc2 kV2 dc2 pm2 cd2 ct2 oc3 kV3 dc3 pm3 cd3 ct3 oc4 kV4 dc4 pm4 cd4 ct4 oc5 kV5 dc5 pm5 cd5 ct5 oc6 kV6 dc6 pm6 cd6 ct6 oc7 kV7 dc7 pm7 cd7 ct7 oc8 kV8 dc8 pm8 cd8 ct8 oc9 kV9 dc9 pm9 cd9 ct9 oc10 kV10 dc10 pm10 cd10 ct10 oc11 kV11 dc11 pm11 cd11 ct11 oc12 kV12 dc12 pm12 cd12 ct12 oc13 kV13 dc13 pm13 cd13 ct13 oc14 kV14 dc14 pm14 cd14 ct14 oc15 kV15 dc15 pm15 cd15 ct15 : Value}
    (a0 : PySem.W.nsIn K mainGlobals "divisor" = some (some (.ref f_divisor))) (l0 : K.lookup f_divisor = some ⟨oc0, od0, .func (PySem.W.fnOf "divisor" "divisor" (defArgs s_divisor) (defBody s_divisor) (defScope s_divisor) .none kV0 dc0 pm0 an0 cd0 ct0), sl0⟩) (cc0 : PySem.W.codeIn K cd0 "divisor" = true) (k0 : PySem.W.keepIn K (.ref f_divisor) = true)
    (a1 : PySem.W.nsIn K mainGlobals "fraction" = some (some (.ref f_fraction))) (l1 : K.lookup f_fraction = some ⟨oc1, od1, .func (PySem.W.fnOf "fraction" "fraction" (defArgs s_fraction) (defBody s_fraction) (defScope s_fraction) .none kV1 dc1 pm1 an1 cd1 ct1), sl1⟩) (cc1 : PySem.W.codeIn K cd1 "fraction" = true) (k1 : PySem.W.keepIn K (.ref f_fraction) = true)
    (a2 : PySem.W.nsIn K mainGlobals "plus" = some (some (.ref f_plus))) (l2 : K.lookup f_plus = some ⟨oc2, od2, .func (PySem.W.fnOf "plus" "plus" (defArgs s_plus) (defBody s_plus) (defScope s_plus) .none kV2 dc2 pm2 an2 cd2 ct2), sl2⟩) (cc2 : PySem.W.codeIn K cd2 "plus" = true) (k2 : PySem.W.keepIn K (.ref f_plus) = true)
    (a3 : PySem.W.nsIn K mainGlobals "minus" = some (some (.ref f_minus))) (l3 : K.lookup f_minus = some ⟨oc3, od3, .func (PySem.W.fnOf "minus" "minus" (defArgs s_minus) (defBody s_minus) (defScope s_minus) .none kV3 dc3 pm3 an3 cd3 ct3), sl3⟩) (cc3 : PySem.W.codeIn K cd3 "minus" = true) (k3 : PySem.W.keepIn K (.ref f_minus) = true)
    (a4 : PySem.W.nsIn K mainGlobals "times" = some (some (.ref f_times))) (l4 : K.lookup f_times = some ⟨oc4, od4, .func (PySem.W.fnOf "times" "times" (defArgs s_times) (defBody s_times) (defScope s_times) .none kV4 dc4 pm4 an4 cd4 ct4), sl4⟩) (cc4 : PySem.W.codeIn K cd4 "times" = true) (k4 : PySem.W.keepIn K (.ref f_times) = true)
    (a5 : PySem.W.nsIn K mainGlobals "over" = some (some (.ref f_over))) (l5 : K.lookup f_over = some ⟨oc5, od5, .func (PySem.W.fnOf "over" "over" (defArgs s_over) (defBody s_over) (defScope s_over) .none kV5 dc5 pm5 an5 cd5 ct5), sl5⟩) (cc5 : PySem.W.codeIn K cd5 "over" = true) (k5 : PySem.W.keepIn K (.ref f_over) = true)
    (a6 : PySem.W.nsIn K mainGlobals "under" = some (some (.ref f_under))) (l6 : K.lookup f_under = some ⟨oc6, od6, .func (PySem.W.fnOf "under" "under" (defArgs s_under) (defBody s_under) (defScope s_under) .none kV6 dc6 pm6 an6 cd6 ct6), sl6⟩) (cc6 : PySem.W.codeIn K cd6 "under" = true) (k6 : PySem.W.keepIn K (.ref f_under) = true)
    (a7 : PySem.W.nsIn K mainGlobals "_law_cell_at" = some (some (.ref f__law_cell_at))) (l7 : K.lookup f__law_cell_at = some ⟨oc7, od7, .func (PySem.W.fnOf "_law_cell_at" "_law_cell_at" (defArgs s__law_cell_at) (defBody s__law_cell_at) (defScope s__law_cell_at) .none kV7 dc7 pm7 an7 cd7 ct7), sl7⟩) (cc7 : PySem.W.codeIn K cd7 "_law_cell_at" = true) (k7 : PySem.W.keepIn K (.ref f__law_cell_at) = true)
    (a8 : PySem.W.nsIn K mainGlobals "_law_whole" = some (some (.ref f__law_whole))) (l8 : K.lookup f__law_whole = some ⟨oc8, od8, .func (PySem.W.fnOf "_law_whole" "_law_whole" (defArgs s__law_whole) (defBody s__law_whole) (defScope s__law_whole) .none kV8 dc8 pm8 an8 cd8 ct8), sl8⟩) (cc8 : PySem.W.codeIn K cd8 "_law_whole" = true) (k8 : PySem.W.keepIn K (.ref f__law_whole) = true)
    (a9 : PySem.W.nsIn K mainGlobals "_law_divisor" = some (some (.ref f__law_divisor))) (l9 : K.lookup f__law_divisor = some ⟨oc9, od9, .func (PySem.W.fnOf "_law_divisor" "_law_divisor" (defArgs s__law_divisor) (defBody s__law_divisor) (defScope s__law_divisor) .none kV9 dc9 pm9 an9 cd9 ct9), sl9⟩) (cc9 : PySem.W.codeIn K cd9 "_law_divisor" = true) (k9 : PySem.W.keepIn K (.ref f__law_divisor) = true)
    (a10 : PySem.W.nsIn K mainGlobals "_law_tells" = some (some (.ref f__law_tells))) (l10 : K.lookup f__law_tells = some ⟨oc10, od10, .func (PySem.W.fnOf "_law_tells" "_law_tells" (defArgs s__law_tells) (defBody s__law_tells) (defScope s__law_tells) .none kV10 dc10 pm10 an10 cd10 ct10), sl10⟩) (cc10 : PySem.W.codeIn K cd10 "_law_tells" = true) (k10 : PySem.W.keepIn K (.ref f__law_tells) = true)
    (a11 : PySem.W.nsIn K mainGlobals "_law_number" = some (some (.ref f__law_number))) (l11 : K.lookup f__law_number = some ⟨oc11, od11, .func (PySem.W.fnOf "_law_number" "_law_number" (defArgs s__law_number) (defBody s__law_number) (defScope s__law_number) .none kV11 dc11 pm11 an11 cd11 ct11), sl11⟩) (cc11 : PySem.W.codeIn K cd11 "_law_number" = true) (k11 : PySem.W.keepIn K (.ref f__law_number) = true)
    (a12 : PySem.W.nsIn K mainGlobals "_law_lowest" = some (some (.ref f__law_lowest))) (l12 : K.lookup f__law_lowest = some ⟨oc12, od12, .func (PySem.W.fnOf "_law_lowest" "_law_lowest" (defArgs s__law_lowest) (defBody s__law_lowest) (defScope s__law_lowest) .none kV12 dc12 pm12 an12 cd12 ct12), sl12⟩) (cc12 : PySem.W.codeIn K cd12 "_law_lowest" = true) (k12 : PySem.W.keepIn K (.ref f__law_lowest) = true)
    (a13 : PySem.W.nsIn K mainGlobals "_law_no_fraction" = some (some (.ref f__law_no_fraction))) (l13 : K.lookup f__law_no_fraction = some ⟨oc13, od13, .func (PySem.W.fnOf "_law_no_fraction" "_law_no_fraction" (defArgs s__law_no_fraction) (defBody s__law_no_fraction) (defScope s__law_no_fraction) .none kV13 dc13 pm13 an13 cd13 ct13), sl13⟩) (cc13 : PySem.W.codeIn K cd13 "_law_no_fraction" = true) (k13 : PySem.W.keepIn K (.ref f__law_no_fraction) = true)
    (a14 : PySem.W.nsIn K mainGlobals "_law_no_quotient" = some (some (.ref f__law_no_quotient))) (l14 : K.lookup f__law_no_quotient = some ⟨oc14, od14, .func (PySem.W.fnOf "_law_no_quotient" "_law_no_quotient" (defArgs s__law_no_quotient) (defBody s__law_no_quotient) (defScope s__law_no_quotient) .none kV14 dc14 pm14 an14 cd14 ct14), sl14⟩) (cc14 : PySem.W.codeIn K cd14 "_law_no_quotient" = true) (k14 : PySem.W.keepIn K (.ref f__law_no_quotient) = true)
    (a15 : PySem.W.nsIn K mainGlobals "law" = some (some (.ref f_law))) (l15 : K.lookup f_law = some ⟨oc15, od15, .func (PySem.W.fnOf "law" "law" (defArgs s_law) (defBody s_law) (defScope s_law) .none kV15 dc15 pm15 an15 cd15 ct15), sl15⟩) (cc15 : PySem.W.codeIn K cd15 "law" = true) (k15 : PySem.W.keepIn K (.ref f_law) = true)
    (xa_MobileError : PySem.W.nsIn K mainGlobals "MobileError" = some (some (.ref c_MobileError))) (xq_MobileError : PySem.W.excIn K c_MobileError [.type "ValueError", .type "Exception", .type "BaseException", .type "object"] "ValueError.__new__" = true) (xk_MobileError : PySem.W.keepIn K (.ref c_MobileError) = true) (xb_MobileError : PySem.W.subIn K (.ref c_MobileError) (.type "BaseException") = some true) (xt_MobileError : PySem.W.typeIn K (.ref c_MobileError) = some (.type "type"))
    (xg_MobileError : PySem.W.findIn K (.ref c_MobileError) "__getattribute__" = some (some (.builtin "BaseException.__getattribute__"))) (xh_MobileError : PySem.W.findIn K (.ref c_MobileError) "__getattr__" = some none) (xd_MobileError : PySem.W.hasDictIn K c_MobileError = true) (xc_MobileError : PySem.W.findIn K (.ref c_MobileError) "__class__" = some (some (.builtin "object.__class__"))) (xm_MobileError : PySem.W.mroIn K c_MobileError (.type "object") = some true) (v_MobileError : PySem.W.subIn K (.ref c_MobileError) (.type "ValueError") = some true)
    (xa_NoNumber : PySem.W.nsIn K mainGlobals "NoNumber" = some (some (.ref c_NoNumber))) (xq_NoNumber : PySem.W.excIn K c_NoNumber [.type "ValueError", .type "Exception", .type "BaseException", .type "object"] "ValueError.__new__" = true) (xk_NoNumber : PySem.W.keepIn K (.ref c_NoNumber) = true) (xb_NoNumber : PySem.W.subIn K (.ref c_NoNumber) (.type "BaseException") = some true) (xt_NoNumber : PySem.W.typeIn K (.ref c_NoNumber) = some (.type "type"))
    (xg_NoNumber : PySem.W.findIn K (.ref c_NoNumber) "__getattribute__" = some (some (.builtin "BaseException.__getattribute__"))) (xh_NoNumber : PySem.W.findIn K (.ref c_NoNumber) "__getattr__" = some none) (xd_NoNumber : PySem.W.hasDictIn K c_NoNumber = true) (xc_NoNumber : PySem.W.findIn K (.ref c_NoNumber) "__class__" = some (some (.builtin "object.__class__"))) (xm_NoNumber : PySem.W.mroIn K c_NoNumber (.type "object") = some true) (v_NoNumber : PySem.W.subIn K (.ref c_NoNumber) (.type "ValueError") = some true)
    (xa_NoPlace : PySem.W.nsIn K mainGlobals "NoPlace" = some (some (.ref c_NoPlace))) (xq_NoPlace : PySem.W.excIn K c_NoPlace [.type "ValueError", .type "Exception", .type "BaseException", .type "object"] "ValueError.__new__" = true) (xk_NoPlace : PySem.W.keepIn K (.ref c_NoPlace) = true) (xb_NoPlace : PySem.W.subIn K (.ref c_NoPlace) (.type "BaseException") = some true) (xt_NoPlace : PySem.W.typeIn K (.ref c_NoPlace) = some (.type "type"))
    (xg_NoPlace : PySem.W.findIn K (.ref c_NoPlace) "__getattribute__" = some (some (.builtin "BaseException.__getattribute__"))) (xh_NoPlace : PySem.W.findIn K (.ref c_NoPlace) "__getattr__" = some none) (xd_NoPlace : PySem.W.hasDictIn K c_NoPlace = true) (xc_NoPlace : PySem.W.findIn K (.ref c_NoPlace) "__class__" = some (some (.builtin "object.__class__"))) (xm_NoPlace : PySem.W.mroIn K c_NoPlace (.type "object") = some true) (v_NoPlace : PySem.W.subIn K (.ref c_NoPlace) (.type "ValueError") = some true)
    (xa_NoText : PySem.W.nsIn K mainGlobals "NoText" = some (some (.ref c_NoText))) (xq_NoText : PySem.W.excIn K c_NoText [.type "ValueError", .type "Exception", .type "BaseException", .type "object"] "ValueError.__new__" = true) (xk_NoText : PySem.W.keepIn K (.ref c_NoText) = true) (xb_NoText : PySem.W.subIn K (.ref c_NoText) (.type "BaseException") = some true) (xt_NoText : PySem.W.typeIn K (.ref c_NoText) = some (.type "type"))
    (xg_NoText : PySem.W.findIn K (.ref c_NoText) "__getattribute__" = some (some (.builtin "BaseException.__getattribute__"))) (xh_NoText : PySem.W.findIn K (.ref c_NoText) "__getattr__" = some none) (xd_NoText : PySem.W.hasDictIn K c_NoText = true) (xc_NoText : PySem.W.findIn K (.ref c_NoText) "__class__" = some (some (.builtin "object.__class__"))) (xm_NoText : PySem.W.mroIn K c_NoText (.type "object") = some true) (v_NoText : PySem.W.subIn K (.ref c_NoText) (.type "ValueError") = some true)
    (eN : PySem.W.specialIn K (.builtin "object.__class__") "__get__" = some (some (.builtin "getset_descriptor.__get__"))) (eT : PySem.W.takesIn K (.builtin "object.__class__") = some true)
    (u_MobileError_MobileError : PySem.W.subIn K (.ref c_MobileError) (.ref c_MobileError) = some true)
    (u_MobileError_NoNumber : PySem.W.subIn K (.ref c_MobileError) (.ref c_NoNumber) = some false)
    (u_MobileError_NoPlace : PySem.W.subIn K (.ref c_MobileError) (.ref c_NoPlace) = some false)
    (u_MobileError_NoText : PySem.W.subIn K (.ref c_MobileError) (.ref c_NoText) = some false)
    (u_NoNumber_MobileError : PySem.W.subIn K (.ref c_NoNumber) (.ref c_MobileError) = some true)
    (u_NoNumber_NoNumber : PySem.W.subIn K (.ref c_NoNumber) (.ref c_NoNumber) = some true)
    (u_NoNumber_NoPlace : PySem.W.subIn K (.ref c_NoNumber) (.ref c_NoPlace) = some false)
    (u_NoNumber_NoText : PySem.W.subIn K (.ref c_NoNumber) (.ref c_NoText) = some false)
    (u_NoPlace_MobileError : PySem.W.subIn K (.ref c_NoPlace) (.ref c_MobileError) = some true)
    (u_NoPlace_NoNumber : PySem.W.subIn K (.ref c_NoPlace) (.ref c_NoNumber) = some false)
    (u_NoPlace_NoPlace : PySem.W.subIn K (.ref c_NoPlace) (.ref c_NoPlace) = some true)
    (u_NoPlace_NoText : PySem.W.subIn K (.ref c_NoPlace) (.ref c_NoText) = some false)
    (u_NoText_MobileError : PySem.W.subIn K (.ref c_NoText) (.ref c_MobileError) = some true)
    (u_NoText_NoNumber : PySem.W.subIn K (.ref c_NoText) (.ref c_NoNumber) = some false)
    (u_NoText_NoPlace : PySem.W.subIn K (.ref c_NoText) (.ref c_NoPlace) = some false)
    (u_NoText_NoText : PySem.W.subIn K (.ref c_NoText) (.ref c_NoText) = some true)
    (z_isinstance : PySem.W.nsIn K mainGlobals "isinstance" = some none)
    (z_len : PySem.W.nsIn K mainGlobals "len" = some none)
    (z_abs : PySem.W.nsIn K mainGlobals "abs" = some none)
    (z_int : PySem.W.nsIn K mainGlobals "int" = some none)
    (z_range : PySem.W.nsIn K mainGlobals "range" = some none)
    (z_tuple : PySem.W.nsIn K mainGlobals "tuple" = some none)
    (z_bool : PySem.W.nsIn K mainGlobals "bool" = some none)
    (z_ValueError : PySem.W.nsIn K mainGlobals "ValueError" = some none)
    : ∃ fd : FuncData, (∀ (s : Shared) (v : Value), BindsTo s fd ⟨[v], []⟩ [("_law_script", v)]) ∧ ∀ base : Heap, K.In base → base.Ns mainGlobals mg → FnOk P w K mg base CX0 9 fa fd ["_law_script"] (spD (SLaw K)) := by
  have e := hfa.symm.trans (PySem.W.mg_of X G a15)
  cases e
  have F0 := fun_mk (st := s_divisor) l0 cc0 k0
  have b0 := F0.binds (ps := ["one", "other"]) fun _ _ _ _ _ _ us hl => match us, hl with | [_, _], _ => rfl
  have F1 := fun_mk (st := s_fraction) l1 cc1 k1
  have b1 := F1.binds (ps := ["top", "bottom"]) fun _ _ _ _ _ _ us hl => match us, hl with | [_, _], _ => rfl
  have F2 := fun_mk (st := s_plus) l2 cc2 k2
  have b2 := F2.binds (ps := ["one", "other"]) fun _ _ _ _ _ _ us hl => match us, hl with | [_, _], _ => rfl
  have F3 := fun_mk (st := s_minus) l3 cc3 k3
  have b3 := F3.binds (ps := ["one", "other"]) fun _ _ _ _ _ _ us hl => match us, hl with | [_, _], _ => rfl
  have F4 := fun_mk (st := s_times) l4 cc4 k4
  have b4 := F4.binds (ps := ["one", "other"]) fun _ _ _ _ _ _ us hl => match us, hl with | [_, _], _ => rfl
  have F5 := fun_mk (st := s_over) l5 cc5 k5
  have b5 := F5.binds (ps := ["one", "other"]) fun _ _ _ _ _ _ us hl => match us, hl with | [_, _], _ => rfl
  have F6 := fun_mk (st := s_under) l6 cc6 k6
  have b6 := F6.binds (ps := ["one", "other"]) fun _ _ _ _ _ _ us hl => match us, hl with | [_, _], _ => rfl
  have F7 := fun_mk (st := s__law_cell_at) l7 cc7 k7
  have b7 := F7.binds (ps := ["_law_script", "_law_k"]) fun _ _ _ _ _ _ us hl => match us, hl with | [_, _], _ => rfl
  have F8 := fun_mk (st := s__law_whole) l8 cc8 k8
  have b8 := F8.binds (ps := ["_law_found"]) fun _ _ _ _ _ _ us hl => match us, hl with | [_], _ => rfl
  have F9 := fun_mk (st := s__law_divisor) l9 cc9 k9
  have b9 := F9.binds (ps := ["_law_one", "_law_other"]) fun _ _ _ _ _ _ us hl => match us, hl with | [_, _], _ => rfl
  have F10 := fun_mk (st := s__law_tells) l10 cc10 k10
  have b10 := F10.binds (ps := ["_law_found", "_law_top", "_law_bottom"]) fun _ _ _ _ _ _ us hl => match us, hl with | [_, _, _], _ => rfl
  have F11 := fun_mk (st := s__law_number) l11 cc11 k11
  have b11 := F11.binds (ps := ["_law_cell"]) fun _ _ _ _ _ _ us hl => match us, hl with | [_], _ => rfl
  have F12 := fun_mk (st := s__law_lowest) l12 cc12 k12
  have b12 := F12.binds (ps := ["_law_top", "_law_bottom"]) fun _ _ _ _ _ _ us hl => match us, hl with | [_, _], _ => rfl
  have F13 := fun_mk (st := s__law_no_fraction) l13 cc13 k13
  have b13 := F13.binds (ps := ["_law_top"]) fun _ _ _ _ _ _ us hl => match us, hl with | [_], _ => rfl
  have F14 := fun_mk (st := s__law_no_quotient) l14 cc14 k14
  have b14 := F14.binds (ps := ["_law_one"]) fun _ _ _ _ _ _ us hl => match us, hl with | [_], _ => rfl
  have F15 := fun_mk (st := s_law) l15 cc15 k15
  have b15 := F15.binds (ps := ["_law_script"]) fun _ _ _ _ _ _ us hl => match us, hl with | [_], _ => rfl
  let T : Top K mg := {
    f_divisor := f_divisor, fd_divisor := _, d_divisor := ⟨F0, PySem.W.mg_of X G a0, b0⟩,
    f_fraction := f_fraction, fd_fraction := _, d_fraction := ⟨F1, PySem.W.mg_of X G a1, b1⟩,
    f_plus := f_plus, fd_plus := _, d_plus := ⟨F2, PySem.W.mg_of X G a2, b2⟩,
    f_minus := f_minus, fd_minus := _, d_minus := ⟨F3, PySem.W.mg_of X G a3, b3⟩,
    f_times := f_times, fd_times := _, d_times := ⟨F4, PySem.W.mg_of X G a4, b4⟩,
    f_over := f_over, fd_over := _, d_over := ⟨F5, PySem.W.mg_of X G a5, b5⟩,
    f_under := f_under, fd_under := _, d_under := ⟨F6, PySem.W.mg_of X G a6, b6⟩,
    f__law_cell_at := f__law_cell_at, fd__law_cell_at := _, d__law_cell_at := ⟨F7, PySem.W.mg_of X G a7, b7⟩,
    f__law_whole := f__law_whole, fd__law_whole := _, d__law_whole := ⟨F8, PySem.W.mg_of X G a8, b8⟩,
    f__law_divisor := f__law_divisor, fd__law_divisor := _, d__law_divisor := ⟨F9, PySem.W.mg_of X G a9, b9⟩,
    f__law_tells := f__law_tells, fd__law_tells := _, d__law_tells := ⟨F10, PySem.W.mg_of X G a10, b10⟩,
    f__law_number := f__law_number, fd__law_number := _, d__law_number := ⟨F11, PySem.W.mg_of X G a11, b11⟩,
    f__law_lowest := f__law_lowest, fd__law_lowest := _, d__law_lowest := ⟨F12, PySem.W.mg_of X G a12, b12⟩,
    f__law_no_fraction := f__law_no_fraction, fd__law_no_fraction := _, d__law_no_fraction := ⟨F13, PySem.W.mg_of X G a13, b13⟩,
    f__law_no_quotient := f__law_no_quotient, fd__law_no_quotient := _, d__law_no_quotient := ⟨F14, PySem.W.mg_of X G a14, b14⟩,
    f_law := fa, fd_law := _, d_law := ⟨F15, hfa, b15⟩,
    c_MobileError := c_MobileError, x_MobileError := ⟨xq_MobileError, PySem.W.mg_of X G xa_MobileError, xk_MobileError, xb_MobileError, xt_MobileError, u_MobileError_MobileError, ⟨xg_MobileError, xh_MobileError, xb_MobileError, xd_MobileError, xc_MobileError, eN, eT, xm_MobileError⟩⟩, v_MobileError := v_MobileError,
    c_NoNumber := c_NoNumber, x_NoNumber := ⟨xq_NoNumber, PySem.W.mg_of X G xa_NoNumber, xk_NoNumber, xb_NoNumber, xt_NoNumber, u_NoNumber_NoNumber, ⟨xg_NoNumber, xh_NoNumber, xb_NoNumber, xd_NoNumber, xc_NoNumber, eN, eT, xm_NoNumber⟩⟩, v_NoNumber := v_NoNumber,
    c_NoPlace := c_NoPlace, x_NoPlace := ⟨xq_NoPlace, PySem.W.mg_of X G xa_NoPlace, xk_NoPlace, xb_NoPlace, xt_NoPlace, u_NoPlace_NoPlace, ⟨xg_NoPlace, xh_NoPlace, xb_NoPlace, xd_NoPlace, xc_NoPlace, eN, eT, xm_NoPlace⟩⟩, v_NoPlace := v_NoPlace,
    c_NoText := c_NoText, x_NoText := ⟨xq_NoText, PySem.W.mg_of X G xa_NoText, xk_NoText, xb_NoText, xt_NoText, u_NoText_NoText, ⟨xg_NoText, xh_NoText, xb_NoText, xd_NoText, xc_NoText, eN, eT, xm_NoText⟩⟩, v_NoText := v_NoText,
    u_MobileError_MobileError := u_MobileError_MobileError,
    u_MobileError_NoNumber := u_MobileError_NoNumber,
    u_MobileError_NoPlace := u_MobileError_NoPlace,
    u_MobileError_NoText := u_MobileError_NoText,
    u_NoNumber_MobileError := u_NoNumber_MobileError,
    u_NoNumber_NoNumber := u_NoNumber_NoNumber,
    u_NoNumber_NoPlace := u_NoNumber_NoPlace,
    u_NoNumber_NoText := u_NoNumber_NoText,
    u_NoPlace_MobileError := u_NoPlace_MobileError,
    u_NoPlace_NoNumber := u_NoPlace_NoNumber,
    u_NoPlace_NoPlace := u_NoPlace_NoPlace,
    u_NoPlace_NoText := u_NoPlace_NoText,
    u_NoText_MobileError := u_NoText_MobileError,
    u_NoText_NoNumber := u_NoText_NoNumber,
    u_NoText_NoPlace := u_NoText_NoPlace,
    u_NoText_NoText := u_NoText_NoText,
    z_isinstance := PySem.W.mg_none_of X G z_isinstance, z_len := PySem.W.mg_none_of X G z_len, z_abs := PySem.W.mg_none_of X G z_abs, z_int := PySem.W.mg_none_of X G z_int, z_range := PySem.W.mg_none_of X G z_range, z_tuple := PySem.W.mg_none_of X G z_tuple, z_bool := PySem.W.mg_none_of X G z_bool, z_ValueError := PySem.W.mg_none_of X G z_ValueError }
  exact ⟨T.fd_law, fun s v => .of_eq rfl, fun base _ _ => ok_law T⟩
theorem walk {l : PySem.W.OpenLaw} {q : Program} {loose : List Str} {XP : (Str → Option Value) → Heap → Prop} {YP : World → Heap → Prop} {d : DefRec} {K : Params → PySem.W.Frag} (hn : l.most = some 63) (hdf : d.params.defaults = [])
    (hY : ∀ (w : World) (h : Heap), YP w h → (K w.params).In h)
    (F : ∀ (w : World) (mg : Str → Option Value) (fa : Addr) (h : Heap), (K w.params).In h → h.Ns mainGlobals mg → mg d.name = some (.ref fa) →
      ∃ fd : FuncData, (∀ (s : Shared) (u : Value), BindsTo s fd ⟨[u], []⟩ [("_law_script", u)]) ∧ ∀ base : Heap, (K w.params).In base → base.Ns mainGlobals mg → FnOk l.prog w (K w.params) mg base CX0 9 fa fd ["_law_script"] (spD (SLaw (K w.params)))) :
    PySem.W.WalkO q loose XP YP l.row.toRowW d [] (fun f vs => PySem.call f vs) :=
  L2.walk_of (n := 63) (k := 9) (x := "_law_script") (CX := fun _ => CX0) (sp := fun w => spD (SLaw (K w.params))) hn (by decide) hdf ⟨rfl, by decide, by decide⟩ hY F (fun _ _ a ns hl _ hS => law_sp hl hS) fun _ _ _ _ _ z => z
end HM
open PySem PySem.W PyProof.Rows
set_option maxRecDepth 100000 in
set_option maxHeartbeats 0 in
theorem PySem.Challenge.cw_hangmobile_k01_fractions_holds : PySem.Challenge.rw_hangmobile_k01_fractions.Holds := by
  w_on; o_law; k_head; (case hw => w_witness2)
  k_fill
  refine HM.walk (l := PySem.Challenge.rw_hangmobile_k01_fractions) rfl rfl (fun w h Y => PySem.W.kIn_of Y) ?F
  case F =>
    intro w mg fa h KX G hmg
    refine' HM.all_mk KX G hmg ?a0 ?l0 ?cc0 ?k0 ?a1 ?l1 ?cc1 ?k1 ?a2 ?l2 ?cc2 ?k2 ?a3 ?l3 ?cc3 ?k3 ?a4 ?l4 ?cc4 ?k4 ?a5 ?l5 ?cc5 ?k5 ?a6 ?l6 ?cc6 ?k6 ?a7 ?l7 ?cc7 ?k7 ?a8 ?l8 ?cc8 ?k8 ?a9 ?l9 ?cc9 ?k9 ?a10 ?l10 ?cc10 ?k10 ?a11 ?l11 ?cc11 ?k11 ?a12 ?l12 ?cc12 ?k12 ?a13 ?l13 ?cc13 ?k13 ?a14 ?l14 ?cc14 ?k14 ?a15 ?l15 ?cc15 ?k15 ?xa_MobileError ?xq_MobileError ?xk_MobileError ?xb_MobileError ?xt_MobileError ?xg_MobileError ?xh_MobileError ?xd_MobileError ?xc_MobileError ?xm_MobileError ?v_MobileError ?xa_NoNumber ?xq_NoNumber ?xk_NoNumber ?xb_NoNumber ?xt_NoNumber ?xg_NoNumber ?xh_NoNumber ?xd_NoNumber ?xc_NoNumber ?xm_NoNumber ?v_NoNumber ?xa_NoPlace ?xq_NoPlace ?xk_NoPlace ?xb_NoPlace ?xt_NoPlace ?xg_NoPlace ?xh_NoPlace ?xd_NoPlace ?xc_NoPlace ?xm_NoPlace ?v_NoPlace ?xa_NoText ?xq_NoText ?xk_NoText ?xb_NoText ?xt_NoText ?xg_NoText ?xh_NoText ?xd_NoText ?xc_NoText ?xm_NoText ?v_NoText ?eN ?eT ?u_MobileError_MobileError ?u_MobileError_NoNumber ?u_MobileError_NoPlace ?u_MobileError_NoText ?u_NoNumber_MobileError ?u_NoNumber_NoNumber ?u_NoNumber_NoPlace ?u_NoNumber_NoText ?u_NoPlace_MobileError ?u_NoPlace_NoNumber ?u_NoPlace_NoPlace ?u_NoPlace_NoText ?u_NoText_MobileError ?u_NoText_NoNumber ?u_NoText_NoPlace ?u_NoText_NoText ?z_isinstance ?z_len ?z_abs ?z_int ?z_range ?z_tuple ?z_bool ?z_ValueError
    (case a0 => first | k_is | rfl)
    (case l0 => first | k_is | rfl)
    (case cc0 => first | k_is | rfl)
    (case k0 => first | k_is | rfl)
    (case a1 => first | k_is | rfl)
    (case l1 => first | k_is | rfl)
    (case cc1 => first | k_is | rfl)
    (case k1 => first | k_is | rfl)
    (case a2 => first | k_is | rfl)
    (case l2 => first | k_is | rfl)
    (case cc2 => first | k_is | rfl)
    (case k2 => first | k_is | rfl)
    (case a3 => first | k_is | rfl)
    (case l3 => first | k_is | rfl)
    (case cc3 => first | k_is | rfl)
    (case k3 => first | k_is | rfl)
    (case a4 => first | k_is | rfl)
    (case l4 => first | k_is | rfl)
    (case cc4 => first | k_is | rfl)
    (case k4 => first | k_is | rfl)
    (case a5 => first | k_is | rfl)
    (case l5 => first | k_is | rfl)
    (case cc5 => first | k_is | rfl)
    (case k5 => first | k_is | rfl)
    (case a6 => first | k_is | rfl)
    (case l6 => first | k_is | rfl)
    (case cc6 => first | k_is | rfl)
    (case k6 => first | k_is | rfl)
    (case a7 => first | k_is | rfl)
    (case l7 => first | k_is | rfl)
    (case cc7 => first | k_is | rfl)
    (case k7 => first | k_is | rfl)
    (case a8 => first | k_is | rfl)
    (case l8 => first | k_is | rfl)
    (case cc8 => first | k_is | rfl)
    (case k8 => first | k_is | rfl)
    (case a9 => first | k_is | rfl)
    (case l9 => first | k_is | rfl)
    (case cc9 => first | k_is | rfl)
    (case k9 => first | k_is | rfl)
    (case a10 => first | k_is | rfl)
    (case l10 => first | k_is | rfl)
    (case cc10 => first | k_is | rfl)
    (case k10 => first | k_is | rfl)
    (case a11 => first | k_is | rfl)
    (case l11 => first | k_is | rfl)
    (case cc11 => first | k_is | rfl)
    (case k11 => first | k_is | rfl)
    (case a12 => first | k_is | rfl)
    (case l12 => first | k_is | rfl)
    (case cc12 => first | k_is | rfl)
    (case k12 => first | k_is | rfl)
    (case a13 => first | k_is | rfl)
    (case l13 => first | k_is | rfl)
    (case cc13 => first | k_is | rfl)
    (case k13 => first | k_is | rfl)
    (case a14 => first | k_is | rfl)
    (case l14 => first | k_is | rfl)
    (case cc14 => first | k_is | rfl)
    (case k14 => first | k_is | rfl)
    (case a15 => first | k_is | rfl)
    (case l15 => first | k_is | rfl)
    (case cc15 => first | k_is | rfl)
    (case k15 => first | k_is | rfl)
    (case xa_MobileError => first | k_is | rfl)
    (case xq_MobileError => k_exc)
    (case xk_MobileError => first | k_is | rfl)
    (case xb_MobileError => first | k_is | rfl)
    (case xt_MobileError => first | k_is | rfl)
    (case xg_MobileError => first | k_is | rfl)
    (case xh_MobileError => first | k_is | rfl)
    (case xd_MobileError => first | k_is | rfl)
    (case xc_MobileError => first | k_is | rfl)
    (case xm_MobileError => first | k_is | rfl)
    (case v_MobileError => first | k_is | rfl)
    (case xa_NoNumber => first | k_is | rfl)
    (case xq_NoNumber => k_exc)
    (case xk_NoNumber => first | k_is | rfl)
    (case xb_NoNumber => first | k_is | rfl)
    (case xt_NoNumber => first | k_is | rfl)
    (case xg_NoNumber => first | k_is | rfl)
    (case xh_NoNumber => first | k_is | rfl)
    (case xd_NoNumber => first | k_is | rfl)
    (case xc_NoNumber => first | k_is | rfl)
    (case xm_NoNumber => first | k_is | rfl)
    (case v_NoNumber => first | k_is | rfl)
    (case xa_NoPlace => first | k_is | rfl)
    (case xq_NoPlace => k_exc)
    (case xk_NoPlace => first | k_is | rfl)
    (case xb_NoPlace => first | k_is | rfl)
    (case xt_NoPlace => first | k_is | rfl)
    (case xg_NoPlace => first | k_is | rfl)
    (case xh_NoPlace => first | k_is | rfl)
    (case xd_NoPlace => first | k_is | rfl)
    (case xc_NoPlace => first | k_is | rfl)
    (case xm_NoPlace => first | k_is | rfl)
    (case v_NoPlace => first | k_is | rfl)
    (case xa_NoText => first | k_is | rfl)
    (case xq_NoText => k_exc)
    (case xk_NoText => first | k_is | rfl)
    (case xb_NoText => first | k_is | rfl)
    (case xt_NoText => first | k_is | rfl)
    (case xg_NoText => first | k_is | rfl)
    (case xh_NoText => first | k_is | rfl)
    (case xd_NoText => first | k_is | rfl)
    (case xc_NoText => first | k_is | rfl)
    (case xm_NoText => first | k_is | rfl)
    (case v_NoText => first | k_is | rfl)
    (case eN => first | k_is | rfl)
    (case eT => first | k_is | rfl)
    (case u_MobileError_MobileError => first | k_is | rfl)
    (case u_MobileError_NoNumber => first | k_is | rfl)
    (case u_MobileError_NoPlace => first | k_is | rfl)
    (case u_MobileError_NoText => first | k_is | rfl)
    (case u_NoNumber_MobileError => first | k_is | rfl)
    (case u_NoNumber_NoNumber => first | k_is | rfl)
    (case u_NoNumber_NoPlace => first | k_is | rfl)
    (case u_NoNumber_NoText => first | k_is | rfl)
    (case u_NoPlace_MobileError => first | k_is | rfl)
    (case u_NoPlace_NoNumber => first | k_is | rfl)
    (case u_NoPlace_NoPlace => first | k_is | rfl)
    (case u_NoPlace_NoText => first | k_is | rfl)
    (case u_NoText_MobileError => first | k_is | rfl)
    (case u_NoText_NoNumber => first | k_is | rfl)
    (case u_NoText_NoPlace => first | k_is | rfl)
    (case u_NoText_NoText => first | k_is | rfl)
    (case z_isinstance => first | k_is | rfl)
    (case z_len => first | k_is | rfl)
    (case z_abs => first | k_is | rfl)
    (case z_int => first | k_is | rfl)
    (case z_range => first | k_is | rfl)
    (case z_tuple => first | k_is | rfl)
    (case z_bool => first | k_is | rfl)
    (case z_ValueError => first | k_is | rfl)
#print axioms PySem.Challenge.cw_hangmobile_k01_fractions_holds
