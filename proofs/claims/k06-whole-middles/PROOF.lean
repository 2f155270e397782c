import PyProof.Rows.All
import Wide.All
import OpenK.AllK
import Wide.FinOn
import HandS.ForMost
import HandS.Exc
import HandS.TryOnly
import HandS.ExcOwn
import HandS.WordsExc
import HandS.Wide
import HandS.IsInst
import HandS.ExcIs
import HandS.Defaults
import HandS.SortOrd
import HandS.Zip
import HandS.ListItems
import HandS.More
import HandS.Replace
import HandS.Rev
import HandS.Walk
import PyProof.StrOps2
import PySem.Challenge.RW_hangmobile_k06_whole_middles
set_option Elab.async false
set_option linter.all false
set_option maxRecDepth 100000
set_option maxHeartbeats 4000000
/-! The frame: what values denote (Dn), what slots hold (Sl), the state as seen from a def's entry (Rep), judgements over denotations (Ev, Et, Ea, Sx), promises by denotations (spD). -/
namespace HM
open PySem L2

/-- a dict under a lock counts as itself -/
def unl : HO → HO
  | .frz _ (.dK kvs) => .dK kvs
  | u => u
/-- what is known grows; a dict may be locked or unlocked -/
def Le (G G' : Hp) : Prop := ∀ a u, G a = some u → ∃ u', G' a = some u' ∧ unl u' = unl u
theorem Le.of {G G' : Hp} (h : Same G G') : Le G G' := fun a u e => ⟨u, h a u e, rfl⟩
theorem Le.refl (G : Hp) : Le G G := fun a u h => ⟨u, h, rfl⟩
theorem Le.trans {G G1 G2 : Hp} (a : Le G G1) (b : Le G1 G2) : Le G G2 := fun x u e => by
  obtain ⟨u1, h1, e1⟩ := a x u e
  obtain ⟨u2, h2, e2⟩ := b x u1 h1
  exact ⟨u2, h2, e2.trans e1⟩
theorem unl_dK {u : HO} {kvs : List (Key × V)} (h : unl u = .dK kvs) : u = .dK kvs ∨ ∃ o, u = .frz o (.dK kvs) := by
  cases u with
  | dK k => exact .inl h
  | frz o v =>
    cases v with
    | dK k => simp only [unl] at h; cases h; exact .inr ⟨o, rfl⟩
    | _ => simp only [unl] at h; cases h
  | _ => simp only [unl] at h; cases h
theorem Le.rd {G G' : Hp} (h : Le G G') {a : Addr} {kvs : List (Key × V)} (r : Rd G a (.dK kvs)) : Rd G' a (.dK kvs) := by
  rcases r with r | ⟨o, r⟩
  · obtain ⟨u, e, q⟩ := h a _ r
    rcases unl_dK (show unl u = .dK kvs from q) with z | ⟨o, z⟩
    · subst z; exact .inl e
    · subst z; exact .inr ⟨o, e⟩
  · obtain ⟨u, e, q⟩ := h a _ r
    rcases unl_dK (show unl u = .dK kvs from q) with z | ⟨o, z⟩
    · subst z; exact .inl e
    · subst z; exact .inr ⟨o, e⟩
/-- what is no dict stands as it is -/
theorem Le.get {G G' : Hp} (h : Le G G') {a : Addr} {u : HO} (e : G a = some u) (h1 : ∀ kvs, u ≠ .dK kvs) (h2 : ∀ o kvs, u ≠ .frz o (.dK kvs)) : G' a = some u := by
  obtain ⟨u', e', q⟩ := h a u e
  have z : unl u = u := by
    cases u with
    | frz o v => cases v with
      | dK k => exact absurd rfl (h2 o k)
      | _ => rfl
    | _ => rfl
  rw [z] at q
  have : u' = u := by
    cases u' with
    | frz o v => cases v with
      | dK k => exact absurd q.symm (h1 k)
      | _ => exact q
    | _ => exact q
  subst this
  exact e'
theorem Le.tup {K : PySem.W.Frag} {G G' : Hp} (h : Le G G') {a : Addr} {xs : List V} (r : SqT K G a xs) : SqT K G' a xs := by
  rcases r with (r | ⟨o, r⟩) | r
  · exact .inl (.inl (h.get r (fun _ z => nomatch z) (fun _ _ z => nomatch z)))
  · exact .inl (.inr ⟨o, h.get r (fun _ z => nomatch z) (fun _ _ z => nomatch z)⟩)
  · exact .inr r
theorem Le.lst {K : PySem.W.Frag} {G G' : Hp} (h : Le G G') {a : Addr} {xs : List V} (r : SqL K G a xs) : SqL K G' a xs := by
  rcases r with (r | ⟨o, r⟩) | r
  · exact .inl (.inl (h.get r (fun _ z => nomatch z) (fun _ _ z => nomatch z)))
  · exact .inl (.inr ⟨o, h.get r (fun _ z => nomatch z) (fun _ _ z => nomatch z)⟩)
  · exact .inr r
theorem Le.ins {G G' : Hp} (h : Le G G') {a C dx : Addr} {fs : List (Str × V)} (r : G a = some (.ins C dx fs)) : G' a = some (.ins C dx fs) := h.get r (fun _ z => nomatch z) (fun _ _ z => nomatch z)
theorem Same.new {H : Hp} {p : Addr} (h : H p = Option.none) (o : HO) : Same H (upd H p o) := fun b u q => by rw [upd_ne (ne_of_none q h)]; exact q

/-! ### denotations -/
/-- what a value denotes -/
structure Dn where
  p : Hp → V → Prop
  mono : ∀ {G G' : Hp} {v : V}, Le G G' → p G v → p G' v
def dV (v : V) : Dn := ⟨fun _ x => x = v, fun _ h => h⟩
abbrev dI (i : Int) : Dn := dV (.int i)
abbrev dB (b : Bool) : Dn := dV (.bl b)
abbrev dS (s : Str) : Dn := dV (.str s)
abbrev dN : Dn := dV .non
/-- no value -/
def dF : Dn := ⟨fun _ _ => False, fun _ h => h⟩
/-- any value -/
def dAny : Dn := ⟨fun _ _ => True, fun _ h => h⟩
def Reps (G : Hp) : List Dn → List V → Prop
  | [], [] => True
  | d :: ds, v :: vs => d.p G v ∧ Reps G ds vs
  | _, _ => False
theorem Reps.mono {G G' : Hp} (h : Le G G') : ∀ {ds : List Dn} {vs : List V}, Reps G ds vs → Reps G' ds vs
  | [], [], _ => True.intro
  | _ :: _, _ :: _, r => ⟨Dn.mono _ h r.1, Reps.mono h r.2⟩
  | [], _ :: _, r => r.elim
  | _ :: _, [], r => r.elim
theorem Reps.len {G : Hp} : ∀ {ds : List Dn} {vs : List V}, Reps G ds vs → vs.length = ds.length
  | [], [], _ => rfl
  | _ :: _, _ :: _, r => congrArg (· + 1) (Reps.len r.2)
  | [], _ :: _, r => r.elim
  | _ :: _, [], r => r.elim
theorem Reps.get {G : Hp} : ∀ {ds : List Dn} {vs : List V} {i : Nat} {d : Dn}, Reps G ds vs → ds[i]? = some d → ∃ v, vs[i]? = some v ∧ d.p G v
  | d :: _, v :: _, 0, _, r, e => by
    simp only [List.getElem?_cons_zero, Option.some.injEq] at e
    subst e
    exact ⟨v, rfl, r.1⟩
  | _ :: ds, _ :: vs, i + 1, d, r, e => Reps.get (i := i) r.2 (by simpa using e)
  | [], _, _, _, _, e => by simp at e
  | _ :: _, [], _, _, r, _ => r.elim
theorem Reps.getV {G : Hp} {ds : List Dn} {vs : List V} {i : Nat} {v : V} (r : Reps G ds vs) (e : vs[i]? = some v) : ∃ d, ds[i]? = some d ∧ d.p G v := by
  have h1 : i < vs.length := (List.getElem?_eq_some_iff.mp e).1
  rw [r.len] at h1
  obtain ⟨w, e2, p⟩ := r.get (List.getElem?_eq_getElem h1)
  rw [e] at e2; cases e2
  exact ⟨_, List.getElem?_eq_getElem h1, p⟩
theorem Reps.app {G : Hp} : ∀ {ds es : List Dn} {vs us : List V}, Reps G ds vs → Reps G es us → Reps G (ds ++ es) (vs ++ us)
  | [], _, [], _, _, s => s
  | _ :: _, _, _ :: _, _, r, s => ⟨r.1, Reps.app r.2 s⟩
  | [], _, _ :: _, _, r, _ => r.elim
  | _ :: _, _, [], _, r, _ => r.elim
theorem Reps.drop {G : Hp} : ∀ {ds : List Dn} {vs : List V} (n : Nat), Reps G ds vs → Reps G (ds.drop n) (vs.drop n)
  | _, _, 0, r => r
  | [], [], _ + 1, _ => True.intro
  | _ :: _, _ :: _, n + 1, r => Reps.drop n r.2
  | [], _ :: _, _ + 1, r => r.elim
  | _ :: _, [], _ + 1, r => r.elim
theorem Reps.take {G : Hp} : ∀ {ds : List Dn} {vs : List V} (n : Nat), Reps G ds vs → Reps G (ds.take n) (vs.take n)
  | _, _, 0, _ => True.intro
  | [], [], _ + 1, _ => True.intro
  | _ :: _, _ :: _, n + 1, r => ⟨r.1, Reps.take n r.2⟩
  | [], _ :: _, _ + 1, r => r.elim
  | _ :: _, [], _ + 1, r => r.elim
theorem Reps.mapV {G : Hp} {α : Type} (f : α → V) : ∀ xs : List α, Reps G (xs.map fun x => dV (f x)) (xs.map f)
  | [] => True.intro
  | _ :: r => ⟨rfl, Reps.mapV f r⟩
theorem Reps.mapVeq {G : Hp} {α : Type} (f : α → V) : ∀ {xs : List α} {vs : List V}, Reps G (xs.map fun x => dV (f x)) vs → vs = xs.map f
  | [], [], _ => rfl
  | x :: r, v :: vs, h => by
    have h1 : v = f x := h.1
    rw [h1, Reps.mapVeq f h.2]; rfl
  | [], _ :: _, r => r.elim
  | _ :: _, [], r => r.elim
theorem Reps.set {G : Hp} {d : Dn} {v : V} (p : d.p G v) : ∀ {ds : List Dn} {vs : List V} (i : Nat), Reps G ds vs → Reps G (ds.set i d) (vs.set i v)
  | [], [], _, _ => True.intro
  | _ :: _, _ :: _, 0, r => ⟨p, r.2⟩
  | _ :: _, _ :: _, i + 1, r => ⟨r.1, Reps.set p i r.2⟩
  | [], _ :: _, _, r => r.elim
  | _ :: _, [], _, r => r.elim
/-- a tuple, a list of such -/
def dT (K : PySem.W.Frag) (ds : List Dn) : Dn := ⟨fun G v => ∃ a vs, v = .ref a ∧ SqT K G a vs ∧ Reps G ds vs, fun h ⟨a, vs, e, t, r⟩ => ⟨a, vs, e, h.tup t, r.mono h⟩⟩
def dL (K : PySem.W.Frag) (ds : List Dn) : Dn := ⟨fun G v => ∃ a vs, v = .ref a ∧ SqL K G a vs ∧ Reps G ds vs, fun h ⟨a, vs, e, t, r⟩ => ⟨a, vs, e, h.lst t, r.mono h⟩⟩
/-- a fraction in lowest terms -/
def dR (K : PySem.W.Frag) (r : Rat) : Dn := ⟨fun G v => ∃ a, v = .ref a ∧ G a = some (.tup [.int r.num, .int (r.den : Int)]), fun h ⟨a, e, t⟩ => ⟨a, e, h.get t (fun _ z => nomatch z) (fun _ _ z => nomatch z)⟩⟩
theorem dR_dT {K : PySem.W.Frag} {r : Rat} {G : Hp} {v : V} (h : (dR K r).p G v) : (dT K [dI r.num, dI (r.den : Int)]).p G v := by
  obtain ⟨a, e, t⟩ := h
  exact ⟨a, _, e, .of t, rfl, rfl, True.intro⟩
/-- pairs of a dict, key by key -/
def RepsK (G : Hp) : List (Str × Dn) → List (Key × V) → Prop
  | [], [] => True
  | d :: ds, v :: vs => v.1 = Sum.inr d.1 ∧ d.2.p G v.2 ∧ RepsK G ds vs
  | _, _ => False
theorem RepsK.mono {G G' : Hp} (h : Le G G') : ∀ {ds : List (Str × Dn)} {vs : List (Key × V)}, RepsK G ds vs → RepsK G' ds vs
  | [], [], _ => True.intro
  | _ :: _, _ :: _, r => ⟨r.1, Dn.mono _ h r.2.1, RepsK.mono h r.2.2⟩
  | [], _ :: _, r => r.elim
  | _ :: _, [], r => r.elim
/-- a dict with text keys -/
def dD (kvs : List (Str × Dn)) : Dn := ⟨fun G v => ∃ a kws, v = .ref a ∧ Rd G a (.dK kws) ∧ RepsK G kvs kws, fun h ⟨a, k, e, t, r⟩ => ⟨a, k, e, h.rd t, r.mono h⟩⟩
/-- what an object of the def's own holds -/
structure On where
  p : Hp → Addr → HO → Prop
  mono : ∀ {G G' : Hp} {a : Addr} {o : HO}, Le G G' → p G a o → p G' a o
def oL (ds : List Dn) : On := ⟨fun G _ o => ∃ vs, o = .lst vs ∧ Reps G ds vs, fun h ⟨vs, e, r⟩ => ⟨vs, e, r.mono h⟩⟩
def oD (kvs : List (Str × Dn)) : On := ⟨fun G _ o => ∃ kws, o = .dK kws ∧ RepsK G kvs kws, fun h ⟨vs, e, r⟩ => ⟨vs, e, r.mono h⟩⟩
/-- what a slot holds: a value that denotes d, or an object of the def's own -/
inductive Sl where
  | im (d : Dn)
  | ow (c : On)
  | ik (d : Dn) (x : Addr) (c : On)

/-! ### states -/
/-- what is known and what stands, behind: G, H ahead -/
structure Gr (G H G' H' : Hp) : Prop where
  le : Same G G'
  sub : Same G' H'
  ext : Same H H'
  new : ∀ a, G a = none → G' a ≠ none → H a = none
theorem Gr.refl {G H : Hp} (s : Same G H) : Gr G H G H := ⟨.refl _, s, .refl _, fun _ h h' => absurd h h'⟩
theorem Gr.trans {G H G1 H1 G2 H2 : Hp} (a : Gr G H G1 H1) (b : Gr G1 H1 G2 H2) : Gr G H G2 H2 :=
  ⟨a.le.trans b.le, b.sub, a.ext.trans b.ext, fun x h h' => by
    cases q : G1 x with
    | none => exact a.ext.free (b.new x q h')
    | some u => exact a.new x h (by rw [q]; exact fun z => nomatch z)⟩
/-- a new object, known -/
theorem Gr.add {G H : Hp} {p : Addr} {o : HO} (s : Same G H) (h : H p = none) : Gr G H (upd G p o) (upd H p o) :=
  ⟨Same.new (s.free h) o, fun a u e => by
    by_cases q : a = p
    · subst q; rw [upd_same] at e ⊢; exact e
    · rw [upd_ne q] at e ⊢; exact s a u e, Same.new h o, fun a g g' => by
    by_cases q : a = p
    · subst q; exact h
    · rw [upd_ne q] at g'; exact absurd g g'⟩
/-- a new object, not known -/
theorem Gr.skip {G H : Hp} {p : Addr} {o : HO} (s : Same G H) (h : H p = none) : Gr G H G (upd H p o) :=
  ⟨.refl _, s.trans (Same.new h o), Same.new h o, fun _ g g' => absurd g g'⟩
abbrev DEnv := List (Option Sl)
/-- the state as seen from the entry G0, H0: G is known, the slots hold what δ says -/
structure Rep (G0 H0 G : Hp) (δ : DEnv) (σ : St) (H : Hp) : Prop where
  gr : Gr G0 H0 G H
  len : δ.length = σ.length
  im : ∀ (i : Nat) d, δ[i]? = some (some (.im d)) → ∃ v, σ[i]? = some (some v) ∧ d.p G v
  ow : ∀ (i : Nat) c, δ[i]? = some (some (.ow c)) → ∃ a o, σ[i]? = some (some (.ref a)) ∧ H a = some o ∧ c.p G a o ∧ G a = none ∧ H0 a = none
  dj : ∀ (i j : Nat) c c' a, δ[i]? = some (some (.ow c)) → δ[j]? = some (some (.ow c')) → σ[i]? = some (some (.ref a)) → σ[j]? = some (some (.ref a)) → i = j
section
variable {G0 H0 G G' H H' : Hp} {δ : DEnv} {σ : St} {d : Dn} {v : V} {i : Nat}
/-- the state goes on, its own objects as they are -/
theorem Rep.go (R : Rep G0 H0 G δ σ H) (g : Gr G H G' H') : Rep G0 H0 G' δ σ H' where
  gr := R.gr.trans g
  len := R.len
  im := fun i d e => by
    obtain ⟨v, a, b⟩ := R.im i d e
    exact ⟨v, a, d.mono (.of g.le) b⟩
  ow := fun i c e => by
    obtain ⟨a, o, h1, h2, h3, h4, h5⟩ := R.ow i c e
    refine ⟨a, o, h1, g.ext a o h2, c.mono (.of g.le) h3, ?_, h5⟩
    cases q : G' a with
    | none => rfl
    | some u =>
      have z := g.new a h4 (by rw [q]; exact fun z => nomatch z)
      rw [h2] at z; cases z
  dj := R.dj
theorem Rep.sub (R : Rep G0 H0 G δ σ H) : Same G H := R.gr.sub
/-- a slot is stored -/
theorem Rep.set (R : Rep G0 H0 G δ σ H) (p : d.p G v) (i : Nat) : Rep G0 H0 G (δ.set i (some (.im d))) (σ.set i (some v)) H where
  gr := R.gr
  len := by rw [List.length_set, List.length_set]; exact R.len
  im := fun j e h => by
    by_cases q : i = j
    · subst q
      have l : i < δ.length := by
        have := (List.getElem?_eq_some_iff.mp h).1
        rwa [List.length_set] at this
      rw [List.getElem?_set_self l] at h
      cases h
      exact ⟨v, by rw [List.getElem?_set_self (R.len ▸ l)], p⟩
    · rw [List.getElem?_set_ne q] at h ⊢
      exact R.im j e h
  ow := fun j c h => by
    by_cases q : i = j
    · subst q
      have l : i < δ.length := by
        have := (List.getElem?_eq_some_iff.mp h).1
        rwa [List.length_set] at this
      rw [List.getElem?_set_self l] at h
      cases h
    · rw [List.getElem?_set_ne q] at h ⊢
      exact R.ow j c h
  dj := fun j k c c' a h1 h2 h3 h4 => by
    have f : ∀ j c, (δ.set i (some (.im d)))[j]? = some (some (.ow c)) → i ≠ j := fun j c h q => by
      subst q
      have l : i < δ.length := by
        have := (List.getElem?_eq_some_iff.mp h).1
        rwa [List.length_set] at this
      rw [List.getElem?_set_self l] at h
      cases h
    have e1 := f j c h1
    have e2 := f k c' h2
    rw [List.getElem?_set_ne e1] at h1 h3
    rw [List.getElem?_set_ne e2] at h2 h4
    exact R.dj j k c c' a h1 h2 h3 h4
/-- an own object is stored -/
theorem Rep.setO {c : On} {a : Addr} {o : HO} (R : Rep G0 H0 G δ σ H) (h : H a = some o) (p : c.p G a o) (g : G a = none) (h0 : H0 a = none) (nw : ∀ (j : Nat) c', δ[j]? = some (some (.ow c')) → σ[j]? ≠ some (some (.ref a))) (i : Nat) :
    Rep G0 H0 G (δ.set i (some (.ow c))) (σ.set i (some (.ref a))) H where
  gr := R.gr
  len := by rw [List.length_set, List.length_set]; exact R.len
  im := fun j e h => by
    by_cases q : i = j
    · subst q
      have l : i < δ.length := by
        have := (List.getElem?_eq_some_iff.mp h).1
        rwa [List.length_set] at this
      rw [List.getElem?_set_self l] at h
      cases h
    · rw [List.getElem?_set_ne q] at h ⊢
      exact R.im j e h
  ow := fun j c' e => by
    by_cases q : i = j
    · subst q
      have l : i < δ.length := by
        have := (List.getElem?_eq_some_iff.mp e).1
        rwa [List.length_set] at this
      rw [List.getElem?_set_self l] at e
      cases e
      exact ⟨a, o, by rw [List.getElem?_set_self (R.len ▸ l)], h, p, g, h0⟩
    · rw [List.getElem?_set_ne q] at e ⊢
      exact R.ow j c' e
  dj := fun j k c1 c2 b h1 h2 h3 h4 => by
    have lt : ∀ {j : Nat} {c'}, (δ.set i (some (.ow c)))[j]? = some (some (.ow c')) → j < σ.length := fun {j c'} h => by
      have := (List.getElem?_eq_some_iff.mp h).1
      rw [List.length_set] at this
      rwa [← R.len]
    by_cases q1 : i = j
    · by_cases q2 : i = k
      · exact q1.symm.trans q2
      · subst q1
        rw [List.getElem?_set_self (lt h1)] at h3
        cases h3
        rw [List.getElem?_set_ne q2] at h2 h4
        exact absurd h4 (nw k c2 h2)
    · by_cases q2 : i = k
      · subst q2
        rw [List.getElem?_set_self (lt h2)] at h4
        cases h4
        rw [List.getElem?_set_ne q1] at h1 h3
        exact absurd h3 (nw j c1 h1)
      · rw [List.getElem?_set_ne q1] at h1 h3
        rw [List.getElem?_set_ne q2] at h2 h4
        exact R.dj j k c1 c2 b h1 h2 h3 h4
/-- a slot is forgotten -/
theorem Rep.drop (R : Rep G0 H0 G δ σ H) {δ' : DEnv} (hl : δ'.length = δ.length) (hs : ∀ (i : Nat) s, δ'[i]? = some (some s) → δ[i]? = some (some s)) : Rep G0 H0 G δ' σ H :=
  ⟨R.gr, hl.trans R.len, fun i d e => R.im i d (hs i _ e), fun i c e => R.ow i c (hs i _ e), fun i j c c' a h1 h2 => R.dj i j c c' a (hs i _ h1) (hs j _ h2)⟩
end

/-! ### judgements -/
/-- how it comes out: a value that denotes d, a new object of one's own, an exception of the class at c -/
inductive Res where
  | ok (d : Dn)
  | own (c : On)
  | ex (c : Addr)
abbrev XS := St → XK
/-- an expression, from the slots δ (E: what is wished of exceptions) -/
def Ev (E : XS) (te : TE) (δ : DEnv) : Res → Prop
  | .ok d => ∀ G0 H0 G σ H (Q : VK), Rep G0 H0 G δ σ H → (∀ v G' H', Gr G H G' H' → d.p G' v → Q v H') → te σ H Q
  | .own c => ∀ G0 H0 G σ H (Q : VK), Rep G0 H0 G δ σ H → (∀ a o G' H', Gr G H G' H' → H a = none → G' a = none → H' a = some o → c.p G' a o → Q (.ref a) H') → te σ H Q
  | .ex c => ∀ G0 H0 G σ H (Q : VK), Rep G0 H0 G δ σ H → (∀ G' H', Gr G H G' H' → E σ (.ref c) none H') → te σ H Q
def Ea (E : XS) (ta : TA) (δ : DEnv) (ds : List Dn) : Prop := ∀ G0 H0 G σ H (Q : List V → Hp → Prop), Rep G0 H0 G δ σ H → (∀ vs G' H', Gr G H G' H' → Reps G' ds vs → Q vs H') → ta σ H Q
def Et (E : XS) (tt : TT) (δ : DEnv) (b : Bool) : Prop := ∀ G0 H0 G σ H (Q : Bool → Hp → Prop), Rep G0 H0 G δ σ H → (∀ G' H', Gr G H G' H' → Q b H') → tt σ H Q
/-- an operation on two values -/
def Rv (r : R2) (x y : Dn) (z : Dn) : Prop := ∀ G H u v (Q : VK), Same G H → x.p G u → y.p G v → (∀ w G' H', Gr G H G' H' → z.p G' w → Q w H') → r u v H Q
def Ru (r : V → Hp → VK → Prop) (x z : Dn) : Prop := ∀ G H u (Q : VK), Same G H → x.p G u → (∀ w G' H', Gr G H G' H' → z.p G' w → Q w H') → r u H Q
/-- a call of a built-in -/
def Rc (r : List V → Hp → VK → Prop) (xs : List Dn) (z : Dn) : Prop := ∀ G H us (Q : VK), Same G H → Reps G xs us → (∀ w G' H', Gr G H G' H' → z.p G' w → Q w H') → r us H Q
/-- .. that hands back a new object -/
def RcO (r : List V → Hp → VK → Prop) (xs : List Dn) (c : On) : Prop := ∀ G H us (Q : VK), Same G H → Reps G xs us → (∀ a o G' H', Gr G H G' H' → H a = none → G' a = none → H' a = some o → c.p G' a o → Q (.ref a) H') → r us H Q
/-- behind a statement -/
structure Post where
  nx : DEnv → Prop
  rt : Sl
  bk : DEnv → Prop := fun _ => False
  ct : DEnv → Prop := fun _ => False
  ex : Addr → DEnv → Prop := fun _ _ => False
def RtOk (G0 H0 : Hp) (D : VK) : Sl → Prop
  | .im d => ∀ v G' H', Gr G0 H0 G' H' → d.p G' v → D v H'
  | .ik d x c => ∀ v o G' H', Gr G0 H0 G' H' → G' x = none → H' x = some o → c.p G' x o → d.p G' v → D v H'
  | .ow c => ∀ a o G' H', Gr G0 H0 G' H' → H0 a = none → G' a = none → H' a = some o → c.p G' a o → D (.ref a) H'
structure Holds (E : XS) (P : Post) (G0 H0 G : Hp) (D : Ends) : Prop where
  nx : ∀ δ G' σ H, P.nx δ → Rep G0 H0 G' δ σ H → Same G G' → D.nx σ H
  rt : RtOk G0 H0 D.rt P.rt
  bk : ∀ δ G' σ H, P.bk δ → Rep G0 H0 G' δ σ H → Same G G' → D.bk σ H
  ct : ∀ δ G' σ H, P.ct δ → Rep G0 H0 G' δ σ H → Same G G' → D.ct σ H
  ex : ∀ c δ G' σ H, P.ex c δ → Rep G0 H0 G' δ σ H → Same G G' → E σ (.ref c) none H
theorem Holds.up {E : XS} {P : Post} {G0 H0 G G' : Hp} {D : Ends} (h : Holds E P G0 H0 G D) (l : Same G G') : Holds E P G0 H0 G' D :=
  ⟨fun δ G2 σ H p R l2 => h.nx δ G2 σ H p R (l.trans l2), h.rt, fun δ G2 σ H p R l2 => h.bk δ G2 σ H p R (l.trans l2), fun δ G2 σ H p R l2 => h.ct δ G2 σ H p R (l.trans l2), fun c δ G2 σ H p R l2 => h.ex c δ G2 σ H p R (l.trans l2)⟩
/-- a statement (a block) -/
def Sx (E : XS) (t : TS) (δ : DEnv) (P : Post) : Prop := ∀ G0 H0 G σ H D, Rep G0 H0 G δ σ H → Holds E P G0 H0 G D → t D σ H

section
variable {E : XS} {δ : DEnv} {te ta tb : TE} {d x y z : Dn} {i : Nat} {v : V} {K : PySem.W.Frag}
/-! ### expressions -/
theorem ev_var (i : Nat) (h : δ[i]? = some (some (.im d)) := by rfl) : Ev E (tVar i) δ (.ok d) := fun G0 H0 G σ H Q R q => by
  obtain ⟨v, e, p⟩ := R.im i d h
  exact ⟨v, e, q v G H (.refl R.sub) p⟩
theorem ev_c : Ev E (tC v) δ (.ok (dV v)) := fun G0 H0 G σ H Q R q => q v G H (.refl R.sub) rfl
theorem ev_op {r : R2} (ha : Ev E ta δ (.ok x)) (hb : Ev E tb δ (.ok y)) (hr : Rv r x y z) : Ev E (tOp r ta tb) δ (.ok z) := fun G0 H0 G σ H Q R q =>
  ha G0 H0 G σ H _ R fun u G1 H1 g1 p1 => hb G0 H0 G1 σ H1 _ (R.go g1) fun w G2 H2 g2 p2 =>
    hr G2 H2 u w Q g2.sub (x.mono (.of g2.le) p1) p2 fun v G3 H3 g3 p3 => q v G3 H3 (g1.trans (g2.trans g3)) p3
theorem ev_un {r : V → Hp → VK → Prop} (ha : Ev E ta δ (.ok x)) (hr : Ru r x z) : Ev E (tUn r ta) δ (.ok z) := fun G0 H0 G σ H Q R q =>
  ha G0 H0 G σ H _ R fun u G1 H1 g1 p1 => hr G1 H1 u Q g1.sub p1 fun v G3 H3 g3 p3 => q v G3 H3 (g1.trans g3) p3
/-- a weaker word -/
theorem ev_imp (h : Ev E te δ (.ok x)) (w : ∀ G v, x.p G v → y.p G v) : Ev E te δ (.ok y) := fun G0 H0 G σ H Q R q => h G0 H0 G σ H Q R fun v G' H' g p => q v G' H' g (w G' v p)
theorem ev_eq (h : Ev E te δ (.ok x)) (w : x = y) : Ev E te δ (.ok y) := w ▸ h
theorem ea_nil : Ea E tNil δ [] := fun G0 H0 G σ H Q R q => q [] G H (.refl R.sub) True.intro
theorem ea_cons {tr : TA} {ds : List Dn} (h : Ev E te δ (.ok d)) (hr : Ea E tr δ ds) : Ea E (tCons te tr) δ (d :: ds) := fun G0 H0 G σ H Q R q =>
  h G0 H0 G σ H _ R fun u G1 H1 g1 p1 => hr G0 H0 G1 σ H1 _ (R.go g1) fun us G2 H2 g2 p2 => q (u :: us) G2 H2 (g1.trans g2) ⟨d.mono (.of g2.le) p1, p2⟩
theorem ea_one (h : Ev E te δ (.ok d)) : Ea E (tCons te tNil) δ [d] := ea_cons h ea_nil
theorem ea_two (h : Ev E ta δ (.ok x)) (h2 : Ev E tb δ (.ok y)) : Ea E (tCons ta (tCons tb tNil)) δ [x, y] := ea_cons h (ea_one h2)
/-- a tuple's, a list's display -/
theorem ev_tup {ta : TA} {ds : List Dn} (h : Ea E ta δ ds) (hl : ds.length ≤ 1000) : Ev E (tTup ta) δ (.ok (dT K ds)) := fun G0 H0 G σ H Q R q =>
  h G0 H0 G σ H _ R fun vs G1 H1 g1 p1 => ⟨Nat.le_of_lt (small1000 (by rw [p1.len]; exact hl)), fun p hp =>
    q (.ref p) _ _ (g1.trans (.add (o := .tup vs) g1.sub hp)) ⟨p, vs, rfl, .of upd_same, p1.mono (.of (Same.new (g1.sub.free hp) _))⟩⟩
theorem ev_tupR {ta : TA} {r : Rat} (h : Ea E ta δ [dI r.num, dI (r.den : Int)]) : Ev E (tTup ta) δ (.ok (dR K r)) := fun G0 H0 G σ H Q R q =>
  h G0 H0 G σ H _ R fun vs G1 H1 g1 p1 => ⟨Nat.le_of_lt (small1000 (by rw [p1.len]; show 2 ≤ 1000; decide)), fun p hp => by
    have e := Reps.mapVeq V.int (xs := [r.num, (r.den : Int)]) p1
    refine q (.ref p) _ _ (g1.trans (.add (o := .tup vs) g1.sub hp)) ⟨p, rfl, ?_⟩
    rw [upd_same, e]; rfl⟩
theorem eo_lst {ta : TA} {ds : List Dn} (h : Ea E ta δ ds) (hl : ds.length ≤ 1000) : Ev E (tLst ta) δ (.own (oL ds)) := fun G0 H0 G σ H Q R q =>
  h G0 H0 G σ H _ R fun vs G1 H1 g1 p1 => ⟨Nat.le_of_lt (small1000 (by rw [p1.len]; exact hl)), fun p hp =>
    q p (.lst vs) _ _ (g1.trans (.skip (o := .lst vs) g1.sub hp)) (g1.ext.free hp) (g1.sub.free hp) upd_same ⟨vs, rfl, p1⟩⟩
theorem eo_dnew : Ev E tDNewK δ (.own (oD [])) := fun G0 H0 G σ H Q R q p hp => q p _ G _ (.skip (o := .dK []) R.sub hp) hp (R.sub.free hp) upd_same ⟨[], rfl, True.intro⟩
/-- an own new object is made known -/
theorem ev_pubL {ds : List Dn} (h : Ev E te δ (.own (oL ds))) : Ev E te δ (.ok (dL K ds)) := fun G0 H0 G σ H Q R q =>
  h G0 H0 G σ H Q R fun a o G' H' g ha ga ea ⟨vs, e, r⟩ => by
    subst e
    refine q (.ref a) (upd G' a (.lst vs)) H' ⟨g.le.trans (Same.new ga _), fun b u e => ?_, g.ext, fun b h1 h2 => ?_⟩ ⟨a, vs, rfl, .of upd_same, r.mono (.of (Same.new ga _))⟩
    · by_cases z : b = a
      · subst z; rw [upd_same] at e; cases e; exact ea
      · rw [upd_ne z] at e; exact g.sub b u e
    · by_cases z : b = a
      · subst z; exact ha
      · rw [upd_ne z] at h2; exact g.new b h1 h2
theorem ev_lst {ta : TA} {ds : List Dn} (h : Ea E ta δ ds) (hl : ds.length ≤ 1000) : Ev E (tLst ta) δ (.ok (dL K ds)) := ev_pubL (eo_lst h hl)
theorem ev_pubD {ds : List (Str × Dn)} (h : Ev E te δ (.own (oD ds))) : Ev E te δ (.ok (dD ds)) := fun G0 H0 G σ H Q R q =>
  h G0 H0 G σ H Q R fun a o G' H' g ha ga ea ⟨vs, e, r⟩ => by
    subst e
    refine q (.ref a) (upd G' a (.dK vs)) H' ⟨g.le.trans (Same.new ga _), fun b u e => ?_, g.ext, fun b h1 h2 => ?_⟩ ⟨a, vs, rfl, .of upd_same, r.mono (.of (Same.new ga _))⟩
    · by_cases z : b = a
      · subst z; rw [upd_same] at e; cases e; exact ea
      · rw [upd_ne z] at e; exact g.sub b u e
    · by_cases z : b = a
      · subst z; exact ha
      · rw [upd_ne z] at h2; exact g.new b h1 h2
/-- a call of a built-in -/
theorem ev_cb {r : List V → Hp → VK → Prop} {ta : TA} {ds : List Dn} (h : Ea E ta δ ds) (hr : Rc r ds z) : Ev E (tCB r ta) δ (.ok z) := fun G0 H0 G σ H Q R q =>
  h G0 H0 G σ H _ R fun vs G1 H1 g1 p1 => hr G1 H1 vs Q g1.sub p1 fun v G3 H3 g3 p3 => q v G3 H3 (g1.trans g3) p3
theorem eo_cb {r : List V → Hp → VK → Prop} {ta : TA} {ds : List Dn} {c : On} (h : Ea E ta δ ds) (hr : RcO r ds c) : Ev E (tCB r ta) δ (.own c) := fun G0 H0 G σ H Q R q =>
  h G0 H0 G σ H _ R fun vs G1 H1 g1 p1 => hr G1 H1 vs Q g1.sub p1 fun a o G3 H3 g3 h3 => q a o G3 H3 (g1.trans g3) (g1.ext.free h3)
/-! ### tests -/
theorem et_test {b : Bool} (h : Ev E te δ (.ok (dB b))) : Et E (tTest te) δ b := fun G0 H0 G σ H Q R q => h G0 H0 G σ H _ R fun v G' H' g p => ⟨b, p, q G' H' g⟩
theorem et_B {b : Bool} (h : Ev E te δ (.ok (dB b))) : Et E (tB te) δ b := fun G0 H0 G σ H Q R q => h G0 H0 G σ H _ R fun v G' H' g p => ⟨b, p, q G' H' g⟩
theorem et_not {tt : TT} {b : Bool} (h : Et E tt δ b) : Et E (tNot tt) δ (!b) := fun G0 H0 G σ H Q R q => h G0 H0 G σ H _ R q
theorem et_and {t u : TT} {a b : Bool} (h1 : Et E t δ a) (h2 : a = true → Et E u δ b) : Et E (tAnd t u) δ (a && b) := fun G0 H0 G σ H Q R q => h1 G0 H0 G σ H _ R fun G1 H1 g1 => by
  cases a with
  | true => exact iteT (h2 rfl G0 H0 G1 σ H1 Q (R.go g1) fun G2 H2 g2 => q G2 H2 (g1.trans g2))
  | false => exact iteF (q G1 H1 g1)
theorem et_or {t u : TT} {a b : Bool} (h1 : Et E t δ a) (h2 : a = false → Et E u δ b) : Et E (tOr t u) δ (a || b) := fun G0 H0 G σ H Q R q => h1 G0 H0 G σ H _ R fun G1 H1 g1 => by
  cases a with
  | true => exact iteT (q G1 H1 g1)
  | false => exact iteF (h2 rfl G0 H0 G1 σ H1 Q (R.go g1) fun G2 H2 g2 => q G2 H2 (g1.trans g2))
theorem et_is {tt : TT} {a b : Bool} (h : Et E tt δ a) (e : a = b) : Et E tt δ b := e ▸ h
theorem ev_andV {a b : Bool} (h1 : Ev E ta δ (.ok (dB a))) (h2 : a = true → Ev E tb δ (.ok (dB b))) : Ev E (tAndV ta tb) δ (.ok (dB (a && b))) := fun G0 H0 G σ H Q R q => h1 G0 H0 G σ H _ R fun v G1 H1 g1 p => ⟨a, p, by
  cases a with
  | true => exact iteT (h2 rfl G0 H0 G1 σ H1 Q (R.go g1) fun w G2 H2 g2 p2 => q w G2 H2 (g1.trans g2) p2)
  | false => exact iteF (q _ G1 H1 g1 rfl)⟩
theorem ev_orV {a b : Bool} (h1 : Ev E ta δ (.ok (dB a))) (h2 : a = false → Ev E tb δ (.ok (dB b))) : Ev E (tOrV ta tb) δ (.ok (dB (a || b))) := fun G0 H0 G σ H Q R q => h1 G0 H0 G σ H _ R fun v G1 H1 g1 p => ⟨a, p, by
  cases a with
  | true => exact iteT (q _ G1 H1 g1 rfl)
  | false => exact iteF (h2 rfl G0 H0 G1 σ H1 Q (R.go g1) fun w G2 H2 g2 p2 => q w G2 H2 (g1.trans g2) p2)⟩
theorem ev_notV {a : Bool} (h1 : Ev E ta δ (.ok (dB a))) : Ev E (tNotV ta) δ (.ok (dB (!a))) := fun G0 H0 G σ H Q R q => h1 G0 H0 G σ H _ R fun v G1 H1 g1 p => ⟨a, p, q _ G1 H1 g1 rfl⟩
theorem ev_if {t : TT} {b : Bool} (h : Et E t δ b) (h1 : b = true → Ev E ta δ (.ok d)) (h2 : b = false → Ev E tb δ (.ok d)) : Ev E (tIf t ta tb) δ (.ok d) := fun G0 H0 G σ H Q R q => h G0 H0 G σ H _ R fun G1 H1 g1 => by
  cases b with
  | true => exact iteT (h1 rfl G0 H0 G1 σ H1 Q (R.go g1) fun w G2 H2 g2 p2 => q w G2 H2 (g1.trans g2) p2)
  | false => exact iteF (h2 rfl G0 H0 G1 σ H1 Q (R.go g1) fun w G2 H2 g2 p2 => q w G2 H2 (g1.trans g2) p2)
end
end HM
/-! Statements, calls, defs over denotations. -/
namespace HM
open PySem L2
section
variable {E : XS} {δ : DEnv} {P : Post} {te ta tb tl : TE} {t u : TS} {d x y z : Dn} {i : Nat} {v : V} {K : PySem.W.Frag} {c : Addr} {tt : TT}
theorem sx_nil (h : P.nx δ) : Sx E tNext δ P := fun G0 H0 G σ H D R hd => hd.nx δ G σ H h R (.refl G)
theorem sx_seq (h : Sx E t δ { P with nx := fun δ' => Sx E u δ' P }) : Sx E (tSeq t u) δ P := fun G0 H0 G σ H D R hd =>
  h G0 H0 G σ H { D with nx := u D } R ⟨fun δ' G' σ' H' p R' l => p G0 H0 G' σ' H' D R' (hd.up l), hd.rt, hd.bk, hd.ct, hd.ex⟩
/-- what stands between -/
theorem sx_mid (J : DEnv → Prop) (h : Sx E t δ { P with nx := J }) (k : ∀ δ', J δ' → Sx E u δ' P) : Sx E (tSeq t u) δ P := fun G0 H0 G σ H D R hd =>
  h G0 H0 G σ H { D with nx := u D } R ⟨fun δ' G' σ' H' p R' l => k δ' p G0 H0 G' σ' H' D R' (hd.up l), hd.rt, hd.bk, hd.ct, hd.ex⟩
theorem sx_asg (h : Ev E te δ (.ok d)) (k : P.nx (δ.set i (some (.im d)))) : Sx E (tAsg te (gName i)) δ P := fun G0 H0 G σ H D R hd =>
  h G0 H0 G σ H _ R fun v G' H' g p => hd.nx _ G' _ H' k ((R.go g).set p i) g.le
theorem sx_asgO {c : On} (h : Ev E te δ (.own c)) (k : P.nx (δ.set i (some (.ow c)))) : Sx E (tAsg te (gName i)) δ P := fun G0 H0 G σ H D R hd =>
  h G0 H0 G σ H _ R fun a o G' H' g ha ga ea p => hd.nx _ G' _ H' k ((R.go g).setO ea p ga (R.gr.ext.free ha) (fun j c' e1 e2 => by
    obtain ⟨b, o', q1, q2, _⟩ := R.ow j c' e1
    rw [q1] at e2; cases e2
    rw [ha] at q2; cases q2) i) g.le
theorem sx_asgX {g : TG} (h : Ev E te δ (.ex c)) (k : P.ex c δ) : Sx E (tAsg te g) δ P := fun G0 H0 G σ H D R hd =>
  h G0 H0 G σ H _ R fun G' H' g => hd.ex c δ G' σ H' k (R.go g) g.le
theorem sx_ret (h : Ev E te δ (.ok d)) (k : P.rt = .im d) : Sx E (tRet te) δ P := fun G0 H0 G σ H D R hd =>
  h G0 H0 G σ H _ R fun v G' H' g p => by
    have q := hd.rt
    rw [k] at q
    exact q v G' H' (R.gr.trans g) p
theorem sx_retO {c : On} (h : Ev E te δ (.own c)) (k : P.rt = .ow c) : Sx E (tRet te) δ P := fun G0 H0 G σ H D R hd =>
  h G0 H0 G σ H _ R fun a o G' H' g ha ga ea p => by
    have q := hd.rt
    rw [k] at q
    exact q a o G' H' (R.gr.trans g) (R.gr.ext.free ha) ga ea p
/-- an own slot is handed back -/
theorem sx_retV {c : On} (i : Nat) (h : δ[i]? = some (some (.ow c))) (k : P.rt = .ow c) : Sx E (tRet (tVar i)) δ P := fun G0 H0 G σ H D R hd => by
  obtain ⟨a, o, e1, e2, e3, e4, e5⟩ := R.ow i c h
  have q := hd.rt
  rw [k] at q
  exact ⟨_, e1, q a o G H R.gr e5 e4 e2 e3⟩
theorem sx_retX (h : Ev E te δ (.ex c)) (k : P.ex c δ) : Sx E (tRet te) δ P := fun G0 H0 G σ H D R hd =>
  h G0 H0 G σ H _ R fun G' H' g => hd.ex c δ G' σ H' k (R.go g) g.le
theorem sx_retN (k : P.rt = .im dN) : Sx E tRetN δ P := fun G0 H0 G σ H D R hd => by
  have q := hd.rt
  rw [k] at q
  exact q .non G H R.gr rfl
theorem sx_drop (h : Ev E te δ (.ok d)) (k : P.nx δ) : Sx E (tDrop te) δ P := fun G0 H0 G σ H D R hd =>
  h G0 H0 G σ H _ R fun v G' H' g p => hd.nx _ G' _ H' k (R.go g) g.le
theorem sx_dropX (h : Ev E te δ (.ex c)) (k : P.ex c δ) : Sx E (tDrop te) δ P := fun G0 H0 G σ H D R hd =>
  h G0 H0 G σ H _ R fun G' H' g => hd.ex c δ G' σ H' k (R.go g) g.le
theorem sx_if {b : Bool} (h : Et E tt δ b) (h1 : b = true → Sx E t δ P) (h2 : b = false → Sx E u δ P) : Sx E (tIfS tt t u) δ P := fun G0 H0 G σ H D R hd =>
  h G0 H0 G σ H _ R fun G' H' g => by
    cases b with
    | true => exact iteT (h1 rfl G0 H0 G' σ H' D (R.go g) (hd.up g.le))
    | false => exact iteF (h2 rfl G0 H0 G' σ H' D (R.go g) (hd.up g.le))
theorem sx_yes (h : Et E tt δ true) (h1 : Sx E t δ P) : Sx E (tIfS tt t u) δ P := sx_if h (fun _ => h1) fun z => nomatch z
theorem sx_no (h : Et E tt δ false) (h1 : Sx E u δ P) : Sx E (tIfS tt t u) δ P := sx_if h (fun z => nomatch z) fun _ => h1
theorem sx_brk (h : P.bk δ) : Sx E tBreak δ P := fun G0 H0 G σ H D R hd => hd.bk δ G σ H h R (.refl G)
theorem sx_cont (h : P.ct δ) : Sx E tCont δ P := fun G0 H0 G σ H D R hd => hd.ct δ G σ H h R (.refl G)
/-- raise X(..): W lets the class at c out -/
theorem sx_raise {W : WX} (hW : ∀ σ H, E σ (.ref c) none H → W (.ref c) none σ H) (k : P.ex c δ) : Sx E (fun _ σ H => W (.ref c) none σ H) δ P := fun G0 H0 G σ H D R hd =>
  hW σ H (hd.ex c δ G σ H k R (.refl G))
theorem sx_raiseE {E' : XK} (k : P.ex c δ) : Sx (fun _ => E') (fun _ _ H => E' (.ref c) none H) δ P := fun G0 H0 G σ H D R hd => hd.ex c δ G σ H k R (.refl G)
/-- slots are forgotten -/
theorem sx_weak {δ' : DEnv} (h : Sx E t δ' P) (hl : δ'.length = δ.length) (hs : ∀ (i : Nat) s, δ'[i]? = some (some s) → δ[i]? = some (some s)) : Sx E t δ P := fun G0 H0 G σ H D R hd => h G0 H0 G σ H D (R.drop hl hs) hd
/-- less is wanted behind -/
theorem sx_post {P' : Post} (h : Sx E t δ P') (h1 : ∀ δ, P'.nx δ → P.nx δ) (h2 : P'.rt = P.rt) (h3 : ∀ δ, P'.bk δ → P.bk δ) (h4 : ∀ δ, P'.ct δ → P.ct δ) (h5 : ∀ c δ, P'.ex c δ → P.ex c δ) : Sx E t δ P := fun G0 H0 G σ H D R hd =>
  h G0 H0 G σ H D R ⟨fun δ G' σ H p => hd.nx δ G' σ H (h1 δ p), h2 ▸ hd.rt, fun δ G' σ H p => hd.bk δ G' σ H (h3 δ p), fun δ G' σ H p => hd.ct δ G' σ H (h4 δ p), fun c δ G' σ H p => hd.ex c δ G' σ H (h5 c δ p)⟩
/-- an own object changes -/
theorem Rep.mut {G0 H0 G H : Hp} {σ : St} {c' : On} {a : Addr} {o : HO} (R : Rep G0 H0 G δ σ H) {c : On} (hi : δ[i]? = some (some (.ow c))) (ea : σ[i]? = some (some (.ref a))) (p : c'.p G a o) :
    Rep G0 H0 G (δ.set i (some (.ow c'))) σ (upd H a o) where
  gr := by
    obtain ⟨b, o', e1, e2, e3, e4, e5⟩ := R.ow i c hi
    rw [ea] at e1; cases e1
    exact ⟨R.gr.le, fun x u e => by rw [upd_ne (ne_of_none e e4)]; exact R.gr.sub x u e, fun x u e => by rw [upd_ne (ne_of_none e e5)]; exact R.gr.ext x u e, R.gr.new⟩
  len := by rw [List.length_set]; exact R.len
  im := fun j e h => by
    by_cases q : i = j
    · subst q
      have l : i < δ.length := (List.getElem?_eq_some_iff.mp hi).1
      rw [List.getElem?_set_self l] at h
      cases h
    · rw [List.getElem?_set_ne q] at h
      exact R.im j e h
  ow := fun j c2 h => by
    obtain ⟨b, o', e1, e2, e3, e4, e5⟩ := R.ow i c hi
    rw [ea] at e1; cases e1
    by_cases q : i = j
    · subst q
      have l : i < δ.length := (List.getElem?_eq_some_iff.mp hi).1
      rw [List.getElem?_set_self l] at h
      cases h
      exact ⟨a, o, ea, upd_same, p, e4, e5⟩
    · rw [List.getElem?_set_ne q] at h
      obtain ⟨b, o2, q1, q2, q3⟩ := R.ow j c2 h
      have nb : b ≠ a := fun z => q (R.dj i j c c2 a hi h ea (z ▸ q1))
      exact ⟨b, o2, q1, by rw [upd_ne nb]; exact q2, q3⟩
  dj := fun j k c1 c2 b h1 h2 h3 h4 => by
    have f : ∀ j c1, (δ.set i (some (.ow c')))[j]? = some (some (Sl.ow c1)) → ∃ c2, δ[j]? = some (some (Sl.ow c2)) := fun j c1 h => by
      by_cases q : i = j
      · subst q; exact ⟨c, hi⟩
      · rw [List.getElem?_set_ne q] at h; exact ⟨_, h⟩
    obtain ⟨_, z1⟩ := f j c1 h1
    obtain ⟨_, z2⟩ := f k c2 h2
    exact R.dj j k _ _ b z1 z2 h3 h4
/-- an own object is made known -/
theorem Rep.pub {G0 H0 G H : Hp} {σ : St} {c : On} {d : Dn} {a : Addr} {o : HO} (R : Rep G0 H0 G δ σ H) (hi : δ[i]? = some (some (.ow c))) (ea : σ[i]? = some (some (.ref a))) (eo : H a = some o) (p : d.p (upd G a o) (.ref a)) :
    Rep G0 H0 (upd G a o) (δ.set i (some (.im d))) σ H := by
  obtain ⟨b, o', e1, e2, e3, e4, e5⟩ := R.ow i c hi
  rw [ea] at e1; cases e1
  have sm : Same G (upd G a o) := Same.new e4 o
  refine ⟨⟨R.gr.le.trans sm, fun x u e => ?_, R.gr.ext, fun x h1 h2 => ?_⟩, by rw [List.length_set]; exact R.len, fun j e h => ?_, fun j c2 h => ?_, fun j k c1 c2 b h1 h2 h3 h4 => ?_⟩
  · by_cases q : x = a
    · subst q; rw [upd_same] at e; cases e; exact eo
    · rw [upd_ne q] at e; exact R.gr.sub x u e
  · by_cases q : x = a
    · subst q; exact e5
    · rw [upd_ne q] at h2; exact R.gr.new x h1 h2
  · by_cases q : i = j
    · subst q
      rw [List.getElem?_set_self (List.getElem?_eq_some_iff.mp hi).1] at h
      cases h
      exact ⟨_, ea, p⟩
    · rw [List.getElem?_set_ne q] at h
      obtain ⟨v, z1, z2⟩ := R.im j e h
      exact ⟨v, z1, e.mono (.of sm) z2⟩
  · by_cases q : i = j
    · subst q
      rw [List.getElem?_set_self (List.getElem?_eq_some_iff.mp hi).1] at h
      cases h
    · rw [List.getElem?_set_ne q] at h
      obtain ⟨b, o2, q1, q2, q3, q4, q5⟩ := R.ow j c2 h
      have nb : b ≠ a := fun z => q (R.dj i j c c2 a hi h ea (z ▸ q1))
      exact ⟨b, o2, q1, q2, c2.mono (.of sm) q3, by rw [upd_ne nb]; exact q4, q5⟩
  · have f : ∀ j c1, (δ.set i (some (.im d)))[j]? = some (some (Sl.ow c1)) → δ[j]? = some (some (Sl.ow c1)) := fun j c1 h => by
      by_cases q : i = j
      · subst q
        rw [List.getElem?_set_self (List.getElem?_eq_some_iff.mp hi).1] at h
        cases h
      · rw [List.getElem?_set_ne q] at h; exact h
    exact R.dj j k _ _ b (f j c1 h1) (f k c2 h2) h3 h4
theorem sx_pubL {ds : List Dn} (i : Nat) (hi : δ[i]? = some (some (.ow (oL ds)))) (h : Sx E t (δ.set i (some (.im (dL K ds)))) P) : Sx E t δ P := fun G0 H0 G σ H D R hd => by
  obtain ⟨a, o, e1, e2, ⟨vs, e, r⟩, e4, e5⟩ := R.ow i _ hi
  subst e
  refine h G0 H0 _ σ H D (R.pub hi e1 e2 ⟨a, vs, rfl, .of upd_same, r.mono (.of (Same.new e4 _))⟩) (hd.up (Same.new e4 _))
theorem sx_pubD {ds : List (Str × Dn)} (i : Nat) (hi : δ[i]? = some (some (.ow (oD ds)))) (h : Sx E t (δ.set i (some (.im (dD ds)))) P) : Sx E t δ P := fun G0 H0 G σ H D R hd => by
  obtain ⟨a, o, e1, e2, ⟨vs, e, r⟩, e4, e5⟩ := R.ow i _ hi
  subst e
  refine h G0 H0 _ σ H D (R.pub hi e1 e2 ⟨a, vs, rfl, .of upd_same, r.mono (.of (Same.new e4 _))⟩) (hd.up (Same.new e4 _))
/-- a value of an own slot, known from here on -/
theorem sx_retL {ds : List Dn} (i : Nat) (hi : δ[i]? = some (some (.ow (oL ds)))) (k : P.rt = .im (dL K ds)) : Sx E (tRet (tVar i)) δ P :=
  sx_pubL (K := K) i hi (sx_ret (ev_var i (by rw [List.getElem?_set_self (List.getElem?_eq_some_iff.mp hi).1])) k)
theorem sx_retD {ds : List (Str × Dn)} (i : Nat) (hi : δ[i]? = some (some (.ow (oD ds)))) (k : P.rt = .im (dD ds)) : Sx E (tRet (tVar i)) δ P :=
  sx_pubD i hi (sx_ret (ev_var i (by rw [List.getElem?_set_self (List.getElem?_eq_some_iff.mp hi).1])) k)
/-! ### loops -/
theorem sx_while (I : Nat → DEnv → Prop) (h0 : ∃ m, I m δ) (hs : ∀ m δ, I m δ → ∃ b, Et E tt δ b ∧ (b = true → Sx E t δ { P with nx := fun δ' => ∃ m', m' < m ∧ I m' δ', ct := fun δ' => ∃ m', m' < m ∧ I m' δ', bk := P.nx }) ∧ (b = false → P.nx δ)) :
    Sx E (tWhile tt t) δ P := fun G0 H0 G σ H D R hd => by
  refine ⟨fun m σ H => ∃ G' δ, I m δ ∧ Rep G0 H0 G' δ σ H ∧ Same G G', ?_, ?_⟩
  · obtain ⟨m, h⟩ := h0
    exact ⟨m, G, δ, h, R, .refl _⟩
  · rintro m σ H ⟨G1, δ1, i1, R1, l1⟩
    obtain ⟨b, hb, h1, h2⟩ := hs m δ1 i1
    refine hb G0 H0 G1 σ H _ R1 fun G2 H2 g2 => ?_
    have R2 := R1.go g2
    have l2 : Same G G2 := l1.trans g2.le
    cases b with
    | true =>
      refine iteT ⟨fun σ' H' => ∃ m', m' < m ∧ ∃ G' δ, I m' δ ∧ Rep G0 H0 G' δ σ' H' ∧ Same G G', fun σ' H' h => h, ?_⟩
      refine h1 rfl G0 H0 G2 σ H2 _ R2 ⟨?_, hd.rt, ?_, ?_, ?_⟩
      · rintro δ3 G3 σ3 H3 ⟨m', lt, i3⟩ R3 l3
        exact ⟨m', lt, G3, δ3, i3, R3, l2.trans l3⟩
      · intro δ3 G3 σ3 H3 p R3 l3
        exact hd.nx δ3 G3 σ3 H3 p R3 (l2.trans l3)
      · rintro δ3 G3 σ3 H3 ⟨m', lt, i3⟩ R3 l3
        exact ⟨m', lt, G3, δ3, i3, R3, l2.trans l3⟩
      · intro c δ3 G3 σ3 H3 p R3 l3
        exact hd.ex c δ3 G3 σ3 H3 p R3 (l2.trans l3)
    | false => exact iteF (hd.nx δ1 G2 σ H2 (h2 rfl) R2 l2)
theorem sx_forL {ds : List Dn} (h : Ev E tl δ (.ok (dL K ds))) (I : Nat → DEnv → Prop) (h0 : I 0 δ)
    (hs : ∀ n δ' d, ds[n]? = some d → I n δ' → Sx E t (δ'.set i (some (.im d))) { P with nx := I (n + 1), ct := I (n + 1), bk := P.nx }) (hd : ∀ δ', I ds.length δ' → P.nx δ') : Sx E (tFor (iList K tl) (gName i) t) δ P := fun G0 H0 G σ H D R hD => by
  refine h G0 H0 G σ H _ R fun v G1 H1 g1 ⟨a, vs, ev, sq, rp⟩ => ?_
  subst ev
  refine ⟨a, rfl, ⟨vs, (Le.of g1.sub).lst sq⟩, for_list (K := K) (a := a) (xs := vs) (fun n σ H => ∃ G' δ', I n δ' ∧ Rep G0 H0 G' δ' σ H ∧ Same G1 G') ⟨G1, δ, h0, R.go g1, .refl _⟩ ?_ ?_ ?_⟩
  · rintro n σ2 H2 _ ⟨G2, δ2, _, R2, l2⟩
    exact (Le.of (l2.trans R2.sub)).lst sq
  · rintro n x σ2 H2 ex ⟨G2, δ2, i2, R2, l2⟩
    obtain ⟨d, ed, pd⟩ := rp.getV ex
    refine hs n δ2 d ed i2 G0 H0 G2 _ H2 _ (R2.set (d.mono (.of l2) pd) i) ⟨?_, hD.rt, ?_, ?_, ?_⟩
    · intro δ3 G3 σ3 H3 p R3 l3
      exact ⟨G3, δ3, p, R3, l2.trans l3⟩
    · intro δ3 G3 σ3 H3 p R3 l3
      exact hD.nx δ3 G3 σ3 H3 p R3 (g1.le.trans (l2.trans l3))
    · intro δ3 G3 σ3 H3 p R3 l3
      exact ⟨G3, δ3, p, R3, l2.trans l3⟩
    · intro c δ3 G3 σ3 H3 p R3 l3
      exact hD.ex c δ3 G3 σ3 H3 p R3 (g1.le.trans (l2.trans l3))
  · rintro σ2 H2 ⟨G2, δ2, i2, R2, l2⟩
    rw [rp.len] at i2
    exact hD.nx δ2 G2 σ2 H2 (hd δ2 i2) R2 (g1.le.trans l2)
/-- over a tuple -/
theorem sx_forT {ds : List Dn} (h : Ev E tl δ (.ok (dT K ds))) (I : Nat → DEnv → Prop) (h0 : I 0 δ)
    (hs : ∀ n δ' d, ds[n]? = some d → I n δ' → Sx E t (δ'.set i (some (.im d))) { P with nx := I (n + 1), ct := I (n + 1), bk := P.nx }) (hd : ∀ δ', I ds.length δ' → P.nx δ') : Sx E (tFor (iTup K tl) (gName i) t) δ P := fun G0 H0 G σ H D R hD => by
  refine h G0 H0 G σ H _ R fun v G1 H1 g1 ⟨a, vs, ev, sq, rp⟩ => ?_
  subst ev
  refine ⟨a, rfl, ⟨vs, (Le.of g1.sub).tup sq⟩, for_tup (K := K) (a := a) (xs := vs) (fun n σ H => ∃ G' δ', I n δ' ∧ Rep G0 H0 G' δ' σ H ∧ Same G1 G') ⟨G1, δ, h0, R.go g1, .refl _⟩ ?_ ?_ ?_⟩
  · rintro n σ2 H2 _ ⟨G2, δ2, _, R2, l2⟩
    exact (Le.of (l2.trans R2.sub)).tup sq
  · rintro n x σ2 H2 ex ⟨G2, δ2, i2, R2, l2⟩
    obtain ⟨d, ed, pd⟩ := rp.getV ex
    refine hs n δ2 d ed i2 G0 H0 G2 _ H2 _ (R2.set (d.mono (.of l2) pd) i) ⟨?_, hD.rt, ?_, ?_, ?_⟩
    · intro δ3 G3 σ3 H3 p R3 l3
      exact ⟨G3, δ3, p, R3, l2.trans l3⟩
    · intro δ3 G3 σ3 H3 p R3 l3
      exact hD.nx δ3 G3 σ3 H3 p R3 (g1.le.trans (l2.trans l3))
    · intro δ3 G3 σ3 H3 p R3 l3
      exact ⟨G3, δ3, p, R3, l2.trans l3⟩
    · intro c δ3 G3 σ3 H3 p R3 l3
      exact hD.ex c δ3 G3 σ3 H3 p R3 (g1.le.trans (l2.trans l3))
  · rintro σ2 H2 ⟨G2, δ2, i2, R2, l2⟩
    rw [rp.len] at i2
    exact hD.nx δ2 G2 σ2 H2 (hd δ2 i2) R2 (g1.le.trans l2)
/-- over range(n) -/
theorem sx_forR {ta : TA} {n : Int} (h : Ea E ta δ [dI n]) (hn : 0 ≤ n ∧ n ≤ 1000000) (I : Nat → DEnv → Prop) (h0 : I 0 δ)
    (hs : ∀ (k : Nat) δ', (k : Int) < n → I k δ' → Sx E t (δ'.set i (some (.im (dI (k : Int))))) { P with nx := I (k + 1), ct := I (k + 1), bk := P.nx }) (hd : ∀ δ', I n.toNat δ' → P.nx δ') : Sx E (tFor (iRng1 ta) (gName i) t) δ P := fun G0 H0 G σ H D R hD => by
  refine h G0 H0 G σ H _ R fun vs G1 H1 g1 rp => ?_
  have e := Reps.mapVeq V.int (xs := [n]) rp
  subst e
  have b : (2 : Int) ^ 62 = 4611686018427387904 := by decide
  refine ⟨n, rfl, by rw [b]; omega, by rw [b]; omega, for_range (lo := 0) (n := n.toNat) (fun k σ H => ∃ G' δ', I k δ' ∧ Rep G0 H0 G' δ' σ H ∧ Same G1 G') ⟨G1, δ, h0, R.go g1, .refl _⟩ ?_ ?_⟩
  · rintro k σ2 H2 lt ⟨G2, δ2, i2, R2, l2⟩
    refine hs k δ2 (by omega) i2 G0 H0 G2 _ H2 _ (R2.set (v := .int (0 + k)) (by rw [Int.zero_add]; rfl) i) ⟨?_, hD.rt, ?_, ?_, ?_⟩
    · intro δ3 G3 σ3 H3 p R3 l3
      exact ⟨G3, δ3, p, R3, l2.trans l3⟩
    · intro δ3 G3 σ3 H3 p R3 l3
      exact hD.nx δ3 G3 σ3 H3 p R3 (g1.le.trans (l2.trans l3))
    · intro δ3 G3 σ3 H3 p R3 l3
      exact ⟨G3, δ3, p, R3, l2.trans l3⟩
    · intro c δ3 G3 σ3 H3 p R3 l3
      exact hD.ex c δ3 G3 σ3 H3 p R3 (g1.le.trans (l2.trans l3))
  · rintro σ2 H2 ⟨G2, δ2, i2, R2, l2⟩
    exact hD.nx δ2 G2 σ2 H2 (hd δ2 i2) R2 (g1.le.trans l2)
/-! ### own lists and dicts -/
theorem sx_app {ds : List Dn} (j : Nat) (hj : δ[j]? = some (some (.ow (oL ds)))) (h : Ev E te δ (.ok d)) (hl : ds.length < 100000) (k : P.nx (δ.set j (some (.ow (oL (ds ++ [d])))))) :
    Sx E (tDrop (tBM K "list" rAppend (tVar j) (tCons te tNil))) δ P := fun G0 H0 G σ H D R hd => by
  obtain ⟨a, o, e1, e2, ⟨vs, e, r⟩, e4, e5⟩ := R.ow j _ hj
  subst e
  refine ⟨_, e1, .inl ⟨rfl, _, SqL.of e2⟩, h G0 H0 G σ H _ R fun v G' H' g p => ?_⟩
  refine ⟨a, vs, v, rfl, rfl, g.ext a _ e2, ?_, ?_⟩
  · rw [r.len]; exact Nat.lt_of_lt_of_le hl (by decide)
  · refine hd.nx _ G' _ _ k ((R.go g).mut hj e1 ⟨_, rfl, (r.mono (.of g.le)).app ⟨p, True.intro⟩⟩) g.le
theorem sx_setL {ds : List Dn} {n : Int} (j : Nat) (m : Nat) (hj : δ[j]? = some (some (.ow (oL ds)))) (h : Ev E te δ (.ok d)) (hi : Ev E tb δ (.ok (dI n))) (hn : n = (m : Int)) (hl : m < ds.length) (k : P.nx (δ.set j (some (.ow (oL (ds.set m d)))))) :
    Sx E (tAsg te (gSub (tVar j) tb rSetL)) δ P := fun G0 H0 G σ H D R hd => by
  obtain ⟨a, o, e1, e2, ⟨vs, e, r⟩, e4, e5⟩ := R.ow j _ hj
  subst e
  refine h G0 H0 G σ H _ R fun v G1 H1 g1 p => ?_
  refine ⟨_, e1, hi G0 H0 G1 σ H1 _ (R.go g1) fun w G2 H2 g2 q => ?_⟩
  have q : w = .int n := q
  subst q
  have g := g1.trans g2
  refine ⟨a, vs, n, m, rfl, rfl, g.ext a _ e2, ?_, ?_⟩
  · unfold ixN
    rw [r.len, if_pos (show 0 ≤ n by omega), if_pos (show n < (ds.length : Int) by omega), hn]
    rfl
  · exact hd.nx _ G2 _ _ k ((R.go g).mut hj e1 ⟨_, rfl, (r.mono (.of g.le)).set (d.mono (.of g2.le) p) m⟩) g.le
/-- an own list read -/
theorem ev_ixO {ds : List Dn} {n : Int} (j : Nat) (m : Nat) (hj : δ[j]? = some (some (.ow (oL ds)))) (hi : Ev E tb δ (.ok (dI n))) (hn : n = (m : Int)) (hd : ds[m]? = some d) {r : R2} (hr : ∀ x y H Q, rIxL K x y H Q → r x y H Q) : Ev E (tOp r (tVar j) tb) δ (.ok d) := fun G0 H0 G σ H Q R q => by
  obtain ⟨a, o, e1, e2, ⟨vs, e, rp⟩, e4, e5⟩ := R.ow j _ hj
  subst e
  refine ⟨_, e1, hi G0 H0 G σ H _ R fun w G2 H2 g2 q2 => hr _ _ _ _ ?_⟩
  have q2 : w = .int n := q2
  subst q2
  obtain ⟨v, ev, pv⟩ := rp.get hd
  exact ⟨a, vs, n, v, rfl, rfl, .of (g2.ext a _ e2), at_of hn ev, q v G2 H2 g2 (d.mono (.of g2.le) pv)⟩
end
/-! ### promises -/
def OutOk (G H : Hp) (Q : VK) (E : XK) : Res → Prop
  | .ok d => ∀ v G' H', Gr G H G' H' → d.p G' v → Q v H'
  | .own c => ∀ a o G' H', Gr G H G' H' → H a = none → G' a = none → H' a = some o → c.p G' a o → Q (.ref a) H'
  | .ex c => ∀ G' H', Gr G H G' H' → E (.ref c) none H'
/-- what a def is worth: S tells how it comes out for what is handed in -/
abbrev Sem' := List Dn → Res → Prop
def spD (S : Sem') : Sp := fun vs H Q E => ∃ G ds r, S ds r ∧ Reps G ds vs ∧ Same G H ∧ OutOk G H Q E r
section
variable {E : XS} {E' : XK} {δ : DEnv} {P : Post} {te ta' : TE} {ta : TA} {d : Dn} {c : Addr} {o : On} {S : Sem'} {ds : List Dn} {K : PySem.W.Frag}
theorem ev_call (h : Ea E ta δ ds) (s : S ds (.ok d)) : Ev E (tCall (spD S) [] E' ta) δ (.ok d) := fun G0 H0 G σ H Q R q =>
  h G0 H0 G σ H _ R fun vs G1 H1 g1 p1 => ⟨G1, ds, _, s, by rw [List.append_nil]; exact p1, g1.sub, fun v G' H' g p => q v G' H' (g1.trans g) p⟩
theorem eo_call (h : Ea E ta δ ds) (s : S ds (.own o)) : Ev E (tCall (spD S) [] E' ta) δ (.own o) := fun G0 H0 G σ H Q R q =>
  h G0 H0 G σ H _ R fun vs G1 H1 g1 p1 => ⟨G1, ds, _, s, by rw [List.append_nil]; exact p1, g1.sub, fun a o G' H' g ha => q a o G' H' (g1.trans g) (g1.ext.free ha)⟩
theorem ex_call (h : Ea (fun _ => E') ta δ ds) (s : S ds (.ex c)) : Ev (fun _ => E') (tCall (spD S) [] E' ta) δ (.ex c) := fun G0 H0 G σ H Q R q =>
  h G0 H0 G σ H _ R fun vs G1 H1 g1 p1 => ⟨G1, ds, _, s, by rw [List.append_nil]; exact p1, g1.sub, fun G' H' g => q G' H' (g1.trans g)⟩
theorem ev_callS (h : Ea E ta δ ds) (s : S ds (.ok d)) : Ev E (tCallS (spD S) E ta) δ (.ok d) := fun G0 H0 G σ H Q R q =>
  h G0 H0 G σ H _ R fun vs G1 H1 g1 p1 => ⟨G1, ds, _, s, p1, g1.sub, fun v G' H' g p => q v G' H' (g1.trans g) p⟩
theorem ex_callS (h : Ea E ta δ ds) (s : S ds (.ex c)) : Ev E (tCallS (spD S) E ta) δ (.ex c) := fun G0 H0 G σ H Q R q =>
  h G0 H0 G σ H _ R fun vs G1 H1 g1 p1 => ⟨G1, ds, _, s, p1, g1.sub, fun G' H' g => q G' H' (g1.trans g)⟩
/-- a method of the class at C -/
def IsC (C : Addr) (m : Str) (x : Dn) : Prop := ∀ G v, x.p G v → ∃ a dx fs, v = .ref a ∧ G a = some (.ins C dx fs) ∧ fs.lookup m = none
theorem ev_meth {C : Addr} {m : Str} {x : Dn} (hx : Ev E ta' δ (.ok x)) (hc : IsC C m x) (h : Ea E ta δ ds) (s : S (x :: ds) (.ok d)) : Ev E (tMeth C m (spD S) [] E' ta' ta) δ (.ok d) := fun G0 H0 G σ H Q R q =>
  hx G0 H0 G σ H _ R fun v G1 H1 g1 p1 => by
    obtain ⟨a, dx, fs, e, ga, l⟩ := hc G1 v p1
    subst e
    refine ⟨a, dx, fs, rfl, g1.sub a _ ga, l, h G0 H0 G1 σ H1 _ (R.go g1) fun vs G2 H2 g2 p2 => ?_⟩
    exact ⟨G2, x :: ds, _, s, by rw [List.append_nil]; exact ⟨x.mono (.of g2.le) p1, p2⟩, g2.sub, fun v G' H' g p => q v G' H' (g1.trans (g2.trans g)) p⟩
theorem eo_meth {C : Addr} {m : Str} {x : Dn} (hx : Ev E ta' δ (.ok x)) (hc : IsC C m x) (h : Ea E ta δ ds) (s : S (x :: ds) (.own o)) : Ev E (tMeth C m (spD S) [] E' ta' ta) δ (.own o) := fun G0 H0 G σ H Q R q =>
  hx G0 H0 G σ H _ R fun v G1 H1 g1 p1 => by
    obtain ⟨a, dx, fs, e, ga, l⟩ := hc G1 v p1
    subst e
    refine ⟨a, dx, fs, rfl, g1.sub a _ ga, l, h G0 H0 G1 σ H1 _ (R.go g1) fun vs G2 H2 g2 p2 => ?_⟩
    exact ⟨G2, x :: ds, _, s, by rw [List.append_nil]; exact ⟨x.mono (.of g2.le) p1, p2⟩, g2.sub, fun a o G' H' g ha => q a o G' H' (g1.trans (g2.trans g)) ((g1.trans g2).ext.free ha)⟩
theorem ex_meth {C : Addr} {m : Str} {x : Dn} (hx : Ev (fun _ => E') ta' δ (.ok x)) (hc : IsC C m x) (h : Ea (fun _ => E') ta δ ds) (s : S (x :: ds) (.ex c)) : Ev (fun _ => E') (tMeth C m (spD S) [] E' ta' ta) δ (.ex c) := fun G0 H0 G σ H Q R q =>
  hx G0 H0 G σ H _ R fun v G1 H1 g1 p1 => by
    obtain ⟨a, dx, fs, e, ga, l⟩ := hc G1 v p1
    subst e
    refine ⟨a, dx, fs, rfl, g1.sub a _ ga, l, h G0 H0 G1 σ H1 _ (R.go g1) fun vs G2 H2 g2 p2 => ?_⟩
    exact ⟨G2, x :: ds, _, s, by rw [List.append_nil]; exact ⟨x.mono (.of g2.le) p1, p2⟩, g2.sub, fun G' H' g => q G' H' (g1.trans (g2.trans g))⟩
end
/-- a choice of two readings -/
def tAlt (t u : TE) : TE := fun σ H Q => t σ H Q ∨ u σ H Q
theorem pe_alt {X : Cx} {e : Expr} {t u : TE} (h1 : PE X e t) (h2 : PE X e u) : PE X e (tAlt t u) := ⟨fun pins s σ H Q I h => h.elim (h1.run pins s σ H Q I) (h2.run pins s σ H Q I)⟩
theorem ev_alt1 {E : XS} {δ : DEnv} {t u : TE} : ∀ {r : Res}, Ev E t δ r → Ev E (tAlt t u) δ r
  | .ok _, h => fun G0 H0 G σ H Q R q => .inl (h G0 H0 G σ H Q R q)
  | .own _, h => fun G0 H0 G σ H Q R q => .inl (h G0 H0 G σ H Q R q)
  | .ex _, h => fun G0 H0 G σ H Q R q => .inl (h G0 H0 G σ H Q R q)
theorem ev_alt2 {E : XS} {δ : DEnv} {t u : TE} : ∀ {r : Res}, Ev E u δ r → Ev E (tAlt t u) δ r
  | .ok _, h => fun G0 H0 G σ H Q R q => .inr (h G0 H0 G σ H Q R q)
  | .own _, h => fun G0 H0 G σ H Q R q => .inr (h G0 H0 G σ H Q R q)
  | .ex _, h => fun G0 H0 G σ H Q R q => .inr (h G0 H0 G σ H Q R q)
/-! ### defs -/
def entry (N : List Str) (ds : List Dn) : DEnv := ds.map (fun d => some (.im d)) ++ List.replicate (N.length - ds.length) none
theorem Rep.entry {G H : Hp} {ds : List Dn} {vs : List V} (N : List Str) (r : Reps G ds vs) (s : Same G H) : Rep G H G (entry N ds) (L2.start N vs) H := by
  have noow : ∀ (i : Nat) c, (HM.entry N ds)[i]? ≠ some (some (.ow c)) := fun i c h => by
    unfold HM.entry at h
    by_cases q : i < ds.length
    · rw [List.getElem?_append_left (by rw [List.length_map]; exact q), List.getElem?_map] at h
      rw [List.getElem?_eq_getElem q] at h
      cases h
    · rw [List.getElem?_append_right (by rw [List.length_map]; omega), List.getElem?_replicate] at h
      split at h <;> cases h
  refine ⟨.refl s, ?_, fun i d h => ?_, fun i c h => absurd h (noow i c), fun i j c c' a h => absurd h (noow i c)⟩
  · unfold HM.entry L2.start
    rw [List.length_append, List.length_append, List.length_map, List.length_map, List.length_replicate, List.length_replicate, r.len]
  · unfold HM.entry at h
    by_cases q : i < ds.length
    · rw [List.getElem?_append_left (by rw [List.length_map]; exact q), List.getElem?_map, List.getElem?_eq_getElem q] at h
      cases h
      obtain ⟨v, e, p⟩ := r.get (List.getElem?_eq_getElem q)
      refine ⟨v, ?_, p⟩
      unfold L2.start
      rw [List.getElem?_append_left (by rw [List.length_map, r.len]; exact q), List.getElem?_map, e]
      rfl
    · rw [List.getElem?_append_right (by rw [List.length_map]; omega), List.getElem?_replicate] at h
      split at h <;> cases h
def postOf : Res → Post
  | .ok d => { nx := fun _ => ∀ G, d.p G .non, rt := .im d }
  | .own c => { nx := fun _ => False, rt := .ow c }
  | .ex c => { nx := fun _ => False, rt := .im dF, ex := fun c' _ => c' = c }
theorem Holds.of {G H : Hp} {Q : VK} {E : XK} {r : Res} (o : OutOk G H Q E r) : Holds (fun _ => E) (postOf r) G H G { nx := fun _ H' => Q .non H', rt := Q } := by
  cases r with
  | ok d => exact ⟨fun δ G' σ H' p R l => o .non G' H' R.gr (p G'), o, fun _ _ _ _ z => z.elim, fun _ _ _ _ z => z.elim, fun _ _ _ _ _ z => z.elim⟩
  | own c => exact ⟨fun δ G' σ H' p R l => p.elim, o, fun _ _ _ _ z => z.elim, fun _ _ _ _ z => z.elim, fun _ _ _ _ _ z => z.elim⟩
  | ex c =>
    refine ⟨fun δ G' σ H' p R l => p.elim, fun v G' H' g p => p.elim, fun _ _ _ _ z => z.elim, fun _ _ _ _ z => z.elim, fun c' δ G' σ H' z R l => ?_⟩
    have z : c' = c := z
    subst z
    exact o G' H' R.gr
section
variable {P : Program} {w : World} {K : PySem.W.Frag} {mg : Str → Option Value} {base : Heap} {x qual : Str} {st : Stmt} {f : Addr} {fd : FuncData} {N ps : List Str} {k : Nat} {S : Sem'}
/-- a def that lets no exception out -/
theorem fn0 (F : Fun K x qual st f fd) (sc : FnScope N ps (defScope st)) (len : ∀ ds r, S ds r → ds.length = ps.length)
    (body : ∀ (cdv : Value) (A : Around) (outer : List PySem.Env) (s : Shared) (H : Hp) (E : XK) (ds : List Dn) (r : Res), Room k (A.deeper (PyProof.Rows.envOfC qual (defScope st) s.heap.objs.size f cdv)) → S ds r →
      ∃ t, PSs (cxOf CX0 P w K mg base N qual (defScope st) f cdv A outer s H E).nox (defBody st) t ∧ Sx (fun _ => E) t (entry N ds) (postOf r)) : FnOk P w K mg base CX0 (k + 1) f fd ps (spD S) := by
  refine F.ok sc (fun vs H Q E ⟨G, ds, r, s, rp, _⟩ => rp.len.trans (len ds r s)) fun cdv A outer s H vs Q E hr ⟨G, ds, r, hs, rp, sm, o⟩ => ?_
  obtain ⟨t, h1, h2⟩ := body cdv A outer s H E ds r hr hs
  exact ⟨t, h1, h2 G H G _ H _ (Rep.entry N rp sm) (.of o)⟩
/-- a def that may raise -/
theorem fnX (F : Fun K x qual st f fd) (sc : FnScope N ps (defScope st)) (len : ∀ ds r, S ds r → ds.length = ps.length)
    (body : ∀ (cdv : Value) (A : Around) (outer : List PySem.Env) (s : Shared) (H : Hp) (E : XK) (ds : List Dn) (r : Res), Room k (A.deeper (PyProof.Rows.envOfC qual (defScope st) s.heap.objs.size f cdv)) → S ds r →
      ∃ t, PSs (cxOf (L2.CX P w) P w K mg base N qual (defScope st) f cdv A outer s H E) (defBody st) t ∧ Sx (fun _ => E) t (entry N ds) (postOf r)) : FnOk P w K mg base (L2.CX P w) (k + 1) f fd ps (spD S) := by
  refine F.okX sc (fun vs H Q E ⟨G, ds, r, s, rp, _⟩ => rp.len.trans (len ds r s)) fun cdv A outer s H vs Q E hr ⟨G, ds, r, hs, rp, sm, o⟩ => ?_
  obtain ⟨t, h1, h2⟩ := body cdv A outer s H E ds r hr hs
  exact ⟨t, h1, h2 G H G _ H _ (Rep.entry N rp sm) (.of o)⟩
end
end HM
/-! Operations over denotations. -/
namespace HM
open PySem L2
/-- a text by its codes -/
def cS (l : List Nat) : Str := ⟨l.toArray⟩
abbrev dC (l : List Nat) : Dn := dV (.str (cS l))
theorem cS_inj {a b : List Nat} (h : cS a = cS b) : a = b := by
  have := congrArg (fun s : Str => s.cps.toList) h
  simpa [cS] using this
theorem cS_len (l : List Nat) : (cS l).length = l.length := by show l.toArray.size = l.length; simp
theorem cS_app (a b : List Nat) : cS a ++ cS b = cS (a ++ b) := by
  show (⟨a.toArray ++ b.toArray⟩ : Str) = ⟨(a ++ b).toArray⟩
  simp
/-! ### operators that know more than one kind -/
def rAddU : R2 := fun x y H Q => rI0 (fun i j => .int (i + j)) x y H Q ∨ ((∃ i j, x = .str i ∧ y = .str j ∧ i.length + j.length ≤ sizeLine ∧ Q (.str (i ++ j)) H) ∨ rCat x y H Q)
def rEqU (K : PySem.W.Frag) : R2 := fun x y H Q => rEq x y H Q ∨ rEqD K x y H Q
def rNeU (K : PySem.W.Frag) : R2 := fun x y H Q => rNe x y H Q ∨ rNeD K x y H Q
def rMulU : R2 := fun x y H Q => rI CMul (fun i j => .int (i * j)) x y H Q ∨ rI CMulW (fun i j => .int (i * j)) x y H Q
abbrev rDivU : R2 := rI CDivW fun i j => .int (i / j)
abbrev rModU : R2 := rI (fun _ j => 0 < j) fun i j => .int (i % j)
section
variable {X : Cx}
theorem op_addU : OpR X (binaryOp .Add) rAddU := op_add.or (op_add_str.or op_cat)
theorem op_mulU : OpR X (binaryOp .Mult) rMulU := op_mul.or op_mulW
theorem op_eqU (hu : X.A.units + 64 < cLine) : OpR X (compareOp .Eq) (rEqU X.K) := op_eq.or (op_eqD hu)
theorem op_neU (hu : X.A.units + 64 < cLine) : OpR X (compareOp .NotEq) (rNeU X.K) := op_ne.or (op_neD hu)
end
/-! ### data for == -/
mutual
theorem Dp_mono {K : PySem.W.Frag} {H H' : Hp} (h : Same H H') : ∀ {v : V} {d : PyData}, Dp K H v d → Dp K H' v d
  | _, _, .non => .non
  | _, _, .bl b => .bl b
  | _, _, .int i => .int i
  | _, _, .str x => .str x
  | _, _, .lst s a => .lst ((Le.of h).lst s) (DpAll_mono h a)
  | _, _, .tup s a => .tup ((Le.of h).tup s) (DpAll_mono h a)
theorem DpAll_mono {K : PySem.W.Frag} {H H' : Hp} (h : Same H H') : ∀ {v : List V} {d : List PyData}, DpAll K H v d → DpAll K H' v d
  | _, _, .nil => .nil
  | _, _, .cons a r => .cons (Dp_mono h a) (DpAll_mono h r)
end
/-- what denotes d is the data q -/
def Dq (K : PySem.W.Frag) (d : Dn) (q : PyData) : Prop := ∀ G v, d.p G v → Dp K G v q
def Dqs (K : PySem.W.Frag) : List Dn → List PyData → Prop
  | [], [] => True
  | d :: ds, q :: qs => Dq K d q ∧ Dqs K ds qs
  | _, _ => False
section
variable {K : PySem.W.Frag}
theorem dq_int (i : Int) : Dq K (dI i) (.int i) := fun G v h => by
  have h : v = .int i := h
  subst h; exact .int i
theorem dq_bl (i : Bool) : Dq K (dB i) (.bool i) := fun G v h => by
  have h : v = .bl i := h
  subst h; exact .bl i
theorem dq_non : Dq K dN .none := fun G v h => by
  have h : v = .non := h
  subst h; exact .non
theorem dq_str (s : Str) : Dq K (dS s) (.str s) := fun G v h => by
  have h : v = .str s := h
  subst h; exact .str s
theorem dq_all {G : Hp} : ∀ {ds : List Dn} {qs : List PyData} {vs : List V}, Dqs K ds qs → Reps G ds vs → DpAll K G vs qs
  | [], [], [], _, _ => .nil
  | _ :: _, _ :: _, _ :: _, h, r => .cons (h.1 _ _ r.1) (dq_all h.2 r.2)
  | [], _ :: _, _, h, _ => h.elim
  | _ :: _, [], _, h, _ => h.elim
  | [], [], _ :: _, _, r => r.elim
  | _ :: _, _ :: _, [], _, r => r.elim
theorem dq_tup {ds : List Dn} {qs : List PyData} (h : Dqs K ds qs) : Dq K (dT K ds) (.tuple qs) := fun G v ⟨a, vs, e, t, r⟩ => by
  subst e; exact .tup t (dq_all h r)
theorem dq_lst {ds : List Dn} {qs : List PyData} (h : Dqs K ds qs) : Dq K (dL K ds) (.list qs) := fun G v ⟨a, vs, e, t, r⟩ => by
  subst e; exact .lst t (dq_all h r)
def qR (r : Rat) : PyData := .tuple [.int r.num, .int (r.den : Int)]
theorem dq_R (r : Rat) : Dq K (dR K r) (qR r) := fun G v h => dq_tup (K := K) (ds := [dI r.num, dI (r.den : Int)]) (qs := [.int r.num, .int (r.den : Int)]) ⟨dq_int _, dq_int _, True.intro⟩ G v (dR_dT h)
end
/-- no bools, no dicts, not deep -/
def pl : Nat → PyData → Bool
  | _, .none => true
  | _, .int _ => true
  | _, .str x => PyData.strOk x
  | n + 1, .list xs => xs.all (pl n)
  | n + 1, .tuple xs => xs.all (pl n)
  | _, _ => false
theorem pl_lay : ∀ (n : Nat) (d : PyData), pl n d = true → PyData.canLay0 d = true ∧ d.depth ≤ n := by
  intro n
  have all : ∀ (m : Nat) (ih : ∀ d : PyData, pl m d = true → PyData.canLay0 d = true ∧ d.depth ≤ m) (xs : List PyData), xs.all (pl m) = true → PyData.canLayAll0 xs = true ∧ PyData.depthAll xs ≤ m := by
    intro m ih xs h
    induction xs with
    | nil => exact ⟨rfl, Nat.zero_le _⟩
    | cons x r ih2 =>
      rw [List.all_cons, Bool.and_eq_true] at h
      obtain ⟨a1, a2⟩ := ih x h.1
      obtain ⟨b1, b2⟩ := ih2 h.2
      refine ⟨by simp only [PyData.canLayAll0, a1, b1, Bool.and_self], ?_⟩
      simp only [PyData.depthAll]
      exact Nat.max_le.mpr ⟨a2, b2⟩
  induction n with
  | zero =>
    intro d h
    cases d with
    | none => exact ⟨rfl, Nat.zero_le _⟩
    | int i => exact ⟨rfl, Nat.zero_le _⟩
    | str i => exact ⟨h, Nat.zero_le _⟩
    | bool b => cases h
    | list b => cases h
    | tuple b => cases h
    | dict b => cases h
  | succ n ih =>
    intro d h
    cases d with
    | none => exact ⟨rfl, Nat.zero_le _⟩
    | int i => exact ⟨rfl, Nat.zero_le _⟩
    | str i => exact ⟨h, Nat.zero_le _⟩
    | bool b => cases h
    | list xs =>
      have z := all n ih xs h
      exact ⟨by simp only [PyData.canLay0]; exact z.1, by simp only [PyData.depth]; omega⟩
    | tuple xs =>
      have z := all n ih xs h
      exact ⟨by simp only [PyData.canLay0]; exact z.1, by simp only [PyData.depth]; omega⟩
    | dict b => cases h
theorem pl_shaped {n : Nat} {d : PyData} (h : pl n d = true) (hn : n ≤ 64) : SeqAt.shaped d = true := by
  obtain ⟨a, b⟩ := pl_lay n d h
  unfold SeqAt.shaped
  rw [a, Bool.true_and]
  exact decide_eq_true (Nat.le_trans b hn)
theorem pl_eq : ∀ (n : Nat) (d e : PyData), pl n d = true → pl n e = true → (PyData.eqv d e = true ↔ d = e) := by
  intro n
  have all : ∀ (m : Nat) (ih : ∀ d e : PyData, pl m d = true → pl m e = true → (PyData.eqv d e = true ↔ d = e)) (xs ys : List PyData), xs.all (pl m) = true → ys.all (pl m) = true → (PyData.eqvAll xs ys = true ↔ xs = ys) := by
    intro m ih xs
    induction xs with
    | nil => intro ys _ _; cases ys <;> simp [PyData.eqvAll]
    | cons x r ih2 =>
      intro ys h h'
      cases ys with
      | nil => simp [PyData.eqvAll]
      | cons y s =>
        rw [List.all_cons, Bool.and_eq_true] at h h'
        simp only [PyData.eqvAll, Bool.and_eq_true, ih x y h.1 h'.1, ih2 s h.2 h'.2, List.cons.injEq]
  induction n with
  | zero =>
    intro d e h h'
    cases d <;> first | (cases h; done) | skip
    all_goals (cases e <;> first | (cases h'; done) | skip)
    all_goals (simp only [PyData.eqv, PyData.int.injEq, PyData.str.injEq, beq_iff_eq, reduceCtorEq, Bool.false_eq_true])
  | succ n ih =>
    intro d e h h'
    cases d <;> first | (cases h; done) | skip
    all_goals (cases e <;> first | (cases h'; done) | skip)
    all_goals first
      | (simp only [PyData.eqv, PyData.int.injEq, PyData.str.injEq, beq_iff_eq, reduceCtorEq, Bool.false_eq_true]; done)
      | (simp only [PyData.eqv, PyData.list.injEq, PyData.tuple.injEq]; exact all n ih _ _ h h')
/-! ### values of two denotations -/
section
variable {K : PySem.W.Frag} {x y z : Dn} {b : Bool}
theorem rv_of {r : R2} {u v w : V} (h : ∀ H Q, Q w H → r u v H Q) : Rv r (dV u) (dV v) (dV w) := fun G H u' v' Q sm h1 h2 q => by
  have h1 : u' = u := h1
  have h2 : v' = v := h2
  subst h1; subst h2
  exact h H Q (q w G H (.refl sm) rfl)
theorem rv_add {i j : Int} : Rv rAddU (dI i) (dI j) (dI (i + j)) := rv_of fun H Q q => .inl ⟨i, j, rfl, rfl, q⟩
theorem rv_addS {a b : List Nat} (h : a.length + b.length ≤ 100000) : Rv rAddU (dC a) (dC b) (dC (a ++ b)) := rv_of fun H Q q => .inr (.inl ⟨_, _, rfl, rfl, by
  rw [cS_len, cS_len]; exact Nat.le_trans h (by decide), by rw [cS_app]; exact q⟩)
theorem rv_sub {i j : Int} : Rv (rI0 fun i j => .int (i - j)) (dI i) (dI j) (dI (i - j)) := rv_of fun H Q q => ⟨i, j, rfl, rfl, q⟩
theorem rv_mul {i j : Int} (h : CMulW i j) : Rv rMulU (dI i) (dI j) (dI (i * j)) := rv_of fun H Q q => .inr ⟨i, j, rfl, rfl, h, q⟩
theorem rv_mulS {i j : Int} (h : CMul i j) : Rv rMulU (dI i) (dI j) (dI (i * j)) := rv_of fun H Q q => .inl ⟨i, j, rfl, rfl, h, q⟩
theorem rv_div {i j : Int} (h : CDivW i j) : Rv rDivU (dI i) (dI j) (dI (i / j)) := rv_of fun H Q q => ⟨i, j, rfl, rfl, h, q⟩
theorem rv_mod {i j : Int} (h : 0 < j) : Rv rModU (dI i) (dI j) (dI (i % j)) := rv_of fun H Q q => ⟨i, j, rfl, rfl, h, q⟩
theorem rv_pow {i j : Int} (h : CPow i j) : Rv (rI CPow fun i j => .int (i ^ j.toNat)) (dI i) (dI j) (dI (i ^ j.toNat)) := rv_of fun H Q q => ⟨i, j, rfl, rfl, h, q⟩
theorem ru_neg {i : Int} : Ru (rU fun i => .int (-i)) (dI i) (dI (-i)) := fun G H u Q sm h q => by
  have h : u = .int i := h
  subst h
  exact ⟨i, rfl, q _ G H (.refl sm) rfl⟩
theorem rv_lt {i j : Int} : Rv (rI0 fun i j => .bl (decide (i < j))) (dI i) (dI j) (dB (decide (i < j))) := rv_of fun H Q q => ⟨i, j, rfl, rfl, q⟩
theorem rv_le {i j : Int} : Rv (rI0 fun i j => .bl (decide (i ≤ j))) (dI i) (dI j) (dB (decide (i ≤ j))) := rv_of fun H Q q => ⟨i, j, rfl, rfl, q⟩
theorem rv_gt {i j : Int} : Rv (rI0 fun i j => .bl (decide (j < i))) (dI i) (dI j) (dB (decide (j < i))) := rv_of fun H Q q => ⟨i, j, rfl, rfl, q⟩
theorem rv_ge {i j : Int} : Rv (rI0 fun i j => .bl (decide (j ≤ i))) (dI i) (dI j) (dB (decide (j ≤ i))) := rv_of fun H Q q => ⟨i, j, rfl, rfl, q⟩
theorem rv_eqI {i j : Int} : Rv (rEqU K) (dI i) (dI j) (dB (decide (i = j))) := rv_of fun H Q q => .inl ⟨rfl, by
  have : decide (V.int i = V.int j) = decide (i = j) := by simp
  rw [this]; exact q⟩
theorem rv_eqS {i j : List Nat} : Rv (rEqU K) (dC i) (dC j) (dB (decide (i = j))) := rv_of fun H Q q => .inl ⟨rfl, by
  have : decide (V.str (cS i) = V.str (cS j)) = decide (i = j) := by
    by_cases h : i = j
    · subst h; simp
    · rw [decide_eq_false h, decide_eq_false fun z => h (cS_inj (V.str.inj z))]
  rw [this]; exact q⟩
theorem rv_eqB {i j : Bool} : Rv (rEqU K) (dB i) (dB j) (dB (decide (i = j))) := rv_of fun H Q q => .inl ⟨rfl, by
  have : decide (V.bl i = V.bl j) = decide (i = j) := by simp
  rw [this]; exact q⟩
theorem rv_neI {i j : Int} : Rv (rNeU K) (dI i) (dI j) (dB (!decide (i = j))) := rv_of fun H Q q => .inl ⟨rfl, by
  have : decide (V.int i = V.int j) = decide (i = j) := by simp
  rw [this]; exact q⟩
theorem rv_neS {i j : List Nat} : Rv (rNeU K) (dC i) (dC j) (dB (!decide (i = j))) := rv_of fun H Q q => .inl ⟨rfl, by
  have : decide (V.str (cS i) = V.str (cS j)) = decide (i = j) := by
    by_cases h : i = j
    · subst h; simp
    · rw [decide_eq_false h, decide_eq_false fun z => h (cS_inj (V.str.inj z))]
  rw [this]; exact q⟩
theorem rv_neB {i j : Bool} : Rv (rNeU K) (dB i) (dB j) (dB (!decide (i = j))) := rv_of fun H Q q => .inl ⟨rfl, by
  have : decide (V.bl i = V.bl j) = decide (i = j) := by simp
  rw [this]; exact q⟩
theorem rv_eqD {q q' : PyData} (n : Nat) (h1 : Dq K x q) (h2 : Dq K y q') (p1 : pl n q = true) (p2 : pl n q' = true) (hn : n ≤ 64) (hb : q = q' ↔ b = true) : Rv (rEqU K) x y (dB b) := fun G H u v Q sm a1 a2 k =>
  .inr ⟨q, q', Dp_mono sm (h1 G u a1), Dp_mono sm (h2 G v a2), pl_shaped p1 hn, pl_shaped p2 hn, by
    have e : PyData.eqv q q' = b := by
      rw [Bool.eq_iff_iff, pl_eq n q q' p1 p2]; exact hb
    rw [e]; exact k _ G H (.refl sm) rfl⟩
theorem rv_neD {q q' : PyData} (n : Nat) (h1 : Dq K x q) (h2 : Dq K y q') (p1 : pl n q = true) (p2 : pl n q' = true) (hn : n ≤ 64) (hb : q = q' ↔ b = true) : Rv (rNeU K) x y (dB (!b)) := fun G H u v Q sm a1 a2 k =>
  .inr ⟨q, q', Dp_mono sm (h1 G u a1), Dp_mono sm (h2 G v a2), pl_shaped p1 hn, pl_shaped p2 hn, by
    have e : PyData.eqv q q' = b := by
      rw [Bool.eq_iff_iff, pl_eq n q q' p1 p2]; exact hb
    rw [e]; exact k _ G H (.refl sm) rfl⟩
theorem qR_inj {r s : Rat} : qR r = qR s ↔ r = s := by
  constructor
  · intro h
    simp only [qR, PyData.tuple.injEq, List.cons.injEq, PyData.int.injEq, and_true] at h
    exact Rat.ext h.1 (by omega)
  · intro h; rw [h]
theorem rv_eqR {r s : Rat} : Rv (rEqU K) (dR K r) (dR K s) (dB (decide (r = s))) := rv_eqD 1 (dq_R r) (dq_R s) rfl rfl (by decide) (by rw [qR_inj, decide_eq_true_iff])
theorem rv_neR {r s : Rat} : Rv (rNeU K) (dR K r) (dR K s) (dB (!decide (r = s))) := rv_neD 1 (dq_R r) (dq_R s) rfl rfl (by decide) (by rw [qR_inj, decide_eq_true_iff])
theorem rv_isN : Rv (fun x y H Q => y = .non ∧ Q (.bl (decide (x = .non))) H) dN dN (dB true) := rv_of fun H Q q => ⟨rfl, q⟩
/-- None asked of what is not None -/
theorem rv_isN0 (h : ∀ G v, x.p G v → v ≠ .non) : Rv (fun x y H Q => y = .non ∧ Q (.bl (decide (x = .non))) H) x dN (dB false) := fun G H u v Q sm a1 a2 k => by
  have a2 : v = .non := a2
  refine ⟨a2, ?_⟩
  rw [decide_eq_false (h G u a1)]
  exact k _ G H (.refl sm) rfl
theorem rv_notN : Rv (fun x y H Q => y = .non ∧ Q (.bl (!decide (x = .non))) H) dN dN (dB false) := rv_of fun H Q q => ⟨rfl, q⟩
theorem rv_notN0 (h : ∀ G v, x.p G v → v ≠ .non) : Rv (fun x y H Q => y = .non ∧ Q (.bl (!decide (x = .non))) H) x dN (dB true) := fun G H u v Q sm a1 a2 k => by
  have a2 : v = .non := a2
  refine ⟨a2, ?_⟩
  rw [decide_eq_false (h G u a1)]
  exact k _ G H (.refl sm) rfl
/-! ### items -/
theorem rv_ixT {ds : List Dn} {n : Int} (m : Nat) (hn : n = (m : Int)) (hd : ds[m]? = some z) : Rv (rIx K) (dT K ds) (dI n) z := fun G H u v Q sm ⟨a, vs, e, t, r⟩ h2 k => by
  have h2 : v = .int n := h2
  subst e; subst h2
  obtain ⟨w, ew, pw⟩ := r.get hd
  exact .inr (.inl ⟨a, vs, n, w, rfl, rfl, (Le.of sm).tup t, at_of hn ew, k w G H (.refl sm) pw⟩)
theorem rv_ixL {ds : List Dn} {n : Int} (m : Nat) (hn : n = (m : Int)) (hd : ds[m]? = some z) : Rv (rIx K) (dL K ds) (dI n) z := fun G H u v Q sm ⟨a, vs, e, t, r⟩ h2 k => by
  have h2 : v = .int n := h2
  subst e; subst h2
  obtain ⟨w, ew, pw⟩ := r.get hd
  exact .inl ⟨a, vs, n, w, rfl, rfl, (Le.of sm).lst t, at_of hn ew, k w G H (.refl sm) pw⟩
theorem rv_R0 {r : Rat} : Rv (rIx K) (dR K r) (dI 0) (dI r.num) := fun G H u v Q sm h1 h2 k => rv_ixT (K := K) (ds := [dI r.num, dI (r.den : Int)]) 0 rfl rfl G H u v Q sm (dR_dT h1) h2 k
theorem rv_R1 {r : Rat} : Rv (rIx K) (dR K r) (dI 1) (dI (r.den : Int)) := fun G H u v Q sm h1 h2 k => rv_ixT (K := K) (ds := [dI r.num, dI (r.den : Int)]) 1 rfl rfl G H u v Q sm (dR_dT h1) h2 k
theorem rv_ixS {l : List Nat} {n : Int} {c : Nat} (m : Nat) (hn : n = (m : Int)) (hl : l.length ≤ 100000) (hc : l[m]? = some c) : Rv (rIx K) (dC l) (dI n) (dC [c]) := fun G H u v Q sm h1 h2 k => by
  have h1 : u = .str (cS l) := h1
  have h2 : v = .int n := h2
  subst h1; subst h2
  refine .inr (.inr ⟨cS l, n, c, rfl, rfl, by rw [cS_len]; exact Nat.le_trans hl (by decide), ?_, k _ G H (.refl sm) rfl⟩)
  have e : (cS l).cps.toList = l := by simp [cS]
  rw [e, hn]
  exact atI_nat hc
/-! ### built-ins -/
theorem Reps_one {G : Hp} {d : Dn} {us : List V} (h : Reps G [d] us) : ∃ u, us = [u] ∧ d.p G u := by
  cases us with
  | nil => exact h.elim
  | cons u r =>
    cases r with
    | nil => exact ⟨u, rfl, h.1⟩
    | cons _ _ => exact h.2.elim
theorem Reps_two {G : Hp} {d e : Dn} {us : List V} (h : Reps G [d, e] us) : ∃ u w, us = [u, w] ∧ d.p G u ∧ e.p G w := by
  cases us with
  | nil => exact h.elim
  | cons u r =>
    obtain ⟨w, e, q⟩ := Reps_one h.2
    subst e
    exact ⟨u, w, rfl, h.1, q⟩
theorem rc_of {r : List V → Hp → VK → Prop} {us : List V} {w : V} (h : ∀ H Q, Q w H → r us H Q) : Rc r (us.map dV) (dV w) := fun G H us' Q sm h1 q => by
  have e : us' = us := by
    have := Reps.mapVeq (G := G) (fun v : V => v) (xs := us) h1
    simpa using this
  subst e
  exact h H Q (q w G H (.refl sm) rfl)
theorem rc_abs {i : Int} : Rc (fun xs H Q => ∃ i, xs = [.int i] ∧ Q (.int (if i < 0 then -i else i)) H) [dI i] (dI (i.natAbs : Int)) := fun G H us Q sm h k => by
  have e := Reps.mapVeq V.int (xs := [i]) h
  subst e
  refine ⟨i, rfl, ?_⟩
  have : (if i < 0 then -i else i) = (i.natAbs : Int) := by split <;> omega
  rw [this]
  exact k _ G H (.refl sm) rfl
/-- len of whatever has one -/
def rLenU (K : PySem.W.Frag) : List V → Hp → VK → Prop := fun xs H Q => (∃ p ys, xs = [.ref p] ∧ (SqL K H p ys ∨ SqT K H p ys) ∧ Q (.int ys.length) H) ∨ ((∃ z, xs = [.str z] ∧ z.length ≤ sizeLine ∧ Q (.int z.length) H) ∨ ∃ a kvs, xs = [V.ref a] ∧ H a = some (.dK kvs) ∧ Q (.int kvs.length) H)
theorem call_lenU {X : Cx} : CallR X (.builtin "len") (rLenU X.K) := call_len_seq.or (call_len_str.or call_lenD)
theorem rc_lenL {ds : List Dn} : Rc (rLenU K) [dL K ds] (dI (ds.length : Int)) := fun G H us Q sm h k => by
  obtain ⟨u, e, h1⟩ := Reps_one h
  subst e
  · obtain ⟨a, vs, e2, t, r⟩ := h1
    subst e2
    have e3 := r.len
    refine .inl ⟨a, vs, rfl, .inl ((Le.of sm).lst t), k (.int (vs.length : Int)) G H (.refl sm) ?_⟩
    show V.int _ = V.int _
    rw [e3]
theorem rc_lenT {ds : List Dn} : Rc (rLenU K) [dT K ds] (dI (ds.length : Int)) := fun G H us Q sm h k => by
  obtain ⟨u, e, h1⟩ := Reps_one h
  subst e
  · obtain ⟨a, vs, e2, t, r⟩ := h1
    subst e2
    have e3 := r.len
    refine .inl ⟨a, vs, rfl, .inr ((Le.of sm).tup t), k (.int (vs.length : Int)) G H (.refl sm) ?_⟩
    show V.int _ = V.int _
    rw [e3]
theorem rc_lenR {r : Rat} : Rc (rLenU K) [dR K r] (dI 2) := fun G H us Q sm h k => by
  obtain ⟨u, e, h1⟩ := Reps_one h
  subst e
  exact rc_lenT (K := K) (ds := [dI r.num, dI (r.den : Int)]) G H [u] Q sm ⟨dR_dT h1, True.intro⟩ k
theorem rc_lenS {l : List Nat} (hl : l.length ≤ 100000) : Rc (rLenU K) [dC l] (dI (l.length : Int)) := fun G H us Q sm h k => by
  have e := Reps.mapVeq (fun l => V.str (cS l)) (xs := [l]) h
  subst e
  refine .inr (.inl ⟨cS l, rfl, by rw [cS_len]; exact Nat.le_trans hl (by decide), k (.int ((cS l).length : Int)) G H (.refl sm) ?_⟩)
  show V.int _ = V.int _
  rw [cS_len]
/-! ### isinstance -/
theorem TyX_mono {H H' : Hp} (h : Same H H') {v : V} {t : Value} (x : TyX K H v t) : TyX K H' v t := by
  cases x with
  | base b => exact .base (by
      cases b with
      | non => exact .non
      | bl x => exact .bl x
      | int i => exact .int i
      | str x => exact .str x
      | flt x => exact .flt x
      | lst e => exact .lst (h _ _ e)
      | frz e => exact .frz (h _ _ e)
      | tup e => exact .tup (h _ _ e)
      | dK e => exact .dK (h _ _ e)
      | dT e => exact .dT (h _ _ e)
      | ins e cl ha hn htk hm => exact .ins (h _ _ e) cl ha hn htk hm)
  | byt b => exact .byt b
  | set e => exact .set (h _ _ e)
  | kList e c => exact .kList e c
  | kTuple e c => exact .kTuple e c
  | kDict e c => exact .kDict e c
  | fTuple e => exact .fTuple (h _ _ e)
  | fDict e => exact .fDict (h _ _ e)
/-- what denotes d is of the type t -/
def Ty (K : PySem.W.Frag) (d : Dn) (t : Value) : Prop := ∀ G v, d.p G v → TyX K G v t
theorem ty_I {i : Int} : Ty K (dI i) (.type "int") := fun G v h => by
  have h : v = .int i := h
  subst h; exact .base (.int i)
theorem ty_B {i : Bool} : Ty K (dB i) (.type "bool") := fun G v h => by
  have h : v = .bl i := h
  subst h; exact .base (.bl i)
theorem ty_N : Ty K dN (.type "NoneType") := fun G v h => by
  have h : v = .non := h
  subst h; exact .base .non
theorem ty_S {i : Str} : Ty K (dS i) (.type "str") := fun G v h => by
  have h : v = .str i := h
  subst h; exact .base (.str i)
theorem ty_T {ds : List Dn} : Ty K (dT K ds) (.type "tuple") := fun G v ⟨a, vs, e, t, r⟩ => by
  subst e
  rcases t with (t | ⟨o, t⟩) | ⟨o, its, n, t, c, _⟩
  · exact .base (.tup t)
  · exact .fTuple t
  · exact .kTuple t c
theorem ty_R {r : Rat} : Ty K (dR K r) (.type "tuple") := fun G v h => ty_T (K := K) G v (dR_dT h)
theorem ty_L {ds : List Dn} : Ty K (dL K ds) (.type "list") := fun G v ⟨a, vs, e, t, r⟩ => by
  subst e
  rcases t with (t | ⟨o, t⟩) | ⟨o, its, n, t, c, _⟩
  · exact .base (.lst t)
  · exact .base (.frz t)
  · exact .kList t c
def rIsiU (K : PySem.W.Frag) : List V → Hp → VK → Prop := fun xs H Q => rIsi K xs H Q ∨ rIsiT K xs H Q
theorem call_isiU {X : Cx} : CallR X (.builtin "isinstance") (rIsiU X.K) := call_isi.or call_isiT
theorem rc_isi {t u : Value} {c : V} (ht : Ty K x t) (hc : ClsV c u) (hk : PySem.W.kitOne K t u = some b) : Rc (rIsiU K) [x, dV c] (dB b) := fun G H us Q sm h k => by
  obtain ⟨u1, u2, e, h1, h2⟩ := Reps_two h
  subst e
  have e : u2 = c := h2
  subst e
  exact .inl ⟨u1, u2, t, u, b, rfl, hc, TyX_mono sm (ht G u1 h1), hk, k _ G H (.refl sm) rfl⟩
/-- a built-in class -/
theorem rc_isiB {t n : String} (ht : Ty K x (.type t)) (hk : kitB t n = some b) : Rc (rIsiU K) [x, dV (.ty n)] (dB b) := rc_isi ht (.ty n) (kit_ty hk)
end
end HM
/-! Fractions: what the program's reckoning comes to, in Rat. -/
namespace HM
open PySem L2
theorem gcd_pos_of {t b : Int} (h : 0 < b) : 0 < (Nat.gcd t.natAbs b.natAbs : Nat) := Nat.gcd_pos_of_pos_right _ (by omega)
theorem frac_num {t b : Int} (h : 0 < b) : t / ((Nat.gcd t.natAbs b.natAbs : Nat) : Int) = (Rat.divInt t b).num := by
  rw [Rat.num_divInt, Int.sign_eq_one_of_pos h, Int.one_mul]
  show t / _ = t / ((Nat.gcd b.natAbs t.natAbs : Nat) : Int)
  rw [Nat.gcd_comm]
theorem frac_den {t b : Int} (h : 0 < b) : b / ((Nat.gcd t.natAbs b.natAbs : Nat) : Int) = ((Rat.divInt t b).den : Int) := by
  rw [Rat.den_divInt, if_neg (by omega)]
  show b / _ = ((b.natAbs / Nat.gcd b.natAbs t.natAbs : Nat) : Int)
  rw [Nat.gcd_comm, Int.natCast_ediv]
  congr 1
  omega
theorem frac_neg (t b : Int) : Rat.divInt (-t) (-b) = Rat.divInt t b := Rat.neg_divInt_neg t b
/-- sizes -/
def Sz (n : Nat) (r : Rat) : Prop := r.num.natAbs < 2 ^ n ∧ r.den < 2 ^ n
theorem Sz.mono {n m : Nat} {r : Rat} (h : Sz n r) (l : n ≤ m) : Sz m r := ⟨Nat.lt_of_lt_of_le h.1 (Nat.pow_le_pow_right (by decide) l), Nat.lt_of_lt_of_le h.2 (Nat.pow_le_pow_right (by decide) l)⟩
theorem num_le {t b : Int} : (Rat.divInt t b).num.natAbs ≤ t.natAbs := by
  rw [Rat.num_divInt]
  refine Nat.le_trans (Int.natAbs_ediv_le_natAbs _ _) ?_
  rw [Int.natAbs_mul]
  have : b.sign.natAbs ≤ 1 := by
    rcases Int.lt_trichotomy b 0 with h | h | h
    · rw [Int.sign_eq_neg_one_of_neg h]; decide
    · subst h; decide
    · rw [Int.sign_eq_one_of_pos h]; decide
  calc b.sign.natAbs * t.natAbs ≤ 1 * t.natAbs := Nat.mul_le_mul_right _ this
    _ = t.natAbs := Nat.one_mul _
theorem den_le {t b : Int} (h : b ≠ 0) : (Rat.divInt t b).den ≤ b.natAbs := by
  rw [Rat.den_divInt, if_neg h]
  exact Nat.div_le_self _ _
theorem Sz.div {n : Nat} {t b : Int} (h : b ≠ 0) (h1 : t.natAbs < 2 ^ n) (h2 : b.natAbs < 2 ^ n) : Sz n (Rat.divInt t b) := ⟨Nat.lt_of_le_of_lt num_le h1, Nat.lt_of_le_of_lt (den_le h) h2⟩
theorem den_pos' (r : Rat) : (0 : Int) < (r.den : Int) := by have := r.den_pos; omega
theorem den_ne (r : Rat) : (r.den : Int) ≠ 0 := by have := r.den_pos; omega
theorem self_div (r : Rat) : Rat.divInt r.num (r.den : Int) = r := Rat.num_divInt_den r
theorem add_div (r s : Rat) : Rat.divInt (r.num * (s.den : Int) + s.num * (r.den : Int)) ((r.den : Int) * (s.den : Int)) = r + s := by
  rw [← Rat.divInt_add_divInt _ _ (den_ne r) (den_ne s), self_div, self_div]
theorem sub_div (r s : Rat) : Rat.divInt (r.num * (s.den : Int) - s.num * (r.den : Int)) ((r.den : Int) * (s.den : Int)) = r - s := by
  rw [← Rat.divInt_sub_divInt _ _ (den_ne r) (den_ne s), self_div, self_div]
theorem mul_div (r s : Rat) : Rat.divInt (r.num * s.num) ((r.den : Int) * (s.den : Int)) = r * s := by
  rw [← Rat.divInt_mul_divInt, self_div, self_div]
theorem quo_div (r s : Rat) : Rat.divInt (r.num * (s.den : Int)) ((r.den : Int) * s.num) = r / s := by
  rw [← Rat.divInt_mul_divInt, self_div, ← Rat.inv_divInt, self_div, Rat.div_def]
theorem lt_div (r s : Rat) : (r.num * (s.den : Int) < s.num * (r.den : Int)) ↔ r < s := (Rat.lt_iff r s).symm
theorem pow_mul_lt {a b n m : Nat} (h1 : a < 2 ^ n) (h2 : b < 2 ^ m) : a * b < 2 ^ (n + m) := by
  rw [Nat.pow_add]; exact Nat.mul_lt_mul'' h1 h2
theorem add_lt_pow {a b n : Nat} (h1 : a < 2 ^ n) (h2 : b < 2 ^ n) : a + b < 2 ^ (n + 1) := by rw [Nat.pow_succ]; omega
theorem Sz.mulnn {n m : Nat} {r s : Rat} (h1 : Sz n r) (h2 : Sz m s) : (r.num * s.num).natAbs < 2 ^ (n + m) := by rw [Int.natAbs_mul]; exact pow_mul_lt h1.1 h2.1
theorem Sz.muldd {n m : Nat} {r s : Rat} (h1 : Sz n r) (h2 : Sz m s) : ((r.den : Int) * (s.den : Int)).natAbs < 2 ^ (n + m) := by rw [Int.natAbs_mul]; exact pow_mul_lt (by simpa using h1.2) (by simpa using h2.2)
theorem Sz.mulnd {n m : Nat} {r s : Rat} (h1 : Sz n r) (h2 : Sz m s) : (r.num * (s.den : Int)).natAbs < 2 ^ (n + m) := by rw [Int.natAbs_mul]; exact pow_mul_lt h1.1 (by simpa using h2.2)
theorem Sz.muldn {n m : Nat} {r s : Rat} (h1 : Sz n r) (h2 : Sz m s) : ((r.den : Int) * s.num).natAbs < 2 ^ (n + m) := by rw [Int.natAbs_mul]; exact pow_mul_lt (by simpa using h1.2) h2.1
theorem Sz.add {n m : Nat} {r s : Rat} (h1 : Sz n r) (h2 : Sz m s) : Sz (n + m + 1) (r + s) := by
  rw [← add_div]
  refine Sz.div (Int.mul_ne_zero (den_ne r) (den_ne s)) ?_ (Nat.lt_of_lt_of_le (h1.muldd h2) (Nat.pow_le_pow_right (by decide) (Nat.le_succ _)))
  refine Nat.lt_of_le_of_lt (Int.natAbs_add_le _ _) (add_lt_pow (h1.mulnd h2) ?_)
  have := h2.mulnd h1
  rwa [Nat.add_comm m n] at this
theorem Sz.sub {n m : Nat} {r s : Rat} (h1 : Sz n r) (h2 : Sz m s) : Sz (n + m + 1) (r - s) := by
  rw [← sub_div]
  refine Sz.div (Int.mul_ne_zero (den_ne r) (den_ne s)) ?_ (Nat.lt_of_lt_of_le (h1.muldd h2) (Nat.pow_le_pow_right (by decide) (Nat.le_succ _)))
  refine Nat.lt_of_le_of_lt (Int.natAbs_sub_le _ _) (add_lt_pow (h1.mulnd h2) ?_)
  have := h2.mulnd h1
  rwa [Nat.add_comm m n] at this
theorem Sz.mul {n m : Nat} {r s : Rat} (h1 : Sz n r) (h2 : Sz m s) : Sz (n + m) (r * s) := by
  rw [← mul_div]
  exact Sz.div (Int.mul_ne_zero (den_ne r) (den_ne s)) (h1.mulnn h2) (h1.muldd h2)
theorem Sz.quo {n m : Nat} {r s : Rat} (h1 : Sz n r) (h2 : Sz m s) : Sz (n + m) (r / s) := by
  by_cases z : s = 0
  · subst z
    have : r / 0 = 0 := by rw [Rat.div_def, Rat.inv_zero, Rat.mul_zero]
    rw [this]
    exact ⟨Nat.two_pow_pos _, Nat.one_lt_two_pow (by
      have := h2.2
      intro q
      have : m = 0 := by omega
      subst this
      have := h2.2
      simp at this)⟩
  · rw [← quo_div]
    exact Sz.div (Int.mul_ne_zero (den_ne r) fun q => z (Rat.num_eq_zero.mp q)) (h1.mulnd h2) (h1.muldn h2)
theorem log2_le_of {a n : Nat} (h : a < 2 ^ n) : a.log2 ≤ n := by
  by_cases z : a = 0
  · subst z; exact Nat.zero_le _
  · exact Nat.le_of_lt ((Nat.log2_lt z).mpr h)
theorem mulW {i j : Int} {n m : Nat} (h1 : i.natAbs < 2 ^ n) (h2 : j.natAbs < 2 ^ m) (h : n + m < 1000000) : CMulW i j := by
  have a := log2_le_of h1
  have b := log2_le_of h2
  show _ + _ < 1000000
  omega
theorem divW {i j : Int} {n : Nat} (h0 : 0 < j) (h1 : j.natAbs < 2 ^ n) (h : n < 9000) : CDivW i j := ⟨h0, Nat.lt_of_le_of_lt (log2_le_of h1) h⟩
theorem Sz.mW0 {n m : Nat} {r s : Rat} (h1 : Sz n r) (h2 : Sz m s) (h : n + m < 1000000) : CMulW r.num s.num := mulW h1.1 h2.1 h
theorem Sz.dn {n : Nat} {r : Rat} (h : Sz n r) : ((r.den : Int)).natAbs < 2 ^ n := by simpa using h.2
theorem Sz.mW1 {n m : Nat} {r s : Rat} (h1 : Sz n r) (h2 : Sz m s) (h : n + m < 1000000) : CMulW r.num (s.den : Int) := mulW h1.1 h2.dn h
theorem Sz.mW2 {n m : Nat} {r s : Rat} (h1 : Sz n r) (h2 : Sz m s) (h : n + m < 1000000) : CMulW (r.den : Int) s.num := mulW h1.dn h2.1 h
theorem Sz.mW3 {n m : Nat} {r s : Rat} (h1 : Sz n r) (h2 : Sz m s) (h : n + m < 1000000) : CMulW (r.den : Int) (s.den : Int) := mulW h1.dn h2.dn h
theorem div_cross {t b : Int} (hb : b ≠ 0) : (Rat.divInt t b).num * b = t * ((Rat.divInt t b).den : Int) := by
  have h := self_div (Rat.divInt t b)
  exact (Rat.divInt_eq_divInt_iff (den_ne _) hb).mp h
theorem num_ne {r : Rat} (h : r ≠ 0) : r.num ≠ 0 := fun q => h (Rat.num_eq_zero.mp q)
theorem Rat.num_pos_of {r : Rat} (h : 0 < r) : 0 < r.num := by
  have h1 : 0 ≤ r.num := Rat.num_nonneg.mpr (Rat.le_of_lt h)
  have h2 : r.num ≠ 0 := fun z => by
    have e : r = 0 := Rat.num_eq_zero.mp z
    subst e
    exact Rat.lt_irrefl h
  omega
theorem Rat.divInt_pos_of {t b : Int} (ht : 0 < t) (hb : 0 < b) : 0 < Rat.divInt t b := by
  have h1 : 0 ≤ Rat.divInt t b := Rat.divInt_nonneg (Int.le_of_lt ht) (Int.le_of_lt hb)
  have h2 : Rat.divInt t b ≠ 0 := fun z => by
    have q := div_cross (t := t) (b := b) (by omega)
    rw [z] at q
    have e1 : (0 : Rat).num = 0 := rfl
    have e2 : (0 : Rat).den = 1 := rfl
    rw [e1, e2] at q
    omega
  exact Rat.lt_of_le_of_ne h1 (Ne.symm h2)
end HM
/-! Calls of the text's defs, subscripts, slices, comprehensions, errors. -/
namespace HM
open PySem L2
/-- a def as the top has left it -/
structure Df (K : PySem.W.Frag) (mg : Str → Option Value) (x : Str) (st : Stmt) (ps : List Str) (f : Addr) (fd : FuncData) : Prop where
  F : Fun K x x st f fd
  g : mg x = some (.ref f)
  b : Binds K fd ps []
section
variable {X : Cx} {CX : CXT} {k : Nat} {x : Str} {st : Stmt} {ps : List Str} {f : Addr} {fd : FuncData} {sp : Sp} {E : XK} {a b e : Expr} {es : List Expr} {t : TA} {ta tb : TE} {p pos : Pos}
theorem pe_cl (D : Df X.K X.mg x st ps f fd) (G : FnOk X.prog X.w X.K X.mg X.base CX k f fd ps sp) (hr : Room k X.A) (hx : Passes CX X E) (ha : PA X (e :: es) t) (hg : Gl X x := by rfl) (hdb : (x == ("__debug__" : Str)) = false := by decide)
    (he : starEach (e :: es) X.env = (false, eval e X.env) :: starEach es X.env := by rfl) (hpl : (backTo pos (starEach es X.env)).any (·.1) = false := by rfl) : PE X (.Call (.Name x p) (e :: es) [] pos) (tCall sp [] E t) :=
  pe_call G hr hg D.g D.F.kp D.b .nil hx ha (hdb := hdb) (he := he) (hpl := hpl)
theorem pe_clS {E : St → XK} (D : Df X.K X.mg x st ps f fd) (G : FnOk X.prog X.w X.K X.mg X.base CX k f fd ps sp) (hr : Room k X.A) (hx : ∀ σ, PassesAt CX X σ (E σ)) (ha : PA X (e :: es) t) (hg : Gl X x := by rfl) (hdb : (x == ("__debug__" : Str)) = false := by decide)
    (he : starEach (e :: es) X.env = (false, eval e X.env) :: starEach es X.env := by rfl) (hpl : (backTo pos (starEach es X.env)).any (·.1) = false := by rfl) : PE X (.Call (.Name x p) (e :: es) [] pos) (tCallS sp E t) :=
  pe_callS G hr hg D.g D.F.kp D.b hx ha (hdb := hdb) (he := he) (hpl := hpl)
/-- an item of a list, a tuple, a text; of a dict -/
def tSubU (K : PySem.W.Frag) (ta tb : TE) : TE := tAlt (tOp (rIx K) ta tb) (tDGet ta tb)
theorem pe_sub (hu : X.A.units + 1 < cLine) (ha : PE X a ta) (hb : PE X b tb) (h1 : PlainIx b := by exact fun _ _ => rfl) : PE X (.Subscript a b pos) (tSubU X.K ta tb) :=
  pe_alt (pe_ix ix_seq ha hb h1) (pe_dget hu ha hb h1)
theorem pe_subK (K : PySem.W.Frag) (hK : X.K = K) (hu : X.A.units + 1 < cLine) (ha : PE X a ta) (hb : PE X b tb) (h1 : PlainIx b := by exact fun _ _ => rfl) : PE X (.Subscript a b pos) (tSubU K ta tb) := by
  subst hK
  exact pe_sub hu ha hb h1
/-- the wish of a def that lets out what its callees raise -/
theorem passT (hs : X.stack = X.env :: X.outer) (hf : X.env.frame = some X.env.locals) (hex : X.ex = []) {E₁ : Value → Shared → Prop}
    (hx : X.xe = fun e s' => wpAny (model X.prog X.w) X.A (PySem.leaving X.env e) (fun _ s'' => L2.CX X.prog X.w X.outer X.H_0 X.s_0 E e s'') E₁ s') : Passes (L2.CX X.prog X.w) X E :=
  passes_call (takes_of hs hf hex hx) fun _ _ _ _ h => h
end
theorem passL {X : Cx} : Passes (L2.CX X.prog X.w) X (fun _ _ _ => False) := passes_call takes0 fun _ _ _ _ h => h
section
variable {E : XS} {δ : DEnv} {P : Post} {te ta tb tl : TE} {t u : TS} {d x y z : Dn} {i : Nat} {v : V} {K : PySem.W.Frag} {tt : TT}
theorem ev_sub (ha : Ev E ta δ (.ok x)) (hb : Ev E tb δ (.ok y)) (hr : Rv (rIx K) x y z) : Ev E (tSubU K ta tb) δ (.ok z) := ev_alt1 (ev_op ha hb hr)
theorem ev_str {s : Str} (l : List Nat) (h : s = cS l) : Ev E (tC (.str s)) δ (.ok (dC l)) := h ▸ ev_c
/-- an item of an own list -/
theorem ev_subO {ds : List Dn} {n : Int} (j : Nat) (m : Nat) (hj : δ[j]? = some (some (.ow (oL ds)))) (hi : Ev E tb δ (.ok (dI n))) (hn : n = (m : Int)) (hd : ds[m]? = some d) : Ev E (tSubU K (tVar j) tb) δ (.ok d) :=
  ev_alt1 (ev_ixO j m hj hi hn hd fun _ _ _ _ h => .inl h)
theorem ev_lenO {ds : List Dn} (j : Nat) (hj : δ[j]? = some (some (.ow (oL ds)))) : Ev E (tCB (rLenU K) (tCons (tVar j) tNil)) δ (.ok (dI (ds.length : Int))) := fun G0 H0 G σ H Q R q => by
  obtain ⟨a, o, e1, e2, ⟨vs, e, r⟩, e4, e5⟩ := R.ow j _ hj
  subst e
  refine ⟨_, e1, .inl ⟨a, vs, rfl, .inl (.of e2), q (.int (vs.length : Int)) G H (.refl R.sub) ?_⟩⟩
  show V.int _ = V.int _
  rw [r.len]
/-! ### comprehensions -/
theorem Rep.wipe {G0 H0 G H : Hp} {σ : St} (R : Rep G0 H0 G δ σ H) (i : Nat) : Rep G0 H0 G (δ.set i none) (σ.set i none) H := by
  have ne : ∀ (j : Nat) s, (δ.set i none)[j]? = some (some s) → i ≠ j := fun j s h q => by
    subst q
    by_cases l : i < δ.length
    · rw [List.getElem?_set_self l] at h; cases h
    · rw [List.getElem?_eq_none (by rw [List.length_set]; omega)] at h; cases h
  refine ⟨R.gr, by rw [List.length_set, List.length_set]; exact R.len, fun j d h => ?_, fun j c h => ?_, fun j k c c' a h1 h2 h3 h4 => ?_⟩
  · have q := ne j _ h
    rw [List.getElem?_set_ne q] at h ⊢
    exact R.im j d h
  · have q := ne j _ h
    rw [List.getElem?_set_ne q] at h ⊢
    exact R.ow j c h
  · have q1 := ne j _ h1
    have q2 := ne k _ h2
    rw [List.getElem?_set_ne q1] at h1 h3
    rw [List.getElem?_set_ne q2] at h2 h4
    exact R.dj j k c c' a h1 h2 h3 h4
theorem wipe_again (σ : St) (i : Nat) (v : V) : wipe ((wipe σ [i]).set i (some v)) [i] = wipe σ [i] := by
  show ((σ.set i none).set i (some v)).set i none = σ.set i none
  rw [List.set_set, List.set_set]
/-- what stands while a comprehension's list at D is made -/
structure LcOk (G1 H1 : Hp) (D : Addr) (es : List Dn) (H : Hp) : Prop where
  ex : ∃ G' vs, Gr G1 H1 G' H ∧ G' D = none ∧ H D = some (.lst vs) ∧ Reps G' es vs
theorem lc_turn {G0 H0 G1 H1 H : Hp} {σ : St} {D : Addr} {es : List Dn} {g : Dn} {v : V} {b : Bool} {Nx : Hp → Prop} (R1 : Rep G0 H0 G1 δ σ H1) (hD : H1 D = none) (L : LcOk G1 H1 D es H) (pv : g.p G1 v) (hl : es.length < 100000)
    (ht : Et E tt ((δ.set i none).set i (some (.im g))) b) (he : b = true → Ev E te ((δ.set i none).set i (some (.im g))) (.ok d)) (k1 : b = true → ∀ H', LcOk G1 H1 D (es ++ [d]) H' → Nx H') (k0 : b = false → ∀ H', LcOk G1 H1 D es H' → Nx H') :
    gName i v (wipe σ [i]) H fun σ2 H2 => wipe σ2 [i] = wipe σ [i] ∧ tt σ2 H2 fun b H3 => if b = true then te σ2 H3 fun y H4 => ∃ acc, H4 D = some (.lst acc) ∧ acc.length < sizeLine ∧ Nx (upd H4 D (.lst (acc ++ [y]))) else Nx H3 := by
  obtain ⟨G2, vs, g2, d2, hd2, r2⟩ := L.ex
  have R2 : Rep G0 H0 G2 ((δ.set i none).set i (some (.im g))) ((wipe σ [i]).set i (some v)) H := ((R1.go g2).wipe i).set (g.mono (.of g2.le) pv) i
  refine ⟨wipe_again σ i v, ht G0 H0 G2 _ H _ R2 fun G3 H3 g3 => ?_⟩
  have d3 : G3 D = none := by
    cases q : G3 D with
    | none => rfl
    | some u =>
      have z := g3.new D d2 (by rw [q]; exact fun z => nomatch z)
      rw [hd2] at z; cases z
  have h3 := g3.ext D _ hd2
  cases b with
  | true =>
    refine iteT (he rfl G0 H0 G3 _ H3 _ (R2.go g3) fun w G4 H4 g4 p4 => ?_)
    have d4 : G4 D = none := by
      cases q : G4 D with
      | none => rfl
      | some u =>
        have z := g4.new D d3 (by rw [q]; exact fun z => nomatch z)
        rw [h3] at z; cases z
    have h4 := g4.ext D _ h3
    refine ⟨vs, h4, by rw [r2.len]; exact Nat.lt_of_lt_of_le hl (by decide), k1 rfl _ ⟨G4, _, ?_, d4, upd_same, (r2.mono (.of (g3.le.trans g4.le))).app ⟨p4, True.intro⟩⟩⟩
    have g := g2.trans (g3.trans g4)
    exact ⟨g.le, fun a u e => by rw [upd_ne (ne_of_none e d4)]; exact g.sub a u e, fun a u e => by rw [upd_ne (ne_of_none e hD)]; exact g.ext a u e, g.new⟩
  | false => exact iteF (k0 rfl _ ⟨G3, vs, g2.trans g3, d3, h3, r2.mono (.of g3.le)⟩)
theorem filter_take {α : Type} {xs : List α} {n : Nat} {x : α} (b : α → Bool) (h : xs[n]? = some x) : (xs.take (n + 1)).filter b = (xs.take n).filter b ++ (if b x = true then [x] else []) := by
  have e : xs.take (n + 1) = xs.take n ++ [x] := by
    rw [List.take_add_one, h]; rfl
  rw [e, List.filter_append]
  congr 1
  simp only [List.filter_cons, List.filter_nil]
theorem eo_lcL {α : Type} (xs : List α) (g : α → Dn) (b : α → Bool) (e : α → Dn) (h : Ev E tl δ (.ok (dL K (xs.map g)))) (hl : xs.length ≤ 10000) (ht : ∀ x, x ∈ xs → Et E tt ((δ.set i none).set i (some (.im (g x)))) (b x))
    (he : ∀ x, x ∈ xs → b x = true → Ev E te ((δ.set i none).set i (some (.im (g x)))) (.ok (e x))) : Ev E (tLc (iList K tl) (gName i) tt te [i]) δ (.own (oL ((xs.filter b).map e))) := fun G0 H0 G σ H Q R q => by
  refine h G0 H0 G σ H _ R fun v G1 H1 g1 ⟨a, vs, ev, sq, rp⟩ => ?_
  subst ev
  refine ⟨a, rfl, ⟨vs, (Le.of g1.sub).lst sq⟩, fun D hD => ?_⟩
  have R1 := R.go g1
  have g1D : G1 D = none := g1.sub.free hD
  refine lc_list (K := K) (a := a) (xs := vs) (fun n H' => LcOk G1 H1 D (((xs.take n).filter b).map e) H') ?_ ?_ ?_ ?_
  · exact ⟨G1, [], .skip g1.sub hD, g1D, upd_same, True.intro⟩
  · rintro n H' _ ⟨G2, us, g2, _⟩
    exact ((Le.of g2.le).trans (.of g2.sub)).lst sq
  · rintro n x H' ex L
    obtain ⟨dx, edx, pdx⟩ := rp.getV ex
    rw [List.getElem?_map] at edx
    obtain ⟨y, ey, rfl⟩ := Option.map_eq_some_iff.mp edx
    have my : y ∈ xs := List.mem_of_getElem? ey
    have ft := filter_take b ey
    refine lc_turn (d := e y) R1 hD L pdx ?_ (ht y my) (he y my) ?_ ?_
    · rw [List.length_map]
      refine Nat.lt_of_le_of_lt (List.length_filter_le _ _) ?_
      rw [List.length_take]
      omega
    · intro hb H'' L'
      rw [ft, if_pos hb, List.map_append]
      exact L'
    · intro hb H'' L'
      rw [ft, if_neg (by rw [hb]; decide), List.append_nil]
      exact L'
  · rintro H' L
    rw [rp.len, List.length_map, List.take_length] at L
    obtain ⟨G2, us, g2, d2, hd2, r2⟩ := L.ex
    exact q D _ G2 H' (g1.trans g2) (g1.ext.free hD) d2 hd2 ⟨us, rfl, r2⟩
theorem eo_lcR {ta : TA} {n : Int} (b : Nat → Bool) (e : Nat → Dn) (h : Ea E ta δ [dI n]) (hn : 0 ≤ n ∧ n ≤ 10000) (ht : ∀ k : Nat, (k : Int) < n → Et E tt ((δ.set i none).set i (some (.im (dI (k : Int))))) (b k))
    (he : ∀ k : Nat, (k : Int) < n → b k = true → Ev E te ((δ.set i none).set i (some (.im (dI (k : Int))))) (.ok (e k))) : Ev E (tLc (iRng1 ta) (gName i) tt te [i]) δ (.own (oL (((List.range n.toNat).filter b).map e))) := fun G0 H0 G σ H Q R q => by
  refine h G0 H0 G σ H _ R fun vs G1 H1 g1 rp => ?_
  have e' := Reps.mapVeq V.int (xs := [n]) rp
  subst e'
  have bb : (2 : Int) ^ 62 = 4611686018427387904 := by decide
  refine ⟨n, rfl, by rw [bb]; omega, by rw [bb]; omega, fun D hD => ?_⟩
  have R1 := R.go g1
  have g1D : G1 D = none := g1.sub.free hD
  refine lc_range (lo := 0) (n := n.toNat) (fun k H' => LcOk G1 H1 D (((List.range k).filter b).map e) H') ?_ ?_ ?_
  · exact ⟨G1, [], .skip g1.sub hD, g1D, upd_same, True.intro⟩
  · rintro k H' hk L
    have ft : (List.range (k + 1)).filter b = (List.range k).filter b ++ (if b k = true then [k] else []) := by
      rw [List.range_succ, List.filter_append]
      congr 1
      simp only [List.filter_cons, List.filter_nil]
    refine lc_turn (d := e k) (g := dI (k : Int)) R1 hD L (by rw [Int.zero_add]; rfl) ?_ (ht k (by omega)) (he k (by omega)) ?_ ?_
    · rw [List.length_map]
      refine Nat.lt_of_le_of_lt (List.length_filter_le _ _) ?_
      rw [List.length_range]
      omega
    · intro hb H'' L'
      rw [ft, if_pos hb, List.map_append]
      exact L'
    · intro hb H'' L'
      rw [ft, if_neg (by rw [hb]; decide), List.append_nil]
      exact L'
  · rintro H' L
    obtain ⟨G2, us, g2, d2, hd2, r2⟩ := L.ex
    exact q D _ G2 H' (g1.trans g2) (g1.ext.free hD) d2 hd2 ⟨us, rfl, r2⟩
theorem et_yes : Et E tYes δ true := fun G0 H0 G σ H Q R q => q G H (.refl R.sub)
/-! ### errors -/
/-- try: tb except c as n: ts (slot i) -/
def tTryA (K : PySem.W.Frag) (c : Value) (i : Nat) (ts : Addr → Value → Option Addr → TS) (Wout : WX) (tb : WX → TS) : TS := fun D σ H => tb (wAs K c i ts Wout D) D σ H
def tTryN (K : PySem.W.Frag) (c : Value) (ts : Addr → Value → Option Addr → TS) (Wout : WX) (tb : WX → TS) : TS := fun D σ H => tb (wOnly K c ts Wout D) D σ H
theorem sx_try_ok {c : Value} {ts : Addr → Value → Option Addr → TS} {Wout : WX} {tb : WX → TS} (h : ∀ W, Sx (WE W) (tb W) δ { P with ex := fun _ _ => False }) : Sx E (tTryA K c i ts Wout tb) δ P := fun G0 H0 G σ H D R hd =>
  h _ G0 H0 G σ H D R ⟨hd.nx, hd.rt, hd.bk, hd.ct, fun _ _ _ _ _ z => z.elim⟩
theorem sx_try_ex {c : Value} {c' : Addr} {ts : Addr → Value → Option Addr → TS} {Wout : WX} {tb : WX → TS} (h : ∀ W, Sx (WE W) (tb W) δ { nx := fun _ => False, rt := .im dF, ex := fun x δ' => x = c' ∧ δ' = δ }) (hm : PySem.W.exmOne K (.ref c') c = some true)
    (hs : ∀ a, Sx E (ts a (.ref c') none) (δ.set i (some (.im (dV (.ref a))))) { P with nx := fun δ' => P.nx (δ'.set i none), bk := fun δ' => P.bk (δ'.set i none), ct := fun δ' => P.ct (δ'.set i none), ex := fun _ _ => False }) :
    Sx E (tTryA K c i ts Wout tb) δ P := fun G0 H0 G σ H D R hd =>
  h _ G0 H0 G σ H D R ⟨fun _ _ _ _ z => z.elim, fun _ _ _ _ z => z.elim, fun _ _ _ _ z => z.elim, fun _ _ _ _ z => z.elim, fun x δ' G' σ' H' z R' l => by
    obtain ⟨rfl, rfl⟩ := z
    refine ⟨true, hm, fun _ a na => ?_, fun q => nomatch q⟩
    refine hs a G0 H0 G' _ H' _ (R'.set (d := dV (.ref a)) rfl i) ⟨?_, hd.rt, ?_, ?_, ?_⟩
    · intro δ2 G2 σ2 H2 p R2 l2
      exact hd.nx _ G2 _ H2 p (R2.wipe i) (l.trans l2)
    · intro δ2 G2 σ2 H2 p R2 l2
      exact hd.bk _ G2 _ H2 p (R2.wipe i) (l.trans l2)
    · intro δ2 G2 σ2 H2 p R2 l2
      exact hd.ct _ G2 _ H2 p (R2.wipe i) (l.trans l2)
    · intro _ _ _ _ _ z
      exact z.elim⟩
/-- try .. except X: without a name -/
theorem sx_tryN_ok {c : Value} {ts : Addr → Value → Option Addr → TS} {Wout : WX} {tb : WX → TS} (h : ∀ W, Sx (WE W) (tb W) δ { P with ex := fun _ _ => False }) : Sx E (tTryN K c ts Wout tb) δ P := fun G0 H0 G σ H D R hd =>
  h _ G0 H0 G σ H D R ⟨hd.nx, hd.rt, hd.bk, hd.ct, fun _ _ _ _ _ z => z.elim⟩
theorem sx_tryN_ex {c : Value} {c' : Addr} {ts : Addr → Value → Option Addr → TS} {Wout : WX} {tb : WX → TS} (h : ∀ W, Sx (WE W) (tb W) δ { nx := fun _ => False, rt := .im dF, ex := fun x δ' => x = c' ∧ δ' = δ }) (hm : PySem.W.exmOne K (.ref c') c = some true)
    (hs : ∀ a, Sx E (ts a (.ref c') none) δ { P with ex := fun _ _ => False }) : Sx E (tTryN K c ts Wout tb) δ P := fun G0 H0 G σ H D R hd =>
  h _ G0 H0 G σ H D R ⟨fun _ _ _ _ z => z.elim, fun _ _ _ _ z => z.elim, fun _ _ _ _ z => z.elim, fun _ _ _ _ z => z.elim, fun x δ' G' σ' H' z R' l => by
    obtain ⟨rfl, rfl⟩ := z
    refine ⟨true, hm, fun _ a na => ?_, fun q => nomatch q⟩
    refine hs a G0 H0 G' _ H' _ R' ⟨?_, hd.rt, ?_, ?_, ?_⟩
    · intro δ2 G2 σ2 H2 p R2 l2
      exact hd.nx _ G2 _ H2 p R2 (l.trans l2)
    · intro δ2 G2 σ2 H2 p R2 l2
      exact hd.bk _ G2 _ H2 p R2 (l.trans l2)
    · intro δ2 G2 σ2 H2 p R2 l2
      exact hd.ct _ G2 _ H2 p R2 (l.trans l2)
    · intro _ _ _ _ _ z
      exact z.elim⟩
end
/-- an own error class over ValueError (without own __init__) -/
structure XcOk (K : PySem.W.Frag) (mg : Str → Option Value) (x : Str) (C : Addr) : Prop where
  q : PySem.W.excIn K C [.type "ValueError", .type "Exception", .type "BaseException", .type "object"] "ValueError.__new__" = true
  g : mg x = some (.ref C)
  k : PySem.W.keepIn K (.ref C) = true
  b : PySem.W.subIn K (.ref C) (.type "BaseException") = some true
  t : PySem.W.typeIn K (.ref C) = some (.type "type")
  s : PySem.W.subIn K (.ref C) (.ref C) = some true
  e : ExcC K C
theorem pmk {X : Cx} {x m : Str} {C : Addr} {j : Nat} {p p2 pos : Pos} (T : XcOk X.K X.mg x C) (hg : Gl X x := by rfl) (hdb : (x == ("__debug__" : Str)) = false := by decide) :
    PMk X (.Call (.Name x p) [.Constant (.str m) j p2] [] pos) (fun _ H Q => Q (.ref C) none H) := pmk_own PySem.F.excBase_ValueError T.q T.g T.k (raises_own T.b T.t) hg hdb
section
variable {K : PySem.W.Frag} {mg : Str → Option Value} {x y : Str} {C D : Addr} {b : Bool}
theorem exm (T : XcOk K mg x C) (h : PySem.W.subIn K (.ref D) (.ref C) = some b) : PySem.W.exmOne K (.ref D) (.ref C) = some b := PySem.W.exm_ref T.b T.e.hd T.t h
theorem kit_c (T : XcOk K mg x C) (h : PySem.W.subIn K (.ref D) (.ref C) = some b) (hs : PySem.W.subIn K (.ref D) (.ref D) = some true) : PySem.W.kitOne K (.ref D) (.ref C) = some b := by
  unfold PySem.W.kitOne
  split
  · rename_i e
    have e : D = C := by simpa using e
    subst e
    rw [hs] at h
    exact h
  · unfold PySem.W.kitCls
    have hi : (PySem.W.clsIn K C).isSome = true := by
      obtain ⟨cd, hc, _⟩ := PySem.W.any_some T.e.hd
      rw [hc]; rfl
    have h2 : ((PySem.W.clsIn K C).isSome && PySem.W.typeIn K (.ref C) == some (.type "type")) = true := by
      rw [hi, T.t] <;> rfl
    simp only [h2, if_true]
    exact h
theorem kit_v {n : String} (h : PySem.W.subIn K (.ref D) (.type n) = some b) (hk : PySem.W.kitMeta n = true) : PySem.W.kitOne K (.ref D) (.type n) = some b := by
  unfold PySem.W.kitOne
  rw [if_neg (by simp)]
  unfold PySem.W.kitCls
  simp only [hk, if_true]
  exact h
end
section
variable {X : Cx} {Wout : WX} {tb : WX → TS} {i : Nat} {n x : Str} {c : Value} {body suite : List Stmt} {b₀ : Stmt} {np pos pos' : Pos} {ts : Addr → Value → Option Addr → TS}
theorem ps_tryA (hs : X.stack = X.env :: X.outer) (hf : X.env.frame = some X.env.locals) (hN : X.N.Nodup) (hi : X.N[i]? = some n) (hln : X.env.kindOf n = some .local) (hc : Names X x c) (tk : Takes X Wout)
    (hb : ∀ (W : WX) (pn : List (Addr × Obj)) (xe : Value → Shared → Prop), Takes (X.tr pn xe) W → PassesOwn (model X.prog X.w) X.A X.env xe → PSs (X.tr pn xe) body (tb W))
    (hsu : ∀ (a : Addr) (oe : Obj) (cls : Value) (d : Option Addr) (pn : List (Addr × Obj)), Zc cls d oe → (∃ vs, oe.data = .fields vs) → PSs (X.suite a ((a, oe) :: pn)) (b₀ :: suite) (ts a cls d)) :
    PS X (.Try body [.ExceptHandler (some (.Name x np)) (some n) (b₀ :: suite) pos'] [] [] pos) (tTryA X.K c i ts Wout tb) := ps_try_as hs hf hN hi hln hc tk hb hsu
theorem ps_tryN (hs : X.stack = X.env :: X.outer) (hf : X.env.frame = some X.env.locals) (hc : Names X x c) (tk : Takes X Wout)
    (hb : ∀ (W : WX) (pn : List (Addr × Obj)) (xe : Value → Shared → Prop), Takes (X.tr pn xe) W → PassesOwn (model X.prog X.w) X.A X.env xe → PSs (X.tr pn xe) body (tb W))
    (hsu : ∀ (a : Addr) (oe : Obj) (cls : Value) (d : Option Addr) (pn : List (Addr × Obj)), Zc cls d oe → (∃ vs, oe.data = .fields vs) → PSs (X.suite a ((a, oe) :: pn)) (b₀ :: suite) (ts a cls d)) :
    PS X (.Try body [.ExceptHandler (some (.Name x np)) none (b₀ :: suite) pos'] [] [] pos) (tTryN X.K c ts Wout tb) := ps_try_only hs hf hc tk hb hsu
end
/-- what law(script) is worth -/
def SLaw (K : PySem.W.Frag) : Sem' := fun ds r => ∃ ns : List Int, ns.length ≤ 63 ∧ ds = [dL K (ns.map fun i => dI i)] ∧ r = .ok (dB true)
theorem law_sp {K : PySem.W.Frag} {H : Hp} {a : Addr} {ns : List Int} (hl : ns.length ≤ 63) (hS : SqL K H a (ns.map V.int)) : spD (SLaw K) [.ref a] H (fun v _ => v = .bl true) fun _ _ _ => False :=
  ⟨H, _, _, ⟨ns, hl, rfl, rfl⟩, ⟨⟨a, _, rfl, hS, Reps.mapV V.int ns⟩, True.intro⟩, .refl H, fun v G' H' g p => p⟩
/-- a tuple that was just laid -/
def dTX (ds : List Dn) : Dn := ⟨fun G v => ∃ a vs, v = .ref a ∧ G a = some (.tup vs) ∧ Reps G ds vs, fun h ⟨a, vs, e, t, r⟩ => ⟨a, vs, e, h.get t (fun _ z => nomatch z) (fun _ _ z => nomatch z), r.mono h⟩⟩
theorem ev_tupX {E : XS} {δ : DEnv} {ta : TA} {ds : List Dn} (h : Ea E ta δ ds) (hl : ds.length ≤ 1000) : Ev E (tTup ta) δ (.ok (dTX ds)) := fun G0 H0 G σ H Q R q =>
  h G0 H0 G σ H _ R fun vs G1 H1 g1 p1 => ⟨Nat.le_of_lt (small1000 (by rw [p1.len]; exact hl)), fun p hp =>
    q (.ref p) _ _ (g1.trans (.add (o := .tup vs) g1.sub hp)) ⟨p, vs, rfl, upd_same, p1.mono (.of (Same.new (g1.sub.free hp) _))⟩⟩
/-- isinstance(e, c), isinstance(e, (c1, c2)), e the error that the suite holds -/
def rIsEU (K : PySem.W.Frag) (a : Addr) (cls : Value) (d : Option Addr) : List V → Hp → VK → Prop := fun xs H Q => ∃ D, cls = .ref D ∧ d = none ∧ ExcC K D ∧
  (rIsE K D a xs H Q ∨ ∃ (tp : Addr) (cs : List V) (us : List Value) (b : Bool), xs = [.ref a, .ref tp] ∧ H tp = some (.tup cs) ∧ Paired ClsV cs us ∧ PySem.W.kitAny K (.ref D) us = some b ∧ Q (.bl b) H)
theorem call_isEU {X : Cx} {a : Addr} {cls : Value} {d : Option Addr} {oe : Obj} {pn : List (Addr × Obj)} (hz : Zc cls d oe) (hf : ∃ vs, oe.data = .fields vs) : CallR (X.suite a ((a, oe) :: pn)) (.builtin "isinstance") (rIsEU X.K a cls d) := by
  intro pins s σ H xs us Q I r h
  obtain ⟨D, rfl, rfl, C, h⟩ := h
  rcases h with h | ⟨tp, cs, ws, b, rfl, hT, k, e, q⟩
  · exact call_isE C hz hf pins s σ H xs us Q I r h
  · obtain ⟨u1, u2, rfl, r1, r2⟩ := vals2 r
    cases (show u1 = Value.ref a from r1)
    cases (show u2 = Value.ref tp from r2)
    obtain ⟨hget, _⟩ := I.pin (a, oe) (List.mem_append.mpr (.inl List.mem_cons_self))
    obtain ⟨vs, hv⟩ := hf
    have J : PySem.W.InstAt s.heap a oe D none := by
      obtain ⟨oc, od, oda, osl⟩ := oe
      obtain ⟨h1, h2⟩ := hz
      dsimp only at h1 h2 hv
      subst h1 h2 hv
      exact ⟨hget, rfl, rfl, trivial⟩
    obtain ⟨_, its, rv, o, h1, h2, n, h3⟩ := (show ObjOk X.prog X.w H s.heap tp (.tup cs) from I.hok tp _ hT)
    have e3 := ClsV.all k rv
    subst e3
    obtain ⟨oc, od, dt, sl⟩ := o
    simp only at h2 h3
    subst h2 h3
    exact PySem.W.kia_tup (PySem.W.handS_kitx_exc C.hg C.hk C.hs C.hd C.ha C.hn C.ht C.hm) I.kIn J h1 e (fun z => nomatch z) fun tk => ⟨.bl b, H, I.tok tk, rfl, q⟩
section
variable {K : PySem.W.Frag} {a D : Addr} {b : Bool}
theorem rc_isE {c : V} {u : Value} (C : ExcC K D) (hc : ClsV c u) (hk : PySem.W.kitOne K (.ref D) u = some b) : Rc (rIsEU K a (.ref D) none) [dV (.ref a), dV c] (dB b) := fun G H us Q sm h k => by
  obtain ⟨u1, u2, e, h1, h2⟩ := Reps_two h
  have h1 : u1 = .ref a := h1
  have h2 : u2 = c := h2
  rw [h1, h2] at e
  subst e
  exact ⟨D, rfl, rfl, C, .inl ⟨c, u, b, rfl, fun _ r => hc.eq r, hk, k _ G H (.refl sm) rfl⟩⟩
theorem rc_isE2 {c1 c2 : V} {u1 u2 : Value} (C : ExcC K D) (hc1 : ClsV c1 u1) (hc2 : ClsV c2 u2) (hk1 : PySem.W.kitOne K (.ref D) u1 = some false) (hk2 : PySem.W.kitOne K (.ref D) u2 = some b) :
    Rc (rIsEU K a (.ref D) none) [dV (.ref a), dTX [dV c1, dV c2]] (dB b) := fun G H us Q sm h k => by
  obtain ⟨w1, w2, e, h1, h2⟩ := Reps_two h
  have h1 : w1 = .ref a := h1
  subst h1
  obtain ⟨tp, vs, e2, t, r⟩ := h2
  obtain ⟨v1, v2, e3, h3, h4⟩ := Reps_two r
  have h3 : v1 = c1 := h3
  have h4 : v2 = c2 := h4
  subst h3 h4 e3 e2 e
  refine ⟨D, rfl, rfl, C, .inr ⟨tp, _, [u1, u2], b, rfl, sm _ _ t, .cons hc1 (.cons hc2 .nil), ?_, k _ G H (.refl sm) rfl⟩⟩
  exact kitAny_cons hk1 (fun _ => kitAny_cons hk2 (fun z => by rw [z]; exact kitAny_nil) fun z => z) fun z => nomatch z
end
end HM
/-! Dicts with text keys by their lookup, sorted of any number of texts, instances of own classes. -/
namespace HM
open PySem L2
/-! ### sorted, of any number of texts -/
def tLtV (a b : Str) : Bool := decide (a.cps.toList < b.cps.toList)
def ltVal (x y : Value) : Bool := tLtV (PyProof.Rows.strOf x) (PyProof.Rows.strOf y)
theorem natl_lt_asymm {a b : List Nat} (h : a < b) : ¬ b < a := List.lt_asymm h
theorem natl_trans {a b c : List Nat} (h1 : ¬ a < b) (h2 : ¬ b < c) : ¬ a < c := fun h => by
  have h1' : b ≤ a := List.not_lt.mp h1
  have h2' : c ≤ b := List.not_lt.mp h2
  have h3 : c ≤ a := List.le_trans h2' h1'
  exact List.not_lt.mpr h3 h
theorem swo_txt : SrtO.Swo ltVal := ⟨fun x y h => decide_eq_false (natl_lt_asymm (of_decide_eq_true h)), fun x y z h1 h2 => decide_eq_false (natl_trans (of_decide_eq_false h2) (of_decide_eq_false h1))⟩
open PyProof.Rows in
theorem txt_all {vs : List Value} {ks : List Str} (h : StrsAre vs ks) {v : Value} (m : v ∈ vs) : ∃ x t, v = .str x t := by
  obtain ⟨x, t, e⟩ := h.all v m
  exact ⟨x, t, e⟩
open PyProof.Rows Srt in
theorem txt_sortable {prog : Program} {w : World} {A : Around} {s : Shared} {a : Addr} {vs : List Value} {ks : List Str} (h2 : 2 ≤ vs.length) (hS : StrsAre vs ks) : SrtO.SortableO prog w A s a vs ltVal := by
  intro h' _
  refine ⟨oneType', fun Q E q => ?_, fun p r hp hr => ?_⟩
  · match vs, h2, hS with
    | v1 :: v2 :: rest, _, hS =>
      rw [keyKind_strs hS]
      exact wpAny_pure q
  · obtain ⟨x, t, ex⟩ := txt_all hS hp
    obtain ⟨y, u, ey⟩ := txt_all hS hr
    rw [keyLt'_oneType, ex, ey]
    refine oneLt_str ?_
    refine ⟨rfl, ?_⟩
    show _ = ltVal p.1 r.1
    rw [ex, ey]
    rfl
open PyProof.Rows in
theorem txt_sorted {vs out : List Value} {ks : List Str} (hS : StrsAre vs ks) (h1 : SrtO.Srtd ltVal out) (h2 : SrtO.Stb ltVal out vs) :
    ∃ ys, StrsAre out ys ∧ ys.Perm ks ∧ ys.Pairwise fun a b => ¬ b.cps.toList < a.cps.toList := by
  refine ⟨out.map strOf, strsAre_map out fun v hv => hS.all v (h2.perm.mem_iff.mp hv), ?_, ?_⟩
  · have e := h2.perm.map strOf
    rwa [hS.strs] at e
  · rw [List.pairwise_map]
    exact List.Pairwise.imp (fun h => of_decide_eq_false h) h1
def rSortedD : List V → Hp → VK → Prop := fun xs H Q => ∃ (a : Addr) (kvs : List (Key × V)) (ks : List Str), xs = [.ref a] ∧ Rd H a (.dK kvs) ∧ kvs.map (·.1) = ks.map Sum.inr ∧ ks.length ≤ 100000 ∧
    ∀ (ys : List Str) (p : Addr), ys.Perm ks → (ys.Pairwise fun a b => ¬ b.cps.toList < a.cps.toList) → H p = none → Q (.ref p) (upd H p (.lst (ys.map V.str)))
open PyProof.Rows in
theorem txts_at : ∀ {us : List Value} {ks : List Str}, us.length = ks.length → (∀ (j : Nat) (v : Value), us[j]? = some v → ∃ (x : Str) (t : Tok), ks[j]? = some x ∧ v = .str x t) → StrsAre us ks
  | [], [], _, _ => .nil
  | u :: us, k :: ks, l, h => by
    obtain ⟨x, t, e1, e2⟩ := h 0 u rfl
    have e1 : k = x := Option.some.inj e1
    subst e1; subst e2
    exact .cons _ _ (txts_at (Nat.succ.inj l) fun j v e => h (j + 1) v e)
open PyProof.Rows in
theorem keys_str {prog : Program} {w : World} {acc : List Value} {vs : List (Key × Value)} {ks : List Str} (hl : acc.length = ks.length) (hv : vs.map (·.1) = ks.map Sum.inr)
    (h : ∀ (j : Nat) (v : Value), acc[j]? = some v → ∃ (k : Key) (x : Value), vs[j]? = some (k, x) ∧ (mixKind prog w).is k v = true) : StrsAre acc ks := by
  refine txts_at hl fun j v e => ?_
  obtain ⟨k, x, e1, e2⟩ := h j v e
  have e3 : (vs.map (·.1))[j]? = some k := by rw [List.getElem?_map, e1] <;> rfl
  rw [hv, List.getElem?_map] at e3
  obtain ⟨y, e4, e5⟩ := Option.map_eq_some_iff.mp e3
  subst e5
  obtain ⟨t, ev⟩ := Value.isStrOf_shape (x := y) (v := v) e2
  exact ⟨y, t, e4, ev⟩
open PyProof.Rows in
theorem call_sortedDO {X : Cx} (hcalm : X.calm = true) : CallR X (.builtin "sorted") rSortedD := by
  rintro pins s σ H xs us Q I r ⟨a, kvs, ks, rfl, hd, hks, hlen, q⟩
  obtain ⟨u, rfl, rx⟩ := vals1 r
  cases rx
  obtain ⟨z, lo, vs, rel, dd⟩ := dk_rd I.hok hd
  obtain ⟨ep, hat⟩ := dd.dictAt
  have hkeys : vs.map (·.1) = ks.map Sum.inr := by rw [← hks]; exact rel.keys.symm
  have hl : vs.length = ks.length := by simpa using congrArg List.length hkeys
  have hz : ks.length ≤ sizeLine := Nat.le_trans hlen (by decide)
  refine Calls.call_function_entry kind_sorted plain_sorted entry_sorted (args_sorted1 _) ?_
  unfold Builtin.«sorted»
  refine wpAny_bind (m := checkCount "sorted" 1 1 _) (wpAny_pure (wpAny_bind (PySem.W.kdu_collect (A := X.A.in1) (PySem.W.kdl_dict (knd := mixKind X.prog X.w) (kvs := vs) (ep := ep) lo) (I.ok.hd hcalm) hat (hl ▸ hz) fun h' tk acc hk hacc => ?_)))
  have hal : acc.toList.length = ks.length := by rw [Array.length_toList, hacc.1, hl]
  have hS : StrsAre acc.toList ks := keys_str (prog := X.prog) (w := X.w) hal hkeys fun j v e => hacc.2 j v (by rw [← Array.getElem?_toList]; exact e)
  have I1 : Inv X pins σ H { s with heap := h', toks := tk } := I.kept hk
  have hsz : acc.toList.length ≤ sizeLine := hal ▸ hz
  have hoL := Heap.get?_push_size (o := seqObj "list" acc.toList.toArray 0) h' rfl
  refine wpAny_bind (wpAny_newList (wpAny_bind (wpAny_holding (wpAny_call_entry slot_list_sort ⟨_, hoL, rfl⟩ entry_list_sort (SrtO.list_sort_ord swo_txt hoL hsz (fun h2 => txt_sortable h2 hS) fun out o1 o2 => ⟨_, rfl, ?_⟩) (args_list_sort _)))) hsz)
  obtain ⟨ys, g1, g2, g3⟩ := txt_sorted hS o1 o2
  obtain ⟨e', he'⟩ := sortedHeap_at (vs := acc.toList) (out := out.toArray) hoL
  refine wpAny_pure ⟨_, rfl, .ref h'.objs.size, upd H h'.objs.size (.lst (ys.map V.str)), ?_, rfl, q ys _ g2 g3 (I1.hok.fresh (Nat.le_refl _))⟩
  refine I1.laid (t' := tk) (fun b u e => ?_) (Nat.le_refl _) (show ObjOk X.prog X.w _ _ _ (.lst (ys.map V.str)) from ⟨by rw [List.length_map, g2.length_eq]; exact hz, out, e', vals_of_strs g1, he'⟩)
  have hb : b < h'.objs.size := Heap.lt_size e
  rw [sortedHeap_old (Nat.ne_of_lt hb) (by rw [size_push']; exact Nat.lt_succ_of_lt hb)]
  exact Heap.get?_push_of_some _ e
end HM
/-! Dicts with text keys, known by their lookup. -/
namespace HM
open PySem L2
def Fit (φ : List Nat → Option Dn) (rs : List (List Nat × Dn)) : Prop := (rs.map (·.1)).Nodup ∧ ∀ p, rs.lookup p = φ p
def kvD (rs : List (List Nat × Dn)) : List (Str × Dn) := rs.map fun p => (cS p.1, p.2)
def dFn (φ : List Nat → Option Dn) : Dn := ⟨fun G v => ∃ rs, Fit φ rs ∧ (dD (kvD rs)).p G v, fun h ⟨rs, f, p⟩ => ⟨rs, f, Dn.mono _ h p⟩⟩
def oFn (φ : List Nat → Option Dn) : On := ⟨fun G a o => ∃ rs, Fit φ rs ∧ (oD (kvD rs)).p G a o, fun h ⟨rs, f, p⟩ => ⟨rs, f, On.mono _ h p⟩⟩
theorem Fit.nil : Fit (fun _ => none) [] := ⟨List.nodup_nil, fun _ => rfl⟩
theorem lk_in {rs : List (List Nat × Dn)} {p : List Nat} : (rs.lookup p).isSome = true ↔ p ∈ rs.map (·.1) := by
  induction rs with
  | nil => simp
  | cons a r ih =>
    rw [List.lookup_cons, List.map_cons, List.mem_cons]
    by_cases h : p = a.1
    · subst h; simp
    · have : (p == a.1) = false := by simpa using h
      rw [this]; simp only [ih, h, false_or]
theorem Fit.mem {φ : List Nat → Option Dn} {rs : List (List Nat × Dn)} (f : Fit φ rs) {p : List Nat} : p ∈ rs.map (·.1) ↔ (φ p).isSome = true := by rw [← f.2 p, lk_in]
theorem nd_len {α : Type} [DecidableEq α] : ∀ {l L : List α}, l.Nodup → (∀ x, x ∈ l → x ∈ L) → l.length ≤ L.length
  | [], _, _, _ => Nat.zero_le _
  | a :: r, L, h, hs => by
    have ha := hs a List.mem_cons_self
    have h2 := List.nodup_cons.mp h
    have ih := nd_len (l := r) (L := L.erase a) h2.2 fun x hx => (List.mem_erase_of_ne fun e => h2.1 (by rw [← e]; exact hx)).mpr (hs x (List.mem_cons_of_mem _ hx))
    have := List.length_erase_of_mem ha
    have hp := List.length_pos_of_mem ha
    rw [List.length_cons]
    omega
theorem Fit.len {φ : List Nat → Option Dn} {rs : List (List Nat × Dn)} (f : Fit φ rs) {L : List (List Nat)} (h : ∀ p, (φ p).isSome = true → p ∈ L) : rs.length ≤ L.length := by
  have := nd_len f.1 fun p hp => h p (f.mem.mp hp)
  rwa [List.length_map] at this
theorem Fit.perm {φ : List Nat → Option Dn} {rs : List (List Nat × Dn)} (f : Fit φ rs) {L : List (List Nat)} (h : ∀ p, p ∈ L ↔ (φ p).isSome = true) (hn : L.Nodup) : (rs.map (·.1)).Perm L :=
  (List.perm_ext_iff_of_nodup f.1 hn).mpr fun p => by rw [f.mem, h]
theorem valV_cons {p : Key × V} {r : List (Key × V)} {k : Key} : valV (p :: r) k = if p.1 = k then some p.2 else valV r k := by
  by_cases h : p.1 = k
  · rw [if_pos h, valV_pos h]
  · rw [if_neg h, valV_neg h]
theorem inr_cS {a b : List Nat} : ((Sum.inr (cS a) : Key) = Sum.inr (cS b)) ↔ a = b := ⟨fun h => cS_inj (Sum.inr.inj h), fun h => by rw [h]⟩
theorem RepsK.val {G : Hp} : ∀ {rs : List (List Nat × Dn)} {kws : List (Key × V)}, RepsK G (kvD rs) kws → ∀ p, match rs.lookup p with
    | some d => ∃ v, valV kws (.inr (cS p)) = some v ∧ d.p G v
    | none => valV kws (.inr (cS p)) = none
  | [], [], _, p => rfl
  | a :: r, k :: ks, h, p => by
    obtain ⟨h1, h2, h3⟩ := h
    have ih := RepsK.val (rs := r) h3 p
    rw [List.lookup_cons, valV_cons, h1]
    by_cases e : p = a.1
    · have e1 : (p == a.1) = true := by simpa using e
      rw [e1, if_pos (inr_cS.mpr e.symm)]
      exact ⟨k.2, rfl, h2⟩
    · have e1 : (p == a.1) = false := by simpa using e
      rw [e1, if_neg (fun z => e (inr_cS.mp z).symm)]
      exact ih
  | [], _ :: _, h, _ => h.elim
  | _ :: _, [], h, _ => h.elim
theorem RepsK.keys {G : Hp} : ∀ {rs : List (List Nat × Dn)} {kws : List (Key × V)}, RepsK G (kvD rs) kws → kws.map (·.1) = (rs.map (·.1)).map fun p => Sum.inr (cS p)
  | [], [], _ => rfl
  | a :: r, k :: ks, h => by
    rw [List.map_cons, List.map_cons, List.map_cons, RepsK.keys (rs := r) h.2.2, h.1]
  | [], _ :: _, h => h.elim
  | _ :: _, [], h => h.elim
def putD (rs : List (List Nat × Dn)) (p : List Nat) (d : Dn) : List (List Nat × Dn) := if (rs.any fun kv => decide (kv.1 = p)) = true then rs.map (fun kv => if kv.1 = p then (kv.1, d) else kv) else rs ++ [(p, d)]
theorem RepsK.app {G : Hp} : ∀ {a b : List (Str × Dn)} {x y : List (Key × V)}, RepsK G a x → RepsK G b y → RepsK G (a ++ b) (x ++ y)
  | [], _, [], _, _, h => h
  | _ :: _, _, _ :: _, _, h, h' => ⟨h.1, h.2.1, RepsK.app h.2.2 h'⟩
  | [], _, _ :: _, _, h, _ => h.elim
  | _ :: _, _, [], _, h, _ => h.elim
theorem RepsK.any {G : Hp} {p : List Nat} : ∀ {rs : List (List Nat × Dn)} {kws : List (Key × V)}, RepsK G (kvD rs) kws → (kws.any fun kv => decide (kv.1 = .inr (cS p))) = rs.any fun kv => decide (kv.1 = p)
  | [], [], _ => rfl
  | a :: r, k :: ks, h => by
    rw [List.any_cons, List.any_cons, RepsK.any (rs := r) h.2.2, h.1]
    congr 1
    exact decide_eq_decide.mpr inr_cS
  | [], _ :: _, h => h.elim
  | _ :: _, [], h => h.elim
theorem RepsK.upd {G : Hp} {p : List Nat} {d : Dn} {v : V} (pv : d.p G v) : ∀ {rs : List (List Nat × Dn)} {kws : List (Key × V)}, RepsK G (kvD rs) kws →
    RepsK G (kvD (rs.map fun kv => if kv.1 = p then (kv.1, d) else kv)) (kws.map fun kv => if kv.1 = .inr (cS p) then (kv.1, v) else kv)
  | [], [], _ => True.intro
  | a :: r, k :: ks, h => by
    obtain ⟨h1, h2, h3⟩ := h
    have ih := RepsK.upd (p := p) pv (rs := r) h3
    have h1' : k.1 = Sum.inr (cS a.1) := h1
    rw [List.map_cons, List.map_cons]
    by_cases e : a.1 = p
    · rw [if_pos e, if_pos (h1'.trans (inr_cS.mpr e))]
      exact ⟨h1, pv, ih⟩
    · rw [if_neg e, if_neg (fun z => e (inr_cS.mp (h1'.symm.trans z)))]
      exact ⟨h1, h2, ih⟩
  | [], _ :: _, h => h.elim
  | _ :: _, [], h => h.elim
theorem RepsK.put {G : Hp} {p : List Nat} {d : Dn} {v : V} (pv : d.p G v) {rs : List (List Nat × Dn)} {kws : List (Key × V)} (h : RepsK G (kvD rs) kws) : RepsK G (kvD (putD rs p d)) (putK kws (.inr (cS p)) v) := by
  unfold putD putK
  rw [h.any]
  by_cases e : (rs.any fun kv => decide (kv.1 = p)) = true
  · rw [if_pos e, if_pos e]
    exact h.upd pv
  · rw [if_neg e, if_neg e]
    unfold kvD
    rw [List.map_append]
    exact RepsK.app h ⟨rfl, pv, True.intro⟩
theorem lk_map {rs : List (List Nat × Dn)} {p q : List Nat} {d : Dn} (hp : p ∈ rs.map (·.1)) : (rs.map fun kv => if kv.1 = p then (kv.1, d) else kv).lookup q = if q = p then some d else rs.lookup q := by
  induction rs with
  | nil => cases hp
  | cons a r ih =>
    rw [List.map_cons, List.lookup_cons, List.lookup_cons]
    by_cases e : a.1 = p
    · rw [if_pos e]
      subst e
      by_cases z : q = a.1
      · subst z; simp
      · have z1 : (q == a.1) = false := by simpa using z
        simp only [z1, if_neg z]
        by_cases m : a.1 ∈ r.map (·.1)
        · rw [ih m, if_neg z]
        · have : (r.map fun kv => if kv.1 = a.1 then (kv.1, d) else kv) = r := by
            conv => rhs; rw [← List.map_id r]
            refine List.map_congr_left fun kv hk => ?_
            rw [if_neg fun w : kv.1 = a.1 => m (List.mem_map.mpr ⟨kv, hk, w⟩)]
            rfl
          rw [this]
    · rw [if_neg e]
      have hp' : p ∈ r.map (·.1) := by
        rcases List.mem_cons.mp hp with w | w
        · exact absurd w.symm e
        · exact w
      by_cases z : q = a.1
      · subst z; simp [e]
      · have z1 : (q == a.1) = false := by simpa using z
        simp only [z1]
        exact ih hp'
theorem Fit.put {φ : List Nat → Option Dn} {rs : List (List Nat × Dn)} {p : List Nat} {d : Dn} (f : Fit φ rs) : Fit (fun q => if q = p then some d else φ q) (putD rs p d) := by
  unfold putD
  by_cases e : (rs.any fun kv => decide (kv.1 = p)) = true
  · rw [if_pos e]
    have hm : p ∈ rs.map (·.1) := by
      obtain ⟨kv, h1, h2⟩ := List.any_eq_true.mp e
      exact List.mem_map.mpr ⟨kv, h1, of_decide_eq_true h2⟩
    refine ⟨?_, fun q => ?_⟩
    · have : (rs.map fun kv => if kv.1 = p then (kv.1, d) else kv).map (·.1) = rs.map (·.1) := by
        rw [List.map_map]
        refine List.map_congr_left fun kv _ => ?_
        show (if kv.1 = p then (kv.1, d) else kv).1 = kv.1
        split <;> rfl
      rw [this]; exact f.1
    · rw [lk_map hm, f.2 q]
  · rw [if_neg e]
    have hm : ¬ p ∈ rs.map (·.1) := fun z => e (by
      obtain ⟨kv, h1, h2⟩ := List.mem_map.mp z
      exact List.any_eq_true.mpr ⟨kv, h1, decide_eq_true h2⟩)
    refine ⟨?_, fun q => ?_⟩
    · rw [List.map_append]
      refine List.nodup_append.mpr ⟨f.1, by simp, fun a ha b hb => ?_⟩
      have hb : b = p := by simpa using hb
      rintro rfl
      exact hm (hb ▸ ha)
    · rw [List.lookup_append, f.2 q]
      by_cases z : q = p
      · subst z
        have hn : φ q = none := by
          cases h : φ q with
          | none => rfl
          | some x => exact absurd (f.mem.mpr (by rw [h]; rfl)) hm
        rw [hn]
        simp
      · have z1 : (q == p) = false := by simpa using z
        show _ = if q = p then some d else φ q
        rw [if_neg z]
        simp [List.lookup_cons, z1]
section
variable {E : XS} {δ : DEnv} {P : Post} {te ta tb tl : TE} {t u : TS} {d x y z : Dn} {i : Nat} {v : V} {K : PySem.W.Frag} {tt : TT} {φ : List Nat → Option Dn} {p : List Nat}
/-- an item of a dict -/
theorem ev_getD (ha : Ev E ta δ (.ok (dFn φ))) (hb : Ev E tb δ (.ok (dC p))) (hd : φ p = some d) : Ev E (tSubU K ta tb) δ (.ok d) := ev_alt2 (r := .ok d) fun G0 H0 G σ H Q R q =>
  ha G0 H0 G σ H _ R fun u G1 H1 g1 ⟨rs, f, a, kws, e, r, k⟩ => hb G0 H0 G1 σ H1 _ (R.go g1) fun w G2 H2 g2 p2 => by
    have p2 : w = .str (cS p) := p2
    subst e; subst p2
    have h := k.val p
    rw [f.2 p, hd] at h
    obtain ⟨v, e1, e2⟩ := h
    exact ⟨a, v, rfl, .inl ⟨kws, .inr (cS p), (Le.of g2.sub).rd ((Le.of g2.le).rd r), rfl, e1.symm⟩, q v G2 H2 (g1.trans g2) (d.mono (.of g2.le) e2)⟩
/-- an item of an own dict -/
theorem ev_getO (j : Nat) (hj : δ[j]? = some (some (.ow (oFn φ)))) (hb : Ev E tb δ (.ok (dC p))) (hd : φ p = some d) : Ev E (tSubU K (tVar j) tb) δ (.ok d) := ev_alt2 (r := .ok d) fun G0 H0 G σ H Q R q => by
  obtain ⟨a, o, e1, e2, ⟨rs, f, kws, e, k⟩, e4, e5⟩ := R.ow j _ hj
  subst e
  refine ⟨_, e1, hb G0 H0 G σ H _ R fun w G2 H2 g2 p2 => ?_⟩
  have p2 : w = .str (cS p) := p2
  subst p2
  have h := k.val p
  rw [f.2 p, hd] at h
  obtain ⟨v, e6, e7⟩ := h
  exact ⟨a, v, rfl, .inl ⟨kws, .inr (cS p), .inl (g2.ext a _ e2), rfl, e6.symm⟩, q v G2 H2 g2 (d.mono (.of g2.le) e7)⟩
/-- own dict: a store -/
theorem sx_dput (j : Nat) (hj : δ[j]? = some (some (.ow (oFn φ)))) (hv : Ev E te δ (.ok d)) (hb : Ev E tb δ (.ok (dC p))) (L : List (List Nat)) (hL : ∀ q, (φ q).isSome = true → q ∈ L) (hl : L.length ≤ 100000)
    (k : P.nx (δ.set j (some (.ow (oFn fun q => if q = p then some d else φ q))))) : Sx E (sDPut (tVar j) tb te) δ P := fun G0 H0 G σ H D R hd =>
  hv G0 H0 G σ H _ R fun v G1 H1 g1 p1 => by
    have R1 := R.go g1
    obtain ⟨a, o, e1, e2, ⟨rs, f, kws, e, kk⟩, e4, e5⟩ := R1.ow j _ hj
    subst e
    refine ⟨_, e1, hb G0 H0 G1 σ H1 _ R1 fun w G2 H2 g2 p2 => ?_⟩
    have p2 : w = .str (cS p) := p2
    subst p2
    have R2 := R1.go g2
    have hk : kws.length < sizeLine := by
      have h1 := f.len hL
      have h2 : kws.length = rs.length := by simpa using congrArg List.length kk.keys
      rw [h2]
      exact Nat.lt_of_le_of_lt (Nat.le_trans h1 hl) (by decide)
    refine ⟨a, _, rfl, DPut.k (k := .inr (cS p)) (g2.ext a _ e2) hk, ?_⟩
    exact hd.nx _ G2 _ _ k (R2.mut hj e1 ⟨_, f.put, _, rfl, (kk.mono (.of g2.le)).put (d.mono (.of g2.le) p1)⟩) (g1.le.trans g2.le)
theorem call_lenDR {X : Cx} : CallR X (.builtin "len") (fun xs H Q => ∃ a kvs, xs = [V.ref a] ∧ Rd H a (.dK kvs) ∧ Q (.int kvs.length) H) := by
  rintro pins s σ H xs us Q I r ⟨a, kvs, rfl, ha, q⟩
  obtain ⟨u, rfl, ru⟩ := vals1 r
  cases ru
  exact d_len I ha fun t s2 J => ⟨.int (kvs.length : Int), H, J, ⟨t, rfl⟩, q⟩
/-- a dict, own or not, lent for a value that holds no place -/
theorem ev_lend {v : V} (j : Nat) (hj : δ[j]? = some (some (.ow (oFn φ)))) (h : Ev E te (δ.set j (some (.im (dFn φ)))) (.ok (dV v))) : Ev E te δ (.ok (dV v)) := fun G0 H0 G σ H Q R q => by
  obtain ⟨a, o, e1, e2, ⟨rs, f, kws, e, k⟩, e4, e5⟩ := R.ow j _ hj
  subst e
  refine h G0 H0 _ σ H Q (R.pub hj e1 e2 ⟨rs, f, a, kws, rfl, .inl upd_same, k.mono (.of (Same.new e4 _))⟩) fun w G' H' g p => ?_
  exact q w G H' ⟨.refl _, R.sub.trans g.ext, g.ext, fun b h1 h2 => absurd h1 h2⟩ p
theorem sx_pubF (i : Nat) (hi : δ[i]? = some (some (.ow (oFn φ)))) (h : Sx E t (δ.set i (some (.im (dFn φ)))) P) : Sx E t δ P := fun G0 H0 G σ H D R hd => by
  obtain ⟨a, o, e1, e2, ⟨rs, f, kws, e, k⟩, e4, e5⟩ := R.ow i _ hi
  subst e
  exact h G0 H0 _ σ H D (R.pub hi e1 e2 ⟨rs, f, a, kws, rfl, .inl upd_same, k.mono (.of (Same.new e4 _))⟩) (hd.up (Same.new e4 _))
end
def rLenV (K : PySem.W.Frag) : List V → Hp → VK → Prop := fun xs H Q => rLenU K xs H Q ∨ ∃ a kvs, xs = [V.ref a] ∧ Rd H a (.dK kvs) ∧ Q (.int kvs.length) H
theorem call_lenV {X : Cx} : CallR X (.builtin "len") (rLenV X.K) := call_lenU.or call_lenDR
theorem rc_lenU {K : PySem.W.Frag} {ds : List Dn} {z : Dn} (h : Rc (rLenU K) ds z) : Rc (rLenV K) ds z := fun G H us Q sm r k => .inl (h G H us Q sm r k)
theorem rc_lenF {K : PySem.W.Frag} {φ : List Nat → Option Dn} (L : List (List Nat)) (hL : ∀ p, p ∈ L ↔ (φ p).isSome = true) (hn : L.Nodup) : Rc (rLenV K) [dFn φ] (dI (L.length : Int)) := fun G H us Q sm h k => by
  obtain ⟨u, e, rs, f, a, kws, e2, r, kk⟩ := Reps_one h
  subst e; subst e2
  refine .inr ⟨a, kws, rfl, (Le.of sm).rd r, k _ G H (.refl sm) ?_⟩
  show V.int _ = V.int _
  have h1 := (f.perm hL hn).length_eq
  have h2 := congrArg List.length kk.keys
  rw [List.length_map, List.length_map, h1] at h2
  rw [h2]
/-- sorted(d) -/
theorem ro_sortedF {φ : List Nat → Option Dn} (L : List (List Nat)) (hL : ∀ p, p ∈ L ↔ (φ p).isSome = true) (hs : L.Pairwise fun a b => a < b) (hl : L.length ≤ 100000) : RcO rSortedD [dFn φ] (oL (L.map fun p => dC p)) := fun G H us Q sm h k => by
  obtain ⟨u, e, rs, f, a, kws, e2, r, kk⟩ := Reps_one h
  subst e; subst e2
  have hn : L.Nodup := hs.imp fun h e => by subst e; exact List.lt_irrefl _ h
  have hp := f.perm hL hn
  refine ⟨a, kws, (rs.map (·.1)).map cS, rfl, (Le.of sm).rd r, by rw [kk.keys, List.map_map, List.map_map, List.map_map]; rfl, by rw [List.length_map, hp.length_eq]; exact hl, fun ys q h1 h2 h3 => ?_⟩
  have ey : ys = L.map cS := by
    have hp2 : ys.Perm (L.map cS) := h1.trans (hp.map cS)
    have tl : ∀ p, (cS p).cps.toList = p := fun p => by simp [cS]
    refine hp2.eq_of_pairwise (le := fun a b => ¬ b.cps.toList < a.cps.toList) (fun a b ha hb h1 h2 => ?_) h2 ?_
    · have e : a.cps.toList = b.cps.toList := List.le_antisymm (List.not_lt.mp h1) (List.not_lt.mp h2)
      obtain ⟨⟨a⟩⟩ := a
      obtain ⟨⟨b⟩⟩ := b
      simp only at e
      rw [e]
    · rw [List.pairwise_map]
      exact hs.imp fun h => by rw [tl, tl]; exact List.lt_asymm h
  subst ey
  refine k q (.lst ((L.map cS).map V.str)) G _ (.skip sm h3) h3 (sm.free h3) upd_same ⟨_, rfl, ?_⟩
  have := Reps.mapV (G := G) (fun p : List Nat => V.str (cS p)) L
  rw [List.map_map]
  exact this
end HM
/-! Instances of own classes; a def that mutates what it is handed. -/
namespace HM
open PySem L2
def RepF (G : Hp) : List (Str × Dn) → List (Str × V) → Prop
  | [], [] => True
  | d :: ds, v :: vs => v.1 = d.1 ∧ d.2.p G v.2 ∧ RepF G ds vs
  | _, _ => False
theorem RepF.mono {G G' : Hp} (h : Le G G') : ∀ {ds : List (Str × Dn)} {vs : List (Str × V)}, RepF G ds vs → RepF G' ds vs
  | [], [], _ => True.intro
  | _ :: _, _ :: _, r => ⟨r.1, Dn.mono _ h r.2.1, RepF.mono h r.2.2⟩
  | [], _ :: _, r => r.elim
  | _ :: _, [], r => r.elim
theorem RepF.lk {G : Hp} {f : Str} : ∀ {ds : List (Str × Dn)} {vs : List (Str × V)}, RepF G ds vs → match ds.lookup f with
    | some d => ∃ v, vs.lookup f = some v ∧ d.p G v
    | none => vs.lookup f = none
  | [], [], _ => rfl
  | a :: r, k :: ks, h => by
    obtain ⟨h1, h2, h3⟩ := h
    have ih := RepF.lk (f := f) h3
    obtain ⟨k1, k2⟩ := k
    have h1 : k1 = a.1 := h1
    subst h1
    rw [List.lookup_cons, List.lookup_cons]
    cases e : f == a.1 with
    | true => exact ⟨k2, rfl, h2⟩
    | false => exact ih
  | [], _ :: _, h => h.elim
  | _ :: _, [], h => h.elim
theorem RepF.len {G : Hp} : ∀ {ds : List (Str × Dn)} {vs : List (Str × V)}, RepF G ds vs → vs.length = ds.length
  | [], [], _ => rfl
  | _ :: _, _ :: _, h => congrArg (· + 1) (RepF.len h.2.2)
  | [], _ :: _, h => h.elim
  | _ :: _, [], h => h.elim
theorem RepF.app {G : Hp} : ∀ {a b : List (Str × Dn)} {x y : List (Str × V)}, RepF G a x → RepF G b y → RepF G (a ++ b) (x ++ y)
  | [], _, [], _, _, h => h
  | _ :: _, _, _ :: _, _, h, h' => ⟨h.1, h.2.1, RepF.app h.2.2 h'⟩
  | [], _, _ :: _, _, h, _ => h.elim
  | _ :: _, _, [], _, h, _ => h.elim
theorem putF_new {f : Str} {v : V} : ∀ {fs : List (Str × V)}, fs.lookup f = none → putF f v fs = fs ++ [(f, v)]
  | [], _ => rfl
  | (g, x) :: r, h => by
    rw [List.lookup_cons] at h
    cases e : f == g with
    | true => rw [e] at h; cases h
    | false =>
      rw [e] at h
      have ne : ¬ g = f := fun z => by subst z; simp at e
      show (if g = f then (g, v) :: r else (g, x) :: putF f v r) = _
      rw [if_neg ne, putF_new h]
      rfl
/-- an instance of the class at C -/
def dO (C : Addr) (fds : List (Str × Dn)) : Dn := ⟨fun G v => ∃ a dx fs, v = .ref a ∧ G a = some (.ins C dx fs) ∧ RepF G fds fs, fun h ⟨a, dx, fs, e, t, r⟩ => ⟨a, dx, fs, e, h.ins t, r.mono h⟩⟩
/-- the instance at x that is being made -/
def oI (C x : Addr) (fds : List (Str × Dn)) : On := ⟨fun G a o => a = x ∧ ∃ dx fs, o = .ins C dx fs ∧ RepF G fds fs, fun h ⟨z, dx, fs, e, r⟩ => ⟨z, dx, fs, e, r.mono h⟩⟩
def OutI (C x : Addr) (G H : Hp) (Q : VK) (E : XK) : List (Str × Dn) ⊕ Addr → Prop
  | .inl fds => ∀ G' H' o, Gr G H G' H' → G' x = none → H' x = some o → (oI C x fds).p G' x o → Q .non H'
  | .inr c => ∀ G' H', Gr G H G' H' → E (.ref c) none H'
abbrev SemI := List Dn → List (Str × Dn) ⊕ Addr → Prop
def spI (C : Addr) (S : SemI) : Sp := fun vs H Q E => ∃ (x dx : Addr) (us : List V) (G H0 : Hp) (ds : List Dn) (r : List (Str × Dn) ⊕ Addr), vs = .ref x :: us ∧ S ds r ∧ Reps G ds us ∧ Same G H0 ∧ H0 x = none ∧ H = upd H0 x (.ins C dx []) ∧ OutI C x G H0 Q E r
section
variable {E : XS} {δ : DEnv} {P : Post} {te ta tb tl : TE} {t u : TS} {d x y z : Dn} {i : Nat} {v : V} {K : PySem.W.Frag} {tt : TT} {C : Addr} {f : Str} {fds : List (Str × Dn)} {ds : List Dn} {S : SemI} {targ : TA} {E' : XK} {c : Addr}
theorem ev_fld (ha : Ev E ta δ (.ok (dO C fds))) (hf : fds.lookup f = some d) (hc : Cls K C) (hn : NoAttr K C f) : Ev E (tFld K ta f) δ (.ok d) := fun G0 H0 G σ H Q R q =>
  ha G0 H0 G σ H _ R fun w G' H' g ⟨a, dx, fs, e, t, r⟩ => by
    have h := r.lk (f := f)
    rw [hf] at h
    obtain ⟨v, e2, p⟩ := h
    exact ⟨a, C, dx, fs, v, e, g.sub a _ t, hc, hn, e2, q v G' H' g p⟩
theorem isC (C : Addr) (m : Str) (h : fds.lookup m = none) : IsC C m (dO C fds) := fun G w ⟨a, dx, fs, e, t, r⟩ => by
  have q := r.lk (f := m)
  rw [h] at q
  exact ⟨a, dx, fs, e, t, q⟩
/-- x.f = te, x being made -/
theorem sx_fld {X : Addr} (j : Nat) (hj : δ[j]? = some (some (.ow (oI C X fds)))) (hv : Ev E te δ (.ok d)) (hc : Cls K C) (hn : NoAttr K C f) (hf : fds.lookup f = none) (hl : fds.length < 1000)
    (k : P.nx (δ.set j (some (.ow (oI C X (fds ++ [(f, d)])))))) : Sx E (sFld K (tVar j) te f) δ P := fun G0 H0 G σ H D R hd =>
  hv G0 H0 G σ H _ R fun v G1 H1 g1 p1 => by
    have R1 := R.go g1
    obtain ⟨a, o, e1, e2, ⟨ex, dx, fs, e, r⟩, e4, e5⟩ := R1.ow j _ hj
    subst e
    have hlk := r.lk (f := f)
    rw [hf] at hlk
    refine ⟨_, e1, a, C, dx, fs, rfl, e2, hc, hn, by rw [r.len]; exact hl, ?_⟩
    refine hd.nx _ G1 _ _ k (R1.mut hj e1 ⟨ex, dx, _, rfl, ?_⟩) g1.le
    rw [putF_new hlk]
    exact r.app ⟨rfl, p1, True.intro⟩
theorem ev_make (h : Ea E targ δ ds) (s : S ds (.inl fds)) : Ev E (tMake C (spI C S) [] E' targ) δ (.ok (dO C fds)) := fun G0 H0 G σ H Q R q =>
  h G0 H0 G σ H _ R fun vs G1 H1 g1 p1 x dx hx hdx ne => by
    refine ⟨x, dx, vs, G1, upd H1 dx (.own x), ds, _, by rw [List.append_nil], s, p1, g1.sub.trans (Same.new hdx _), by rw [upd_ne (Ne.symm ne)]; exact hx, rfl, fun G' H' o g' gx hxo ⟨_, dx', fs, e, r⟩ => ⟨rfl, ?_⟩⟩
    subst e
    have g2 : Gr G1 H1 G' H' := (Gr.skip (o := .own x) g1.sub hdx).trans g'
    refine q (.ref x) (upd G' x (.ins C dx' fs)) H' (g1.trans ⟨g2.le.trans (Same.new gx _), fun b u e => ?_, g2.ext, fun b h1 h2 => ?_⟩) ⟨x, dx', fs, rfl, upd_same, r.mono (.of (Same.new gx _))⟩
    · by_cases z : b = x
      · subst z; rw [upd_same] at e; cases e; exact hxo
      · rw [upd_ne z] at e; exact g2.sub b u e
    · by_cases z : b = x
      · subst z; exact hx
      · rw [upd_ne z] at h2; exact g2.new b h1 h2
theorem ex_make (h : Ea (fun _ => E') targ δ ds) (s : S ds (.inr c)) : Ev (fun _ => E') (tMake C (spI C S) [] E' targ) δ (.ex c) := fun G0 H0 G σ H Q R q =>
  h G0 H0 G σ H _ R fun vs G1 H1 g1 p1 x dx hx hdx ne => ⟨x, dx, vs, G1, upd H1 dx (.own x), ds, _, by rw [List.append_nil], s, p1, g1.sub.trans (Same.new hdx _), by rw [upd_ne (Ne.symm ne)]; exact hx, rfl, fun G' H' g' => q G' H' (g1.trans ((Gr.skip (o := .own x) g1.sub hdx).trans g'))⟩
/-- C(..) in a try's body -/
def tMakeS (C : Addr) (sp : Sp) (E : St → XK) (t : TA) : TE := fun σ H Q => t σ H fun vs H1 => ∀ x dx, H1 x = none → H1 dx = none → dx ≠ x → sp (.ref x :: vs) (upd (upd H1 dx (.own x)) x (.ins C dx [])) (fun v H2 => v = .non ∧ Q (.ref x) H2) (E σ)
theorem ev_makeS (h : Ea E targ δ ds) (s : S ds (.inl fds)) : Ev E (tMakeS C (spI C S) E targ) δ (.ok (dO C fds)) := fun G0 H0 G σ H Q R q => by
  have h1 := ev_make (E' := E σ) h s G0 H0 G σ H Q R q
  unfold tMake at h1
  simp only [List.append_nil] at h1
  exact h1
theorem ex_makeS (h : Ea E targ δ ds) (s : S ds (.inr c)) : Ev E (tMakeS C (spI C S) E targ) δ (.ex c) := fun G0 H0 G σ H Q R q =>
  h G0 H0 G σ H _ R fun vs G1 H1 g1 p1 x dx hx hdx ne => ⟨x, dx, vs, G1, upd H1 dx (.own x), ds, _, rfl, s, p1, g1.sub.trans (Same.new hdx _), by rw [upd_ne (Ne.symm ne)]; exact hx, rfl, fun G' H' g' => q G' H' (g1.trans ((Gr.skip (o := .own x) g1.sub hdx).trans g'))⟩
end
/-! ### __init__ -/
def entryI (C x : Addr) (N : List Str) (ds : List Dn) : DEnv := some (.ow (oI C x [])) :: (entry N.tail ds)
theorem Rep.entryI {G H0 : Hp} {C x dx : Addr} {ds : List Dn} {vs : List V} (y : Str) (N : List Str) (r : Reps G ds vs) (s : Same G H0) (hx : H0 x = none) :
    Rep G H0 G (entryI C x (y :: N) ds) (L2.start (y :: N) (.ref x :: vs)) (upd H0 x (.ins C dx [])) := by
  have sm : Same H0 (upd H0 x (.ins C dx [])) := Same.new hx _
  have R := Rep.entry (H := upd H0 x (.ins C dx [])) N r (s.trans sm)
  have es : L2.start (y :: N) (.ref x :: vs) = some (.ref x) :: L2.start N vs := by
    unfold L2.start
    simp
  have noow : ∀ (i : Nat) c, (HM.entry N ds)[i]? ≠ some (some (.ow c)) := fun i c h => by
    unfold HM.entry at h
    by_cases q : i < ds.length
    · rw [List.getElem?_append_left (by rw [List.length_map]; exact q), List.getElem?_map] at h
      rw [List.getElem?_eq_getElem q] at h
      cases h
    · rw [List.getElem?_append_right (by rw [List.length_map]; omega), List.getElem?_replicate] at h
      split at h <;> cases h
  rw [es]
  unfold HM.entryI
  rw [List.tail_cons]
  refine ⟨⟨.refl _, s.trans sm, sm, fun _ a b => absurd a b⟩, congrArg (· + 1) R.len, fun i d h => ?_, fun i c h => ?_, fun i j c c' a h1 h2 => ?_⟩
  · cases i with
    | zero => cases h
    | succ i => exact R.im i d h
  · cases i with
    | zero =>
      cases h
      exact ⟨x, _, rfl, upd_same, ⟨rfl, dx, [], rfl, True.intro⟩, s.free hx, hx⟩
    | succ i => exact absurd h (noow i c)
  · cases i with
    | zero =>
      cases j with
      | zero => exact fun _ _ => rfl
      | succ j => exact absurd h2 (noow j c')
    | succ i => exact absurd h1 (noow i c)
def postI (C x : Addr) : List (Str × Dn) ⊕ Addr → Post
  | .inl fds => { nx := fun δ => δ[0]? = some (some (.ow (oI C x fds))), rt := .im dF }
  | .inr c => { nx := fun _ => False, rt := .im dF, ex := fun c' _ => c' = c }
theorem Holds.ofI {G H0 H : Hp} {C x : Addr} {Q : VK} {E : XK} {r : List (Str × Dn) ⊕ Addr} (o : OutI C x G H0 Q E r) : Holds (fun _ => E) (postI C x r) G H0 G { nx := fun _ H' => Q .non H', rt := Q } := by
  cases r with
  | inl fds =>
    refine ⟨fun δ G' σ H' p R l => ?_, fun v G' H' g p => p.elim, fun _ _ _ _ z => z.elim, fun _ _ _ _ z => z.elim, fun _ _ _ _ _ z => z.elim⟩
    obtain ⟨a, ob, e1, e2, ⟨ex, q⟩, e4, e5⟩ := R.ow 0 _ p
    subst ex
    exact o G' H' ob R.gr e4 e2 ⟨rfl, q⟩
  | inr c =>
    refine ⟨fun δ G' σ H' p R l => p.elim, fun v G' H' g p => p.elim, fun _ _ _ _ z => z.elim, fun _ _ _ _ z => z.elim, fun c' δ G' σ H' z R l => ?_⟩
    have z : c' = c := z
    subst z
    exact o G' H' R.gr
section
variable {P : Program} {w : World} {K : PySem.W.Frag} {mg : Str → Option Value} {base : Heap} {x qual : Str} {st : Stmt} {f : Addr} {fd : FuncData} {N ps : List Str} {k : Nat} {y : Str} {C : Addr} {S : SemI}
theorem fnI (F : Fun K x qual st f fd) (sc : FnScope (y :: N) ps (defScope st)) (len : ∀ ds r, S ds r → ds.length + 1 = ps.length)
    (body : ∀ (cdv : Value) (A : Around) (outer : List PySem.Env) (s : Shared) (H : Hp) (E : XK) (a : Addr) (ds : List Dn) (r : List (Str × Dn) ⊕ Addr), Room k (A.deeper (PyProof.Rows.envOfC qual (defScope st) s.heap.objs.size f cdv)) → S ds r →
      ∃ t, PSs (cxOf (L2.CX P w) P w K mg base (y :: N) qual (defScope st) f cdv A outer s H E) (defBody st) t ∧ Sx (fun _ => E) t (entryI C a (y :: N) ds) (postI C a r)) : FnOk P w K mg base (L2.CX P w) (k + 1) f fd ps (spI C S) := by
  refine F.okX sc (fun vs H Q E ⟨x, dx, us, G, H0, ds, r, e, s, rp, _⟩ => ?_) fun cdv A outer s H vs Q E hr ⟨x, dx, us, G, H0, ds, r, e, hs, rp, sm, hx, eH, o⟩ => ?_
  · rw [e, List.length_cons, rp.len]; exact len ds r s
  · subst e; subst eH
    obtain ⟨t, h1, h2⟩ := body cdv A outer s _ E x ds r hr hs
    exact ⟨t, h1, h2 G H0 G _ _ _ (Rep.entryI y N rp sm hx) (.ofI (H := H0) o)⟩
end
/-! ### calls in a try's body -/
section
variable {X : Cx} {CX : CXT} {k : Nat} {f C : Addr} {fd : FuncData} {ps : List Str} {sp : Sp} {E : St → XK} {x m : Str} {p pos apos : Pos} {e o : Expr} {es : List Expr} {ta : TE} {t : TA}
theorem run_mkS {pins : List (Addr × Obj)} {σ : St} {H : Hp} {s : Shared} {Q : VK} {us : List Value} {vs : List V} (M : Mk X.K C f) (F : FnOk X.prog X.w X.K X.mg X.base CX k f fd ps sp) (hr : Room (k + 1) X.A) (hb : Binds X.K fd ps [])
    (hx : PassesAt CX X σ (E σ)) (I : Inv X pins σ H s) (r : Vals vs us)
    (h : ∀ a dx, H a = none → H dx = none → dx ≠ a → sp (.ref a :: vs) (upd (upd H dx (.own a)) a (.ins C dx [])) (fun v H2 => v = .non ∧ Q (.ref a) H2) (E σ)) : wpAny (model X.prog X.w) X.A (call (.ref C) us) (EP X pins σ Q) X.xe s := by
  have fr1 := I.hok.fresh (Nat.le_succ s.heap.objs.size)
  have fr2 := I.hok.fresh (Nat.le_refl s.heap.objs.size)
  have hq := h _ _ fr1 fr2 (Nat.ne_of_lt (Nat.lt_succ_self _))
  have J := Inv.made (C := C) I
  have r2 : Vals (.ref (s.heap.objs.size + 1) :: vs) (Value.ref (s.heap.objs.size + 1) :: us) := .cons rfl r
  have hl : (Value.ref (s.heap.objs.size + 1) :: us).length = ps.length := r2.length.symm.trans (F.len _ _ _ _ hq)
  have hb' := hb _ (Value.ref (s.heap.objs.size + 1) :: us) J.kIn (by rw [List.append_nil]; exact hl)
  rw [List.append_nil] at hb'
  refine wpAny_call (make_map (f := f) I.kIn M.makes M.init (beq_iff_eq.mp M.fn) (codeAny_mono (F.run _ X.stack _ _ ⟨_ :: us, []⟩ (_ :: us) _ _ (E σ) (hr.make C us []) (J.env0.make C us []) hb' r2 hq) fun r s' hq' => ?_))
  match r, hq' with
  | .error e, hq' => exact hx pins _ _ e s' J hq'
  | .ok (.ret u), hq' =>
    obtain ⟨v, H', I3, rv, ev, q3⟩ := J.after hq'
    subst ev
    exact ⟨rv, V.ref (s.heap.objs.size + 1), H', I3, rfl, q3⟩
  | .ok .next, z => exact z.elim
  | .ok .brk, z => exact z.elim
  | .ok .cont, z => exact z.elim
theorem pe_makeS (M : Mk X.K C f) (F : FnOk X.prog X.w X.K X.mg X.base CX k f fd ps sp) (hr : Room (k + 1) X.A) (hm : X.mg x = some (.ref C)) (hb : Binds X.K fd ps []) (hx : ∀ σ, PassesAt CX X σ (E σ)) (ha : PA X (e :: es) t) (hg : Gl X x := by rfl) (hdb : (x == ("__debug__" : Str)) = false := by decide)
    (he : starEach (e :: es) X.env = (false, eval e X.env) :: starEach es X.env := by rfl) (hpl : (backTo pos (starEach es X.env)).any (·.1) = false := by rfl) : PE X (.Call (.Name x p) (e :: es) [] pos) (tMakeS C sp E t) :=
  ⟨fun pins s σ H Q I h => wpAny_Call_Name_kw (ld_glob I hg hm (PySem.W.callWith_K (h₀ := X.base) I.ok.mod.kin M.kp (thn (ha.run pos pins s σ H _ I h) fun us s1 ⟨vs, H1, I1, r, q⟩ => ⟨I1.kIn, run_mkS M F hr hb (hx σ) I1 r q⟩) he hpl) hdb)⟩
theorem pe_mkC (M : Mk X.K C f) (F : FnOk X.prog X.w X.K X.mg X.base CX k f fd ps sp) (hr : Room (k + 1) X.A) (hm : X.mg x = some (.ref C)) (hb : Binds X.K fd ps []) {E : XK} (hx : Passes CX X E) (ha : PA X (e :: es) t) (hg : Gl X x := by rfl) (hdb : (x == ("__debug__" : Str)) = false := by decide)
    (he : starEach (e :: es) X.env = (false, eval e X.env) :: starEach es X.env := by rfl) (hpl : (backTo pos (starEach es X.env)).any (·.1) = false := by rfl) : PE X (.Call (.Name x p) (e :: es) [] pos) (tMake C sp [] E t) :=
  pe_make M F hr hg hm hb .nil hx ha (hdb := hdb) (he := he) (hpl := hpl)
/-- o.m(..) in a try's body -/
def tMethS (C : Addr) (m : Str) (sp : Sp) (E : St → XK) (ta : TE) (t : TA) : TE := fun σ H Q => ta σ H fun x H1 => ∃ a dx fs, x = .ref a ∧ H1 a = some (.ins C dx fs) ∧ fs.lookup m = none ∧ t σ H1 fun vs H2 => sp (x :: vs) H2 Q (E σ)
theorem pe_methS {pl : Sem Bool} (he : PE X o ta) (c : Cls X.K C) (hm : Meth X.K C m f) (F : FnOk X.prog X.w X.K X.mg X.base CX k f fd ps sp) (hr : Room k X.A) (hb : Binds X.K fd ps []) (hx : ∀ σ, PassesAt CX X σ (E σ)) (ha : PA X (e :: es) t)
    (hst : starEach (e :: es) X.env = (false, eval e X.env) :: starEach es X.env := by rfl) (hpl : (backTo pos (starEach es X.env)).any (·.1) = false := by rfl)
    (ht : eval (.Call (.Attribute o m apos) (e :: es) [] pos) X.env = (do
      let ov ← eval o X.env
      standAt apos.atName
      let (f, first) ← holding [ov] (getMethod ov m pl)
      callWith pos f first (backTo pos (starEach (e :: es) X.env)) (backToKw pos (keywordEach [] X.env))) := by rfl) : PE X (.Call (.Attribute o m apos) (e :: es) [] pos) (tMethS C m sp E ta t) := by
  refine ⟨fun pins s σ H Q I h => PySem.W.methodCall_KW (pl := pl) (thn (he.run pins s σ H _ I h) fun u s1 ⟨x, H1, I1, rx, a, dx, fs, ex, ea, l, q⟩ => ?_) ht⟩
  subst ex
  obtain rfl : u = Value.ref a := rx
  exact getmeth_ok I1 ea c hm l (PySem.W.callWith_K (first := [.ref a]) (h₀ := X.base) I.ok.mod.kin hm.kp (thn (ha.run pos pins s1 σ H1 _ I1 q) fun us s2 ⟨vs, H2, I2, r, q2⟩ => ⟨I2.kIn, run_fnS (us := .ref a :: us) (vs := .ref a :: vs) F hr hb (hx σ) I2 (.cons rfl r) q2⟩) hst hpl)
end
section
variable {E : XS} {E' : XK} {δ : DEnv} {te ta' : TE} {ta : TA} {d : Dn} {c C : Addr} {m : Str} {x : Dn} {o : On} {S : Sem'} {ds : List Dn} {v : V}
theorem ev_methS (hx : Ev E ta' δ (.ok x)) (hc : IsC C m x) (h : Ea E ta δ ds) (s : S (x :: ds) (.ok d)) : Ev E (tMethS C m (spD S) E ta' ta) δ (.ok d) := fun G0 H0 G σ H Q R q =>
  hx G0 H0 G σ H _ R fun v G1 H1 g1 p1 => by
    obtain ⟨a, dx, fs, e, ga, l⟩ := hc G1 v p1
    subst e
    refine ⟨a, dx, fs, rfl, g1.sub a _ ga, l, h G0 H0 G1 σ H1 _ (R.go g1) fun vs G2 H2 g2 p2 => ?_⟩
    exact ⟨G2, x :: ds, _, s, ⟨x.mono (.of g2.le) p1, p2⟩, g2.sub, fun v G' H' g p => q v G' H' (g1.trans (g2.trans g)) p⟩
theorem ex_methS (hx : Ev E ta' δ (.ok x)) (hc : IsC C m x) (h : Ea E ta δ ds) (s : S (x :: ds) (.ex c)) : Ev E (tMethS C m (spD S) E ta' ta) δ (.ex c) := fun G0 H0 G σ H Q R q =>
  hx G0 H0 G σ H _ R fun v G1 H1 g1 p1 => by
    obtain ⟨a, dx, fs, e, ga, l⟩ := hc G1 v p1
    subst e
    refine ⟨a, dx, fs, rfl, g1.sub a _ ga, l, h G0 H0 G1 σ H1 _ (R.go g1) fun vs G2 H2 g2 p2 => ?_⟩
    exact ⟨G2, x :: ds, _, s, ⟨x.mono (.of g2.le) p1, p2⟩, g2.sub, fun G' H' g => q G' H' (g1.trans (g2.trans g))⟩
/-- a method with one default filled up -/
theorem eo_methD (hx : Ev E ta' δ (.ok x)) (hc : IsC C m x) (h : Ea E ta δ ds) (s : S (x :: (ds ++ [dV v])) (.own o)) : Ev E (tMeth C m (spD S) [v] E' ta' ta) δ (.own o) := fun G0 H0 G σ H Q R q =>
  hx G0 H0 G σ H _ R fun w G1 H1 g1 p1 => by
    obtain ⟨a, dx, fs, e, ga, l⟩ := hc G1 w p1
    subst e
    refine ⟨a, dx, fs, rfl, g1.sub a _ ga, l, h G0 H0 G1 σ H1 _ (R.go g1) fun vs G2 H2 g2 p2 => ?_⟩
    exact ⟨G2, x :: (ds ++ [dV v]), _, s, ⟨x.mono (.of g2.le) p1, p2.app ⟨rfl, True.intro⟩⟩, g2.sub, fun a o G' H' g ha => q a o G' H' (g1.trans (g2.trans g)) ((g1.trans g2).ext.free ha)⟩
end
end HM

/-! Slices, loops over reversed lists and dicts, displays, texts. -/
namespace HM
open PySem L2
/-! ### slices -/
def cutL {α : Type} (l : List α) (lo hi : Option Int) : List α := (l.drop (HT.sIx l.length 0 lo)).take (HT.sIx l.length l.length hi - HT.sIx l.length 0 lo)
theorem cutS_cS (l : List Nat) (lo hi : Option Int) : cutS (cS l) lo hi = cS (cutL l lo hi) := by
  unfold cutS cutL
  rw [cS_len]
  have e : (cS l).cps.toList = l := by simp [cS]
  rw [e]
  rfl
theorem Reps.cut {G : Hp} {ds : List Dn} {vs : List V} (r : Reps G ds vs) (lo hi : Option Int) : Reps G (cutL ds lo hi) (cutV vs lo hi) := by
  unfold cutL cutV
  rw [r.len]
  exact (r.drop _).take _
theorem cut_tail {α : Type} (x : α) (l : List α) : cutL (x :: l) (some 1) none = l := by
  unfold cutL
  have e1 : HT.sIx (x :: l).length 0 (some 1) = 1 := (HT.sIx_nat _ _ 1).trans (by rw [List.length_cons]; omega)
  have e2 : HT.sIx (x :: l).length (x :: l).length none = (x :: l).length := rfl
  rw [e1, e2]
  simp
theorem cut_from {α : Type} (l : List α) (k : Nat) : cutL l (some (k : Int)) none = l.drop k := by
  unfold cutL
  have e2 : HT.sIx l.length l.length none = l.length := rfl
  rw [HT.sIx_nat, e2]
  by_cases h : k ≤ l.length
  · rw [Nat.min_eq_left h]
    exact List.take_of_length_le (by rw [List.length_drop]; omega)
  · rw [Nat.min_eq_right (by omega), List.drop_eq_nil_of_le (Nat.le_refl _), List.drop_eq_nil_of_le (by omega)]
    simp
theorem cut_to {α : Type} (l : List α) (k : Nat) : cutL l none (some (k : Int)) = l.take k := by
  unfold cutL
  have e1 : HT.sIx l.length 0 none = 0 := rfl
  rw [HT.sIx_nat, e1, List.drop_zero, Nat.sub_zero]
  by_cases h : k ≤ l.length
  · rw [Nat.min_eq_left h]
  · rw [Nat.min_eq_right (by omega), List.take_of_length_le (Nat.le_refl _), List.take_of_length_le (by omega)]
theorem cut_mid {α : Type} (l : List α) (j k : Nat) : cutL l (some (j : Int)) (some (k : Int)) = (l.drop j).take (k - j) := by
  unfold cutL
  rw [HT.sIx_nat, HT.sIx_nat]
  by_cases h : j ≤ l.length
  · rw [Nat.min_eq_left h]
    by_cases h' : k ≤ l.length
    · rw [Nat.min_eq_left h']
    · rw [Nat.min_eq_right (show l.length ≤ k by omega), List.take_of_length_le (by rw [List.length_drop]; omega), List.take_of_length_le (by rw [List.length_drop]; omega)]
  · rw [Nat.min_eq_right (show l.length ≤ j by omega), List.drop_eq_nil_of_le (Nat.le_refl _), List.drop_eq_nil_of_le (show l.length ≤ j by omega), List.take_nil, List.take_nil]
theorem cut_but {α : Type} (l : List α) (x : α) : cutL (l ++ [x]) none (some (-1)) = l := by
  unfold cutL
  have e1 : HT.sIx (l ++ [x]).length 0 none = 0 := rfl
  have e2 : HT.sIx (l ++ [x]).length (l ++ [x]).length (some (-1)) = l.length := by
    show (if (-1 : Int) < 0 then (-1 + ((l ++ [x]).length : Int)).toNat else min (-1 : Int).toNat (l ++ [x]).length) = l.length
    rw [if_pos (by decide), List.length_append, List.length_singleton]
    omega
  rw [e1, e2, List.drop_zero, Nat.sub_zero, List.take_left]
def rSlU (K : PySem.W.Frag) : V → Option Int → Option Int → Hp → VK → Prop := fun x lo hi H Q => rSlL K x lo hi H Q ∨ rSlS x lo hi H Q
theorem sl_U {X : Cx} : SlR X (rSlU X.K) := sl_list.or sl_str
/-- a bound of a slice -/
def Eo (E : XS) (to : TO) (δ : DEnv) (o : Option Int) : Prop := ∀ G0 H0 G σ H (Q : Option Int → Hp → Prop), Rep G0 H0 G δ σ H → (∀ G' H', Gr G H G' H' → Q o H') → to σ H Q
section
variable {E : XS} {δ : DEnv} {P : Post} {te ta tb tl : TE} {t u : TS} {d x y z : Dn} {i : Nat} {v : V} {K : PySem.W.Frag} {tt : TT} {lo hi : Option Int} {to1 to2 : TO}
theorem oo_none : Eo E tNoPart δ none := fun G0 H0 G σ H Q R q => q G H (.refl R.sub)
theorem oo_some {n : Int} (h : Ev E te δ (.ok (dI n))) : Eo E (tPart te) δ (some n) := fun G0 H0 G σ H Q R q => h G0 H0 G σ H _ R fun w G' H' g p => ⟨n, p, q G' H' g⟩
theorem ev_slS {l : List Nat} (h : Ev E te δ (.ok (dC l))) (h1 : Eo E to1 δ lo) (h2 : Eo E to2 δ hi) (hl : l.length ≤ 100000) : Ev E (tSl (rSlU K) te to1 to2) δ (.ok (dC (cutL l lo hi))) := fun G0 H0 G σ H Q R q =>
  h G0 H0 G σ H _ R fun w G1 H1 g1 p1 => h1 G0 H0 G1 σ H1 _ (R.go g1) fun G2 H2 g2 => h2 G0 H0 G2 σ H2 _ ((R.go g1).go g2) fun G3 H3 g3 => by
    have p1 : w = .str (cS l) := p1
    subst p1
    exact .inr ⟨_, rfl, by rw [cS_len]; exact Nat.le_trans hl (by decide), q _ G3 H3 (g1.trans (g2.trans g3)) (congrArg V.str (cutS_cS l lo hi))⟩
theorem eo_slL {ds : List Dn} (h : Ev E te δ (.ok (dL K ds))) (h1 : Eo E to1 δ lo) (h2 : Eo E to2 δ hi) : Ev E (tSl (rSlU K) te to1 to2) δ (.own (oL (cutL ds lo hi))) := fun G0 H0 G σ H Q R q =>
  h G0 H0 G σ H _ R fun w G1 H1 g1 ⟨a, vs, e, sq, r⟩ => h1 G0 H0 G1 σ H1 _ (R.go g1) fun G2 H2 g2 => h2 G0 H0 G2 σ H2 _ ((R.go g1).go g2) fun G3 H3 g3 => by
    subst e
    have g := g2.trans g3
    refine .inl ⟨a, vs, rfl, (Le.of (g.le.trans g.sub)).lst sq, fun p hp => ?_⟩
    have g' := g1.trans g
    exact q p _ G3 _ (g'.trans (.skip g'.sub hp)) (g'.ext.free hp) (g'.sub.free hp) upd_same ⟨_, rfl, (r.mono (.of g.le)).cut lo hi⟩
/-! ### an own dict that is read; x[i], counted from behind -/
theorem rv_ixLI {ds : List Dn} {n : Int} (h : atI ds n = some z) : Rv (rIx K) (dL K ds) (dI n) z := fun G H u v Q sm ⟨a, vs, e, t, r⟩ h2 k => by
  have h2 : v = .int n := h2
  subst e; subst h2
  unfold atI at h
  cases e1 : ixN ds.length n with
  | none => rw [e1] at h; cases h
  | some j =>
    rw [e1] at h
    obtain ⟨w, ew, pw⟩ := r.get (show ds[j]? = some z from h)
    refine .inl ⟨a, vs, n, w, rfl, rfl, (Le.of sm).lst t, ?_, k w G H (.refl sm) pw⟩
    unfold atI
    rw [r.len, e1]
    exact ew
theorem at_last {α : Type} {xs : List α} {x : α} (h : xs.getLast? = some x) : atI xs (-1) = some x := by
  obtain ⟨ys, rfl⟩ := List.getLast?_eq_some_iff.mp h
  unfold atI ixN
  rw [if_neg (by decide), List.length_append, List.length_singleton]
  split
  · have e : (-1 + ((ys.length + 1 : Nat) : Int)).toNat = ys.length := by omega
    show (ys ++ [x])[(-1 + ((ys.length + 1 : Nat) : Int)).toNat]? = some x
    rw [e]
    simp
  · omega
/-! ### lists joined -/
theorem eo_cat {a b : List Dn} (ha : Ev E ta δ (.own (oL a))) (hb : Ev E tb δ (.own (oL b))) (hl : a.length + b.length ≤ 100000) : Ev E (tOp rAddU ta tb) δ (.own (oL (a ++ b))) := fun G0 H0 G σ H Q R q =>
  ha G0 H0 G σ H _ R fun p o G1 H1 g1 hp gp ep ⟨vs, e, r⟩ => hb G0 H0 G1 σ H1 _ (R.go g1) fun p2 o2 G2 H2 g2 hp2 gp2 ep2 ⟨us, e2, r2⟩ => by
    subst e; subst e2
    refine .inr (.inr ⟨p, p2, vs, us, rfl, rfl, g2.ext p _ ep, ep2, by rw [r.len, r2.len]; exact Nat.le_trans hl (by decide), fun n hn => ?_⟩)
    have g := g1.trans g2
    exact q n _ G2 _ (g.trans (.skip g.sub hn)) (g.ext.free hn) (g.sub.free hn) upd_same ⟨_, rfl, (r.mono (.of g2.le)).app r2⟩
/-! ### loops -/
/-- over reversed(a list) -/
theorem sx_forRv {ds : List Dn} (h : Ev E tl δ (.ok (dL K ds))) (I : Nat → DEnv → Prop) (h0 : I 0 δ)
    (hs : ∀ n δ' d, n < ds.length → ds[ds.length - 1 - n]? = some d → I n δ' → Sx E t (δ'.set i (some (.im d))) { P with nx := I (n + 1), ct := I (n + 1), bk := P.nx }) (hd : ∀ δ', I ds.length δ' → P.nx δ') : Sx E (tFor (RT.iRevA K tl) (gName i) t) δ P := fun G0 H0 G σ H D R hD => by
  refine h G0 H0 G σ H _ R fun v G1 H1 g1 ⟨a, vs, ev, sq, rp⟩ => ?_
  subst ev
  refine ⟨a, vs, rfl, .inl ⟨(Le.of g1.sub).lst sq, RT.for_Itv (K := K) (a := a) (xs := vs) (fun n σ H => ∃ G' δ', I n δ' ∧ Rep G0 H0 G' δ' σ H ∧ Same G1 G') ⟨G1, δ, h0, R.go g1, .refl _⟩ ?_ ?_ ?_⟩⟩
  · rintro n σ2 H2 ⟨G2, δ2, _, R2, l2⟩
    exact (Le.of (l2.trans R2.sub)).lst sq
  · rintro n x σ2 H2 hn ex ⟨G2, δ2, i2, R2, l2⟩
    rw [rp.len] at ex hn
    obtain ⟨d, ed, pd⟩ := rp.getV ex
    refine hs n δ2 d hn ed i2 G0 H0 G2 _ H2 _ (R2.set (d.mono (.of l2) pd) i) ⟨?_, hD.rt, ?_, ?_, ?_⟩
    · intro δ3 G3 σ3 H3 p R3 l3
      exact ⟨G3, δ3, p, R3, l2.trans l3⟩
    · intro δ3 G3 σ3 H3 p R3 l3
      exact hD.nx δ3 G3 σ3 H3 p R3 (g1.le.trans (l2.trans l3))
    · intro δ3 G3 σ3 H3 p R3 l3
      exact ⟨G3, δ3, p, R3, l2.trans l3⟩
    · intro c δ3 G3 σ3 H3 p R3 l3
      exact hD.ex c δ3 G3 σ3 H3 p R3 (g1.le.trans (l2.trans l3))
  · rintro σ2 H2 ⟨G2, δ2, i2, R2, l2⟩
    rw [rp.len] at i2
    exact hD.nx δ2 G2 σ2 H2 (hd δ2 i2) R2 (g1.le.trans l2)
/-! ### text methods -/
def rM1b (f : Str → Str → Bool) : V → List V → Hp → VK → Prop := fun x xs H Q => ∃ a b, x = .str a ∧ xs = [.str b] ∧ Q (.bl (f a b)) H
theorem ev_m1 {f : Str → Str → Bool} {a b : List Nat} (ha : Ev E ta δ (.ok (dC a))) (hb : Ev E tb δ (.ok (dC b))) : Ev E (tM1 (rM1b f) ta tb) δ (.ok (dB (f (cS a) (cS b)))) := fun G0 H0 G σ H Q R q =>
  ha G0 H0 G σ H _ R fun u G1 H1 g1 p1 => ⟨⟨_, p1⟩, hb G0 H0 G1 σ H1 _ (R.go g1) fun w G2 H2 g2 p2 => ⟨_, _, p1, congrArg (fun v => [v]) p2, q _ G2 H2 (g1.trans g2) rfl⟩⟩
end
/-! ### list(..), all(..) -/
def rListL (K : PySem.W.Frag) : List V → Hp → VK → Prop := fun xs H Q => ∃ p ys, xs = [.ref p] ∧ (SqL K H p ys ∨ SqT K H p ys) ∧ ∀ l, H l = none → Q (.ref l) (upd H l (.lst ys))
theorem call_listL {X : Cx} : CallR X (.type "list") (rListL X.K) := call_list_of
section
variable {K : PySem.W.Frag} {ds : List Dn}
theorem ro_listL : RcO (rListL K) [dL K ds] (oL ds) := fun G H us Q sm h k => by
  obtain ⟨u, e, a, vs, e2, t, r⟩ := Reps_one h
  subst e; subst e2
  exact ⟨a, vs, rfl, .inl ((Le.of sm).lst t), fun p hp => k p _ G _ (.skip sm hp) hp (sm.free hp) upd_same ⟨_, rfl, r⟩⟩
theorem rc_all {bs : List Bool} : Rc (rAll K) [dL K (bs.map fun b => dB b)] (dB (bs.all id)) := fun G H us Q sm h k => by
  obtain ⟨u, e, a, vs, e2, t, r⟩ := Reps_one h
  subst e; subst e2
  have e3 := Reps.mapVeq V.bl r
  subst e3
  exact ⟨a, bs, rfl, (Le.of sm).lst t, k _ G H (.refl sm) rfl⟩
end
/-! ### data of texts -/
theorem dqs_txt {K : PySem.W.Frag} : ∀ L : List (List Nat), Dqs K (L.map fun p => dC p) (L.map fun p => PyData.str (cS p))
  | [] => True.intro
  | p :: L => ⟨dq_str (cS p), dqs_txt L⟩
def okC (l : List Nat) : Bool := l.all (· < 1114112)
theorem strOk_cS {l : List Nat} (h : okC l = true) : PyData.strOk (cS l) = true := by
  unfold okC at h
  show (l.toArray.all (· < 0x110000)) = true
  simpa using h
theorem pl_txt {L : List (List Nat)} (h : ∀ p, p ∈ L → okC p = true) : pl 1 (.list (L.map fun p => PyData.str (cS p))) = true := by
  show (L.map fun p => PyData.str (cS p)).all (pl 0) = true
  rw [List.all_map, List.all_eq_true]
  intro p hp
  exact strOk_cS (h p hp)
theorem txt_inj {L M : List (List Nat)} : (PyData.list (L.map fun p => PyData.str (cS p)) = .list (M.map fun p => PyData.str (cS p))) ↔ L = M := by
  constructor
  · intro h
    have h := PyData.list.inj h
    have z := congrArg (List.map fun d : PyData => match d with | .str s => s.cps.toList | _ => []) h
    rw [List.map_map, List.map_map] at z
    have e : ((fun d : PyData => match d with | .str s => s.cps.toList | _ => []) ∘ fun p : List Nat => PyData.str (cS p)) = id := by
      funext p
      simp [cS]
    rw [e, List.map_id, List.map_id] at z
    exact z
  · intro h; rw [h]
theorem rv_eqLC {K : PySem.W.Frag} {L M : List (List Nat)} (h1 : ∀ p, p ∈ L → okC p = true) (h2 : ∀ p, p ∈ M → okC p = true) : Rv (rEqU K) (dL K (L.map fun p => dC p)) (dL K (M.map fun p => dC p)) (dB (decide (L = M))) :=
  rv_eqD 1 (dq_lst (dqs_txt L)) (dq_lst (dqs_txt M)) (pl_txt h1) (pl_txt h2) (by decide) (by rw [txt_inj, decide_eq_true_iff])
/-! ### 'lr' * 40 -/
def lr40 : List Nat := (List.replicate 40 [108, 114]).flatten
def rMulLR : R2 := fun x y H Q => x = .str (cS [108, 114]) ∧ y = .int 40 ∧ Q (.str (cS lr40)) H
theorem op_mulLR {X : Cx} : OpR X (binaryOp .Mult) rMulLR := by
  rintro pins s σ H x y v u Q I rx ry ⟨rfl, rfl, q⟩
  obtain ⟨t, rfl⟩ := (show ∃ t, v = Value.str (cS [108, 114]) t from rx)
  obtain ⟨t', rfl⟩ := (show ∃ t, u = Value.int 40 t from ry)
  refine PySem.P.mul_str (by decide) (fun _ _ => by decide) (fun _ _ => by decide) ?_
  rw [if_neg (by decide), if_neg (by decide)]
  refine ⟨by decide, ⟨.str (cS lr40), H, I.tok _, ?_, q⟩⟩
  exact ⟨_, rfl⟩
theorem rv_mulLR : Rv rMulLR (dC [108, 114]) (dI 40) (dC lr40) := rv_of fun H Q q => ⟨rfl, rfl, q⟩
end HM
/-! A dict locked by a loop; dict displays; evaluation that changes what slots own. -/
namespace HM
open PySem L2
/-- what stands at a becomes u -/
def Sw (a : Addr) (u : HO) (f : Hp) : Hp := fun b => if b = a then (if f a = none then none else some u) else f b
theorem sw_ne {a b : Addr} {u : HO} {f : Hp} (h : b ≠ a) : Sw a u f b = f b := if_neg h
theorem sw_at {a : Addr} {u : HO} {f : Hp} (h : f a ≠ none) : Sw a u f a = some u := by unfold Sw; rw [if_pos rfl, if_neg h]
theorem sw_no {a : Addr} {u : HO} {f : Hp} (h : f a = none) : Sw a u f = f := by
  funext b
  unfold Sw
  by_cases z : b = a
  · subst z; rw [if_pos rfl, if_pos h, h]
  · rw [if_neg z]
theorem sw_upd {a : Addr} {u : HO} {f : Hp} (h : f a ≠ none) : Sw a u f = upd f a u := by
  funext b
  by_cases z : b = a
  · subst z; rw [sw_at h, upd_same]
  · rw [sw_ne z, upd_ne z]
theorem sw_none {a b : Addr} {u : HO} {f : Hp} : Sw a u f b = none ↔ f b = none := by
  by_cases z : b = a
  · subst z
    by_cases h : f b = none
    · rw [sw_no h]
    · rw [sw_at h]; simp [h]
  · rw [sw_ne z]
theorem sw_sw {a : Addr} {u u' : HO} {f : Hp} (h : ∀ o, f a = some o → o = u) : Sw a u (Sw a u' f) = f := by
  by_cases n : f a = none
  · rw [sw_no n, sw_no n]
  · have n' : Sw a u' f a ≠ none := by rw [sw_at n]; exact fun z => nomatch z
    funext b
    by_cases z : b = a
    · subst z
      rw [sw_at n']
      cases e : f b with
      | none => exact absurd e n
      | some o => rw [h o e]
    · rw [sw_ne z, sw_ne z]
theorem Same.sw {a : Addr} {u : HO} {f g : Hp} (s : Same f g) : Same (Sw a u f) (Sw a u g) := fun b o e => by
  by_cases z : b = a
  · subst z
    by_cases n : f b = none
    · rw [sw_no n, n] at e; cases e
    · rw [sw_at n] at e
      cases e
      refine sw_at ?_
      cases q : f b with
      | none => exact absurd q n
      | some o => rw [s b o q]; exact fun z => nomatch z
  · rw [sw_ne z] at e ⊢
    exact s b o e
theorem Le.sw {a : Addr} {u u' : HO} {G : Hp} (h : G a = some u) (e : unl u' = unl u) : Le G (Sw a u' G) := fun b o q => by
  by_cases z : b = a
  · subst z
    rw [h] at q; cases q
    exact ⟨u', sw_at (by rw [h]; exact fun z => nomatch z), e⟩
  · exact ⟨o, by rw [sw_ne z]; exact q, rfl⟩
theorem Rep.sw {G0 H0 G H : Hp} {δ : DEnv} {σ : St} {a : Addr} {u u' : HO} (R : Rep G0 H0 G δ σ H) (h : G a = some u) (e : unl u' = unl u) : Rep (Sw a u' G0) (Sw a u' H0) (Sw a u' G) δ σ (Sw a u' H) where
  gr := ⟨Same.sw R.gr.le, Same.sw R.gr.sub, Same.sw R.gr.ext, fun b h1 h2 => sw_none.mpr (R.gr.new b (sw_none.mp h1) fun z => h2 (sw_none.mpr z))⟩
  len := R.len
  im := fun i d q => by
    obtain ⟨v, e1, e2⟩ := R.im i d q
    exact ⟨v, e1, d.mono (.sw h e) e2⟩
  ow := fun i c q => by
    obtain ⟨b, o, e1, e2, e3, e4, e5⟩ := R.ow i c q
    have ne : b ≠ a := fun z => by subst z; rw [h] at e4; cases e4
    exact ⟨b, o, e1, by rw [sw_ne ne]; exact e2, c.mono (.sw h e) e3, sw_none.mpr e4, sw_none.mpr e5⟩
  dj := R.dj
/-- with a lock where none stands -/
def tFree (t : TS) : TS := fun D σ H => tLock t D σ H ∨ t D σ H
theorem ps_free {X : Cx} {st : Stmt} {t : TS} (h : PS X st t) : PS X st (tFree t) := ⟨fun pins s σ H D I q => q.elim ((ps_lock h).run pins s σ H D I) (h.run pins s σ H D I)⟩
section
variable {E : XS} {δ : DEnv} {P : Post} {te ta tb tl : TE} {t u : TS} {d x y z : Dn} {i : Nat} {v : V} {K : PySem.W.Frag} {tt : TT} {φ : List Nat → Option Dn} {p : List Nat}
theorem nd_take {α : Type} [DecidableEq α] : ∀ {l : List α} {n : Nat} {x : α}, l.Nodup → l[n]? = some x → ¬ x ∈ l.take n
  | [], _, _, _, e => by simp at e
  | a :: r, 0, _, _, _ => by simp
  | a :: r, n + 1, x, h, e => fun z => by
    have h2 := List.nodup_cons.mp h
    have e' : r[n]? = some x := by simpa using e
    rw [List.take_succ_cons] at z
    rcases List.mem_cons.mp z with q | q
    · subst q; exact h2.1 (List.mem_of_getElem? e')
    · exact nd_take h2.2 e' q
theorem forK_body {G0 H0 G : Hp} {a : Addr} {o : Obj} {kws : List (Key × V)} {rs : List (List Nat × Dn)} {σ : St} {H : Hp} {D : Ends} (f : Fit φ rs) (kk : kws.map (·.1) = (rs.map (·.1)).map fun p => Sum.inr (cS p))
    (R : Rep G0 H0 G δ σ H) (ga : G a = some (.frz o (.dK kws))) (I : List (List Nat) → DEnv → Prop) (h0 : I [] δ)
    (hs : ∀ l p δ', I l δ' → (φ p).isSome = true → ¬ p ∈ l → Sx E t (δ'.set i (some (.im (dC p)))) { nx := I (l ++ [p]), rt := .im dF, ct := I (l ++ [p]) })
    (hd : ∀ l δ' G' σ' H', (∀ p, p ∈ l ↔ (φ p).isSome = true) → I l δ' → Rep G0 H0 G' δ' σ' H' → Same G G' → D.nx σ' H') :
    ∃ W : Nat → Nat → St → Hp → Prop, (∃ m, W 0 m σ H) ∧ ∀ i' m σ H, W i' m σ H →
      ((Itk a o kws).stop i' H ∧ D.nx σ H) ∨ ((Itk a o kws).go i' H ∧ ∃ N : St → Hp → Prop, (∀ σ' H', N σ' H' → ∃ m', m' < m ∧ W (i' + 1) m' σ' H') ∧ ∀ x H', (Itk a o kws).yld i' H x H' → gName i x σ H' fun σ2 H2 => t { D with nx := N, ct := N, bk := D.nx } σ2 H2) := by
  have hlen : kws.length = rs.length := by simpa using congrArg List.length kk
  refine for_it walk_keys (fun n σ H => ∃ G' δ', I ((rs.map (·.1)).take n) δ' ∧ Rep G0 H0 G' δ' σ H ∧ Same G G') ⟨G, δ, h0, R, .refl _⟩ ?_ ?_ ?_
  · rintro n σ2 H2 _ ⟨G2, δ2, _, R2, s2⟩
    exact R2.sub a _ (s2 a _ ga)
  · rintro n x σ2 H2 H3 hn ⟨G2, δ2, i2, R2, s2⟩ ⟨e3, key, v, ek, ex⟩
    subst e3
    have hk : (kws.map (·.1))[n]? = some key := by rw [List.getElem?_map, ek]; rfl
    rw [kk, List.getElem?_map] at hk
    obtain ⟨p, ep, rfl⟩ := Option.map_eq_some_iff.mp hk
    have ex : x = .str (cS p) := ex
    subst ex
    have ft : (rs.map (·.1)).take (n + 1) = (rs.map (·.1)).take n ++ [p] := by rw [List.take_add_one, ep]; rfl
    refine hs _ p δ2 i2 (f.mem.mp (List.mem_of_getElem? ep)) (nd_take f.1 ep) G0 H0 G2 _ _ _ (R2.set (d := dC p) rfl i) ⟨?_, fun v G' H' g p => p.elim, fun _ _ _ _ z => z.elim, ?_, fun _ _ _ _ _ z => z.elim⟩
    · intro δ3 G3 σ3 H3 q R3 l3
      exact ⟨G3, δ3, by rw [ft]; exact q, R3, s2.trans l3⟩
    · intro δ3 G3 σ3 H3 q R3 l3
      exact ⟨G3, δ3, by rw [ft]; exact q, R3, s2.trans l3⟩
  · rintro σ2 H2 ⟨G2, δ2, i2, R2, s2⟩
    rw [hlen, List.take_of_length_le (by rw [List.length_map]; exact Nat.le_refl _)] at i2
    exact hd _ δ2 G2 σ2 H2 (fun p => f.mem) i2 R2 s2
/-- over a dict's keys: their order is the dict's own -/
theorem sx_forK (j : Nat) (hj : δ[j]? = some (some (.im (dFn φ)))) (I : List (List Nat) → DEnv → Prop) (h0 : I [] δ)
    (hs : ∀ l p δ', I l δ' → (φ p).isSome = true → ¬ p ∈ l → Sx E t (δ'.set i (some (.im (dC p)))) { nx := I (l ++ [p]), rt := .im dF, ct := I (l ++ [p]) })
    (hd : ∀ l δ', (∀ p, p ∈ l ↔ (φ p).isSome = true) → I l δ' → P.nx δ') : Sx E (tFree (tFor (iKeys (tVar j)) (gName i) t)) δ P := fun G0 H0 G σ H D R hD => by
  obtain ⟨v, e1, rs, f, a, kws, e2, r, kk⟩ := R.im j _ hj
  subst e2
  have kk' := kk.keys
  rcases r with r | ⟨o, r⟩
  · have hH := R.sub a _ r
    have hne : H a ≠ none := by rw [hH]; exact fun z => nomatch z
    refine .inl ⟨a, _, hH, True.intro, fun od => ?_⟩
    rw [← sw_upd hne]
    have ga : Sw a (.frz od (.dK kws)) G a = some (.frz od (.dK kws)) := sw_at (by rw [r]; exact fun z => nomatch z)
    refine ⟨_, e1, a, od, rfl, .inl ⟨kws, sw_at hne, forK_body f kk' (R.sw r rfl) ga I h0 hs fun l δ' G' σ' H' hl hI R' s' => ?_⟩⟩
    have ga' := s' a _ ga
    have hH' := R'.sub a _ ga'
    refine ⟨hH', ?_⟩
    have R2 := R'.sw (u' := .dK kws) ga' rfl
    rw [sw_sw fun o e => ?_, sw_sw fun o e => ?_] at R2
    · rw [sw_upd (f := H') (by rw [hH']; exact fun z => nomatch z)] at R2
      refine hD.nx δ' _ σ' _ (hd l δ' hl hI) R2 ?_
      have s2 := Same.sw (a := a) (u := .dK kws) s'
      rwa [sw_sw fun o e => by rw [r] at e; exact (Option.some.inj e).symm] at s2
    · have := R.gr.ext a o e
      rw [hH] at this
      exact (Option.some.inj this).symm
    · have := R.gr.le a o e
      rw [r] at this
      exact (Option.some.inj this).symm
  · refine .inr ⟨_, e1, a, o, rfl, .inl ⟨kws, R.sub a _ r, forK_body f kk' R r I h0 hs fun l δ' G' σ' H' hl hI R' s' => hD.nx δ' G' σ' H' (hd l δ' hl hI) R' s'⟩⟩
/-! ### {k: v} -/
theorem eo_disp1 (h1 : Ev E ta δ (.ok (dC p))) (h2 : Ev E tb δ (.ok d)) : Ev E (tDisp [(ta, tb)]) δ (.own (oFn fun q => if q = p then some d else none)) := fun G0 H0 G σ H Q R q n hn => by
  have g0 : Gr G H G (upd H n (.dK [])) := .skip R.sub hn
  refine h1 G0 H0 G σ _ _ (R.go g0) fun u G1 H1 g1 p1 => h2 G0 H0 G1 σ H1 _ ((R.go g0).go g1) fun w G2 H2 g2 p2 => ?_
  have p1 : u = .str (cS p) := p1
  subst p1
  have g := g0.trans (g1.trans g2)
  have hN : H2 n = some (.dK []) := (g1.trans g2).ext n _ upd_same
  have gn : G2 n = none := by
    cases e : G2 n with
    | none => rfl
    | some o =>
      have := (g1.trans g2).new n (R.sub.free hn) (by rw [e]; exact fun z => nomatch z)
      rw [upd_same] at this; cases this
  refine ⟨hN, [(.inr (cS p), w)], rfl, by show 1 ≤ 15; decide, ?_⟩
  refine q n (.dK [(.inr (cS p), w)]) G2 _ ⟨g.le, fun b o e => ?_, fun b o e => ?_, g.new⟩ hn gn upd_same ⟨[(p, d)], ⟨by simp, fun q => ?_⟩, _, rfl, rfl, p2, True.intro⟩
  · rw [upd_ne (ne_of_none e gn)]; exact g.sub b o e
  · rw [upd_ne (ne_of_none e hn)]; exact g.ext b o e
  · by_cases z : q = p
    · subst z; simp
    · have z1 : (q == p) = false := by simpa using z
      simp [List.lookup_cons, z1, z]
end
end HM
/-! Values of which only so much is known; own classes' facts; a def that is lent an own dict. -/
namespace HM
open PySem L2
/-- one of many -/
def dEx {α : Type} (p : α → Prop) (d : α → Dn) : Dn := ⟨fun G v => ∃ a, p a ∧ (d a).p G v, fun h ⟨a, q, r⟩ => ⟨a, q, Dn.mono _ h r⟩⟩
def oEx {α : Type} (p : α → Prop) (c : α → On) : On := ⟨fun G a o => ∃ x, p x ∧ (c x).p G a o, fun h ⟨x, q, r⟩ => ⟨x, q, On.mono _ h r⟩⟩
/-- a whole number from lo on, below hi -/
abbrev dZ (lo hi : Int) : Dn := dEx (fun i : Int => lo ≤ i ∧ i < hi) dI
section
variable {α : Type} {p : α → Prop} {dd : α → Dn} {E : XS} {δ : DEnv} {P : Post} {te ta tb tl : TE} {t u : TS} {d x y z : Dn} {i : Nat} {v : V} {K : PySem.W.Frag} {tt : TT} {r : R2}
theorem ev_ex (a : α) (h : p a) (q : Ev E te δ (.ok (dd a))) : Ev E te δ (.ok (dEx p dd)) := ev_imp q fun _ _ w => ⟨a, h, w⟩
theorem rv_ex1 (h : ∀ a, p a → Rv r (dd a) y z) : Rv r (dEx p dd) y z := fun G H u v Q sm ⟨a, q, w⟩ h2 k => h a q G H u v Q sm w h2 k
theorem rv_ex2 (h : ∀ a, p a → Rv r x (dd a) z) : Rv r x (dEx p dd) z := fun G H u v Q sm h1 ⟨a, q, w⟩ k => h a q G H u v Q sm h1 w k
theorem rv_exI (a : α) (h : p a) (q : Rv r x y (dd a)) : Rv r x y (dEx p dd) := fun G H u v Q sm h1 h2 k => q G H u v Q sm h1 h2 fun w G' H' g pw => k w G' H' g ⟨a, h, pw⟩
theorem sx_asgE (h : Ev E te δ (.ok (dEx p dd))) (k : ∀ a, p a → P.nx (δ.set i (some (.im (dd a))))) : Sx E (tAsg te (gName i)) δ P := fun G0 H0 G σ H D R hd =>
  h G0 H0 G σ H _ R fun v G' H' g ⟨a, q, w⟩ => hd.nx _ G' _ H' (k a q) ((R.go g).set w i) g.le
/-- what a slot holds is looked at -/
theorem sx_open (j : Nat) (hj : δ[j]? = some (some (.im (dEx p dd)))) (h : ∀ a, p a → Sx E t (δ.set j (some (.im (dd a)))) P) : Sx E t δ P := fun G0 H0 G σ H D R hd => by
  obtain ⟨v, e, a, q, w⟩ := R.im j _ hj
  have R2 := R.set w j
  have es : σ.set j (some v) = σ := by
    refine List.ext_getElem? fun n => ?_
    by_cases z : j = n
    · subst z
      rw [List.getElem?_set_self (List.getElem?_eq_some_iff.mp e).1, e]
    · rw [List.getElem?_set_ne z]
  rw [es] at R2
  exact h a q G0 H0 G σ H D R2 hd
theorem sx_openO {c : α → On} (j : Nat) (hj : δ[j]? = some (some (.ow (oEx p c)))) (h : ∀ a, p a → Sx E t (δ.set j (some (.ow (c a)))) P) : Sx E t δ P := fun G0 H0 G σ H D R hd => by
  obtain ⟨a, o, e1, e2, ⟨x, q, w⟩, e4, e5⟩ := R.ow j _ hj
  refine h x q G0 H0 G σ H D ⟨R.gr, by rw [List.length_set]; exact R.len, fun n d hn => ?_, fun n c' hn => ?_, fun n m c1 c2 b h1 h2 h3 h4 => ?_⟩ hd
  · by_cases z : j = n
    · subst z; rw [List.getElem?_set_self (List.getElem?_eq_some_iff.mp hj).1] at hn; cases hn
    · rw [List.getElem?_set_ne z] at hn; exact R.im n d hn
  · by_cases z : j = n
    · subst z; rw [List.getElem?_set_self (List.getElem?_eq_some_iff.mp hj).1] at hn; cases hn
      exact ⟨a, o, e1, e2, w, e4, e5⟩
    · rw [List.getElem?_set_ne z] at hn; exact R.ow n c' hn
  · have f : ∀ n c1, (δ.set j (some (.ow (c x))))[n]? = some (some (Sl.ow c1)) → ∃ c2, δ[n]? = some (some (Sl.ow c2)) := fun n c1 hn => by
      by_cases z : j = n
      · subst z; exact ⟨_, hj⟩
      · rw [List.getElem?_set_ne z] at hn; exact ⟨_, hn⟩
    obtain ⟨_, z1⟩ := f n c1 h1
    obtain ⟨_, z2⟩ := f m c2 h2
    exact R.dj n m _ _ b z1 z2 h3 h4
theorem oEx_ev {c : α → On} (a : α) (h : p a) (q : Ev E te δ (.own (c a))) : Ev E te δ (.own (oEx p c)) := fun G0 H0 G σ H Q R k => q G0 H0 G σ H Q R fun b o G' H' g h1 h2 h3 w => k b o G' H' g h1 h2 h3 ⟨a, h, w⟩
/-- an own slot handed back, as one of many -/
theorem sx_retVE {c : α → On} (j : Nat) (a : α) (h : p a) (hj : δ[j]? = some (some (.ow (c a)))) (k : P.rt = .ow (oEx p c)) : Sx E (tRet (tVar j)) δ P := fun G0 H0 G σ H D R hd => by
  obtain ⟨b, o, e1, e2, e3, e4, e5⟩ := R.ow j _ hj
  have q := hd.rt
  rw [k] at q
  exact ⟨_, e1, q b o G H R.gr e5 e4 e2 ⟨a, h, e3⟩⟩
end
section
variable {α : Type} {p : α → Prop} {dd : α → Dn} {E : XS} {δ : DEnv} {P : Post} {te ta tb tl : TE} {t u : TS} {i : Nat} {K : PySem.W.Frag}
theorem sx_asgOE {c : α → On} (h : Ev E te δ (.own (oEx p c))) (k : ∀ a, p a → P.nx (δ.set i (some (.ow (c a))))) : Sx E (tAsg te (gName i)) δ P := fun G0 H0 G σ H D R hd =>
  h G0 H0 G σ H _ R fun a o G' H' g ha ga ea ⟨x, px, w⟩ => hd.nx _ G' _ H' (k x px) ((R.go g).setO ea w ga (R.gr.ext.free ha) (fun j c' e1 e2 => by
    obtain ⟨b, o', q1, q2, _⟩ := R.ow j c' e1
    rw [q1] at e2; cases e2
    rw [ha] at q2; cases q2) i) g.le
theorem ev_tup1E (h : Ev E te δ (.ok (dEx p dd))) : Ev E (tTup (tCons te tNil)) δ (.ok (dEx p fun a => dT K [dd a])) :=
  ev_imp (ev_tup (K := K) (ea_cons h ea_nil) (show 1 ≤ 1000 by decide)) fun G v ⟨a, vs, e, t, r⟩ => by
    obtain ⟨u, eu, x, px, hx⟩ := Reps_one r
    exact ⟨x, px, a, vs, e, t, by rw [eu]; exact ⟨hx, True.intro⟩⟩
theorem eo_disp1E {k : List Nat} (h1 : Ev E ta δ (.ok (dC k))) (h2 : Ev E tb δ (.ok (dEx p dd))) : Ev E (tDisp [(ta, tb)]) δ (.own (oEx p fun a => oFn fun q => if q = k then some (dd a) else none)) := fun G0 H0 G σ H Q R q n hn => by
  have g0 : Gr G H G (upd H n (.dK [])) := .skip R.sub hn
  refine h1 G0 H0 G σ _ _ (R.go g0) fun u G1 H1 g1 p1 => h2 G0 H0 G1 σ H1 _ ((R.go g0).go g1) fun w G2 H2 g2 ⟨x, px, p2⟩ => ?_
  have p1 : u = .str (cS k) := p1
  subst p1
  have g := g0.trans (g1.trans g2)
  have hN : H2 n = some (.dK []) := (g1.trans g2).ext n _ upd_same
  have gn : G2 n = none := by
    cases e : G2 n with
    | none => rfl
    | some o =>
      have := (g1.trans g2).new n (R.sub.free hn) (by rw [e]; exact fun z => nomatch z)
      rw [upd_same] at this; cases this
  refine ⟨hN, [(.inr (cS k), w)], rfl, by show 1 ≤ 15; decide, ?_⟩
  refine q n (.dK [(.inr (cS k), w)]) G2 _ ⟨g.le, fun b o e => ?_, fun b o e => ?_, g.new⟩ hn gn upd_same ⟨x, px, [(k, dd x)], ⟨by simp, fun q => ?_⟩, _, rfl, rfl, p2, True.intro⟩
  · rw [upd_ne (ne_of_none e gn)]; exact g.sub b o e
  · rw [upd_ne (ne_of_none e hn)]; exact g.ext b o e
  · by_cases z : q = k
    · subst z; simp
    · have z1 : (q == k) = false := by simpa using z
      simp [List.lookup_cons, z1, z]
theorem sx_dputE {φ : List Nat → Option Dn} {k : List Nat} (j : Nat) (hj : δ[j]? = some (some (.ow (oFn φ)))) (hv : Ev E te δ (.ok (dEx p dd))) (hb : Ev E tb δ (.ok (dC k))) (L : List (List Nat)) (hL : ∀ q, (φ q).isSome = true → q ∈ L) (hl : L.length ≤ 100000)
    (kk : ∀ a, p a → P.nx (δ.set j (some (.ow (oFn fun q => if q = k then some (dd a) else φ q))))) : Sx E (sDPut (tVar j) tb te) δ P := fun G0 H0 G σ H D R hd =>
  hv G0 H0 G σ H _ R fun v G1 H1 g1 ⟨x, px, p1⟩ => by
    have one : Ev E (fun σ' H' Q => Q v H') δ (.ok (dV v)) := fun G0 H0 G σ H Q R q => q v G H (.refl R.sub) rfl
    have R1 := R.go g1
    obtain ⟨a, o, e1, e2, ⟨rs, f, kws, e, kk'⟩, e4, e5⟩ := R1.ow j _ hj
    subst e
    refine ⟨_, e1, hb G0 H0 G1 σ H1 _ R1 fun w G2 H2 g2 p2 => ?_⟩
    have p2 : w = .str (cS k) := p2
    subst p2
    have hk : kws.length < sizeLine := by
      have h1 := f.len hL
      have h2 : kws.length = rs.length := by simpa using congrArg List.length kk'.keys
      rw [h2]
      exact Nat.lt_of_le_of_lt (Nat.le_trans h1 hl) (by decide)
    refine ⟨a, _, rfl, DPut.k (k := .inr (cS k)) (g2.ext a _ e2) hk, ?_⟩
    exact hd.nx _ G2 _ _ (kk x px) ((R1.go g2).mut hj e1 ⟨_, f.put, _, rfl, (kk'.mono (.of g2.le)).put ((dd x).mono (.of g2.le) p1)⟩) (g1.le.trans g2.le)
/-- lent, for a value that holds no place -/
theorem ev_lendX {φ : List Nat → Option Dn} {d : Dn} (j : Nat) (hj : δ[j]? = some (some (.ow (oFn φ)))) (hd : ∀ G G' v, d.p G v → d.p G' v) (h : Ev E te (δ.set j (some (.im (dFn φ)))) (.ok d)) : Ev E te δ (.ok d) := fun G0 H0 G σ H Q R q => by
  obtain ⟨a, o, e1, e2, ⟨rs, f, kws, e, k⟩, e4, e5⟩ := R.ow j _ hj
  subst e
  refine h G0 H0 _ σ H Q (R.pub hj e1 e2 ⟨rs, f, a, kws, rfl, .inl upd_same, k.mono (.of (Same.new e4 _))⟩) fun w G' H' g p => ?_
  exact q w G H' ⟨.refl _, R.sub.trans g.ext, g.ext, fun b h1 h2 => absurd h1 h2⟩ (hd _ _ _ p)
end
/-! ### own classes -/
structure ClOk (K : PySem.W.Frag) (mg : Str → Option Value) (x : Str) (C : Addr) : Prop where
  g : mg x = some (.ref C)
  c : Cls K C
  k : PySem.W.keepIn K (.ref C) = true
  t : PySem.W.typeIn K (.ref C) = some (.type "type")
  a : PySem.W.findIn K (.ref C) "__class__" = some (some (.builtin "object.__class__"))
  n : PySem.W.specialIn K (.builtin "object.__class__") "__get__" = some (some (.builtin "getset_descriptor.__get__"))
  tk : PySem.W.takesIn K (.builtin "object.__class__") = some true
  m : PySem.W.mroIn K C (.type "object") = some true
  s : PySem.W.subIn K (.ref C) (.ref C) = some true
section
variable {K : PySem.W.Frag} {mg : Str → Option Value} {x y : Str} {C D : Addr} {b : Bool} {fds : List (Str × Dn)}
theorem ty_O (T : ClOk K mg x C) : Ty K (dO C fds) (.ref C) := fun G v ⟨a, dx, fs, e, t, r⟩ => by
  subst e
  exact .base (.ins t T.c T.a T.n T.tk T.m)
theorem kit_o (T : ClOk K mg x C) (U : ClOk K mg y D) (h : PySem.W.subIn K (.ref C) (.ref D) = some b) : PySem.W.kitOne K (.ref C) (.ref D) = some b := by
  unfold PySem.W.kitOne
  split
  · rename_i e
    have e : C = D := by simpa using e
    subst e
    rw [T.s] at h
    exact h
  · unfold PySem.W.kitCls
    have hi : (PySem.W.clsIn K D).isSome = true := by
      obtain ⟨cd, hc, _⟩ := PySem.W.any_some U.c.hd
      rw [hc]; rfl
    have h2 : ((PySem.W.clsIn K D).isSome && PySem.W.typeIn K (.ref D) == some (.type "type")) = true := by
      rw [hi, U.t] <;> rfl
    simp only [h2, if_true]
    exact h
end
/-- a method as the top has left it -/
structure Mf (K : PySem.W.Frag) (x qual : Str) (st : Stmt) (ps : List Str) (f : Addr) (fd : FuncData) : Prop where
  F : Fun K x qual st f fd
  b : Binds K fd ps []
/-- the same with one default, the empty text u -/
structure MfD (K : PySem.W.Frag) (x qual : Str) (st : Stmt) (ps : List Str) (f : Addr) (fd : FuncData) (u : Value) : Prop where
  F : FunD K x qual (defArgs st) (defBody st) (defScope st) [.str (cS [])] [] f fd
  r : Vals [.str (cS [])] [u]
  b1 : Binds K fd ps [u]
  b0 : Binds K fd ps []
section
variable {P : Program} {w : World} {K : PySem.W.Frag} {mg : Str → Option Value} {base : Heap} {x qual : Str} {st : Stmt} {f : Addr} {fd : FuncData} {N ps : List Str} {k : Nat} {S : Sem'} {dvs : List V}
theorem fn0D (F : FunD K x qual (defArgs st) (defBody st) (defScope st) dvs [] f fd) (sc : FnScope N ps (defScope st)) (len : ∀ ds r, S ds r → ds.length = ps.length)
    (body : ∀ (cdv : Value) (A : Around) (outer : List PySem.Env) (s : Shared) (H : Hp) (E : XK) (ds : List Dn) (r : Res), Room k (A.deeper (PyProof.Rows.envOfC qual (defScope st) s.heap.objs.size f cdv)) → S ds r →
      ∃ t, PSs (cxOf CX0 P w K mg base N qual (defScope st) f cdv A outer s H E).nox (defBody st) t ∧ Sx (fun _ => E) t (entry N ds) (postOf r)) : FnOk P w K mg base CX0 (k + 1) f fd ps (spD S) := by
  refine F.ok sc (fun vs H Q E ⟨G, ds, r, s, rp, _⟩ => rp.len.trans (len ds r s)) fun cdv A outer s H vs Q E hr ⟨G, ds, r, hs, rp, sm, o⟩ => ?_
  obtain ⟨t, h1, h2⟩ := body cdv A outer s H E ds r hr hs
  exact ⟨t, h1.nox, h2 G H G _ H _ (Rep.entry N rp sm) (.of o)⟩
theorem fn_vac {CX : CXT} (h : ∀ ds r, S ds r → False) : FnOk P w K mg base CX k f fd ps (spD S) :=
  ⟨fun vs H Q E ⟨G, ds, r, s, _⟩ => (h ds r s).elim, fun A outer s H args us vs Q E _ _ _ _ ⟨G, ds, r, s, _⟩ => (h ds r s).elim⟩
end
/-! ### evaluation that changes what slots own -/
def Em (E : XS) (te : TE) (δ : DEnv) (d : Dn) : Prop := ∀ G0 H0 G σ H (Q : VK), Rep G0 H0 G δ σ H → (∀ v G' H', Rep G0 H0 G' δ σ H' → Same G G' → d.p G' v → Q v H') → te σ H Q
def Ema (E : XS) (ta : TA) (δ : DEnv) (ds : List Dn) : Prop := ∀ G0 H0 G σ H (Q : List V → Hp → Prop), Rep G0 H0 G δ σ H → (∀ vs G' H', Rep G0 H0 G' δ σ H' → Same G G' → Reps G' ds vs → Q vs H') → ta σ H Q
/-- a def that is lent the thing at x (its last argument) -/
abbrev SemK := List Dn → Dn → Prop
def spK {α : Type} (S : α → SemK) (oc : α → Addr → On) : Sp := fun vs H Q _ => ∃ (i : α) (x : Addr) (us : List V) (o : HO) (G H0 : Hp) (ds : List Dn) (d : Dn), vs = us ++ [.ref x] ∧ S i ds d ∧ Reps G ds us ∧ Same G H0 ∧ H0 x = none ∧ H = upd H0 x o ∧ (oc i x).p G x o ∧
  ∀ v G' H' o', Gr G H0 G' H' → G' x = none → H' x = some o' → (oc i x).p G' x o' → d.p G' v → Q v H'
def spDK {α : Type} (S : Sem') (S2 : α → SemK) (oc : α → Addr → On) : Sp := fun vs H Q E => spD S vs H Q E ∨ spK S2 oc vs H Q E
section
variable {E : XS} {E' : XK} {δ : DEnv} {P : Post} {te ta tb tl : TE} {t u : TS} {d x y z : Dn} {i : Nat} {v : V} {K : PySem.W.Frag} {tt : TT} {r : R2} {targ : TA} {ds : List Dn} {C : Addr} {fds : List (Str × Dn)} {S : SemI}
theorem em_of (h : Ev E te δ (.ok d)) : Em E te δ d := fun G0 H0 G σ H Q R q => h G0 H0 G σ H Q R fun v G' H' g p => q v G' H' (R.go g) g.le p
theorem ema_nil : Ema E tNil δ [] := fun G0 H0 G σ H Q R q => q [] G H R (.refl G) True.intro
theorem ema_cons {tr : TA} (h : Em E te δ d) (hr : Ema E tr δ ds) : Ema E (tCons te tr) δ (d :: ds) := fun G0 H0 G σ H Q R q =>
  h G0 H0 G σ H _ R fun u G1 H1 R1 s1 p1 => hr G0 H0 G1 σ H1 _ R1 fun us G2 H2 R2 s2 p2 => q (u :: us) G2 H2 R2 (s1.trans s2) ⟨d.mono (.of s2) p1, p2⟩
theorem em_make (h : Ema E targ δ ds) (s : S ds (.inl fds)) : Em E (tMake C (spI C S) [] E' targ) δ (dO C fds) := fun G0 H0 G σ H Q R q =>
  h G0 H0 G σ H _ R fun vs G1 H1 R1 s1 p1 x dx hx hdx ne => by
    refine ⟨x, dx, vs, G1, upd H1 dx (.own x), ds, _, by rw [List.append_nil], s, p1, R1.sub.trans (Same.new hdx _), by rw [upd_ne (Ne.symm ne)]; exact hx, rfl, fun G' H' o g' gx hxo ⟨_, dx', fs, e, r⟩ => ⟨rfl, ?_⟩⟩
    subst e
    have g2 : Gr G1 H1 G' H' := (Gr.skip (o := .own x) R1.sub hdx).trans g'
    have g3 : Gr G1 H1 (upd G' x (.ins C dx' fs)) H' := ⟨g2.le.trans (Same.new gx _), fun b u e => by
      by_cases z : b = x
      · subst z; rw [upd_same] at e; cases e; exact hxo
      · rw [upd_ne z] at e; exact g2.sub b u e, g2.ext, fun b h1 h2 => by
      by_cases z : b = x
      · subst z; exact hx
      · rw [upd_ne z] at h2; exact g2.new b h1 h2⟩
    exact q (.ref x) _ H' (R1.go g3) (s1.trans g3.le) ⟨x, dx', fs, rfl, upd_same, r.mono (.of (Same.new gx _))⟩
theorem sx_retM {c : On} {X : Addr} (h : Em E te δ d) (j : Nat) (hj : δ[j]? = some (some (.ow c))) (hx : ∀ G a o, c.p G a o → a = X) (k : P.rt = .ik d X c) : Sx E (tRet te) δ P := fun G0 H0 G σ H D R hd =>
  h G0 H0 G σ H _ R fun v G' H' R' s p => by
    obtain ⟨a, o, e1, e2, e3, e4, e5⟩ := R'.ow j _ hj
    have q := hd.rt
    rw [k] at q
    have ea := hx _ _ _ e3
    subst ea
    exact q v o G' H' R'.gr e4 e2 e3 p
theorem sx_retM2 {c c' : On} {X : Addr} (h : Em E te δ d) (j : Nat) (hj : δ[j]? = some (some (.ow c))) (hx : ∀ G a o, c.p G a o → a = X) (hc : ∀ G a o, c.p G a o → c'.p G a o) (k : P.rt = .ik d X c') : Sx E (tRet te) δ P := fun G0 H0 G σ H D R hd =>
  h G0 H0 G σ H _ R fun v G' H' R' s p => by
    obtain ⟨a, o, e1, e2, e3, e4, e5⟩ := R'.ow j _ hj
    have q := hd.rt
    rw [k] at q
    have ea := hx _ _ _ e3
    subst ea
    exact q v o G' H' R'.gr e4 e2 (hc _ _ _ e3) p
/-- an own thing is not None -/
theorem et_ownN {c : On} (j : Nat) (hj : δ[j]? = some (some (.ow c))) : Et E (tTest (tOp (fun x y H Q => y = .non ∧ Q (.bl (decide (x = .non))) H) (tVar j) (tC .non))) δ false := fun G0 H0 G σ H Q R q => by
  obtain ⟨a, o, e1, e2, e3, e4, e5⟩ := R.ow j _ hj
  exact ⟨_, e1, rfl, false, by rw [decide_eq_false (fun z => nomatch z)], q G H (.refl R.sub)⟩
/-- behind a call that was lent the thing that slot j owns -/
theorem Rep.lent {G0 H0 G H G' H' : Hp} {σ : St} {c : On} {a : Addr} {o' : HO} {j : Nat} (R : Rep G0 H0 G δ σ H) (hj : δ[j]? = some (some (.ow c))) (ea : σ[j]? = some (some (.ref a))) (g : Gr G (fun b => if b = a then none else H b) G' H') (ga : G' a = none) (ha : H' a = some o') (p : c.p G' a o') :
    Rep G0 H0 G' δ σ H' := by
  obtain ⟨a', o, e1, e2, e3, e4, e5⟩ := R.ow j _ hj
  rw [ea] at e1; cases e1
  have ext : ∀ b u, b ≠ a → H b = some u → H' b = some u := fun b u ne e => g.ext b u (by rw [if_neg ne]; exact e)
  have newG : ∀ b, b ≠ a → H b ≠ none → G b = none → G' b = none := fun b ne hb gb => by
    cases q : G' b with
    | none => rfl
    | some u =>
      have z := g.new b gb (by rw [q]; exact fun z => nomatch z)
      rw [if_neg ne] at z
      exact absurd z hb
  refine ⟨⟨R.gr.le.trans g.le, g.sub, fun b u e => ext b u (fun z => by subst z; rw [e5] at e; cases e) (R.gr.ext b u e), fun b h1 h2 => ?_⟩, R.len, fun i d h => ?_, fun i c' h => ?_, R.dj⟩
  · by_cases q : G b = none
    · have z := g.new b q h2
      by_cases w : b = a
      · subst w; exact e5
      · rw [if_neg w] at z; exact R.gr.ext.free z
    · exact R.gr.new b h1 q
  · obtain ⟨v, q1, q2⟩ := R.im i d h
    exact ⟨v, q1, d.mono (.of g.le) q2⟩
  · obtain ⟨b, o2, q1, q2, q3, q4, q5⟩ := R.ow i c' h
    by_cases w : b = a
    · subst w
      have := R.dj i j _ _ b h hj q1 ea
      subst this
      rw [hj] at h; cases h
      exact ⟨b, o', q1, ha, p, ga, q5⟩
    · exact ⟨b, o2, q1, ext b o2 w q2, c'.mono (.of g.le) q3, newG b w (by rw [q2]; exact fun z => nomatch z) q4, q5⟩
theorem em_callK {α : Type} {S1 : Sem'} {S2 : α → SemK} {oc : α → Addr → On} {X : Addr} {a1 a2 : Dn} (i : α) (j : Nat) (hj : δ[j]? = some (some (.ow (oc i X)))) (hx : ∀ G a o, (oc i X).p G a o → a = X) (h1 : Em E ta δ a1) (h2 : Em E tb δ a2) (s : S2 i [a1, a2] d) :
    Em E (tCall (spDK S1 S2 oc) [] E' (tCons ta (tCons tb (tCons (tVar j) tNil)))) δ d := fun G0 H0 G σ H Q R q =>
  h1 G0 H0 G σ H _ R fun u1 G1 H1 R1 s1 p1 => h2 G0 H0 G1 σ H1 _ R1 fun u2 G2 H2 R2 s2 p2 => by
    obtain ⟨a, o, e1, e2, e3, e4, e5⟩ := R2.ow j _ hj
    have ea := hx _ _ _ e3
    subst ea
    refine ⟨_, e1, .inr ⟨i, a, [u1, u2], o, G2, fun b => if b = a then none else H2 b, [a1, a2], d, rfl, s, ⟨a1.mono (.of s2) p1, p2, True.intro⟩, fun b u e => ?_, if_pos rfl, ?_, e3, fun v G' H' o' g ga ha po pd => ?_⟩⟩
    · show (if b = a then none else H2 b) = some u
      rw [if_neg (fun z => by subst z; rw [e4] at e; cases e)]
      exact R2.sub b u e
    · funext b
      by_cases z : b = a
      · subst z; rw [upd_same, e2]
      · rw [upd_ne z, if_neg z]
    · exact q v G' H' (R2.lent hj e1 g ga ha po) (s1.trans (s2.trans g.le)) pd
/-- a call that is lent nothing -/
theorem ev_callD {α : Type} {S1 : Sem'} {S2 : α → SemK} {oc : α → Addr → On} (h : Ea E targ δ ds) (s : S1 ds (.ok d)) : Ev E (tCall (spDK S1 S2 oc) [] E' targ) δ (.ok d) := fun G0 H0 G σ H Q R q =>
  h G0 H0 G σ H _ R fun vs G1 H1 g1 p1 => .inl ⟨G1, ds, _, s, by rw [List.append_nil]; exact p1, g1.sub, fun v G' H' g p => q v G' H' (g1.trans g) p⟩
end
section
variable {E : XS} {δ : DEnv} {te ta : TE} {K : PySem.W.Frag} {φ : List Nat → Option Dn}
/-- list(own list) -/
theorem eo_listO {ds : List Dn} (j : Nat) (hj : δ[j]? = some (some (.ow (oL ds)))) : Ev E (tCB (rListL K) (tCons (tVar j) tNil)) δ (.own (oL ds)) := fun G0 H0 G σ H Q R q => by
  obtain ⟨a, o, e1, e2, ⟨vs, e, r⟩, e4, e5⟩ := R.ow j _ hj
  subst e
  exact ⟨_, e1, a, vs, rfl, .inl (.of e2), fun p hp => q p _ G _ (.skip R.sub hp) hp (R.sub.free hp) upd_same ⟨_, rfl, r⟩⟩
theorem ev_pubF (h : Ev E te δ (.own (oFn φ))) : Ev E te δ (.ok (dFn φ)) := fun G0 H0 G σ H Q R q =>
  h G0 H0 G σ H Q R fun a o G' H' g ha ga ea ⟨rs, f, kws, e, k⟩ => by
    subst e
    refine q (.ref a) (upd G' a (.dK kws)) H' ⟨g.le.trans (Same.new ga _), fun b u e => ?_, g.ext, fun b h1 h2 => ?_⟩ ⟨rs, f, a, kws, rfl, .inl upd_same, k.mono (.of (Same.new ga _))⟩
    · by_cases z : b = a
      · subst z; rw [upd_same] at e; cases e; exact ea
      · rw [upd_ne z] at e; exact g.sub b u e
    · by_cases z : b = a
      · subst z; exact ha
      · rw [upd_ne z] at h2; exact g.new b h1 h2
/-- f(a, b, [None, {}][i]), f a def that may be lent a dict -/
theorem ev_callN {E' : XK} {ta tb ti : TE} {S1 : Sem'} {α : Type} {S2 : α → SemK} {oc : α → Addr → On} {a b d : Dn} {i : Int} (h1 : Ev E ta δ (.ok a)) (h2 : Ev E tb δ (.ok b)) (h3 : Ev E ti δ (.ok (dI i))) (hi : i = 0 ∨ i = 1) (s1 : S1 [a, b, dN] (.ok d)) (k : α) (s2 : S2 k [a, b] d)
    (ok : ∀ G x, (oc k x).p G x (.dT [])) : Ev E (tCall (spDK S1 S2 oc) [] E' (tCons ta (tCons tb (tCons (tSubU K (tLst (tCons (tC .non) (tCons tDNewT tNil))) ti) tNil)))) δ (.ok d) := fun G0 H0 G σ H Q R q =>
  h1 G0 H0 G σ H _ R fun u1 G1 H1 g1 p1 => h2 G0 H0 G1 σ H1 _ (R.go g1) fun u2 G2 H2 g2 p2 => by
    have R2 := (R.go g1).go g2
    refine .inl fun n hn => ⟨by show 2 ≤ sizeLine; decide, fun l hl => ?_⟩
    have gn : Gr G2 H2 G2 (upd H2 n (.dT [])) := .skip R2.sub hn
    have gl := gn.trans (Gr.skip (o := .lst [.non, .ref n]) gn.sub hl)
    refine h3 G0 H0 G2 σ _ _ (R2.go gl) fun w G3 H3 g3 p3 => ?_
    have p3 : w = .int i := p3
    subst p3
    have g := g1.trans (g2.trans (gl.trans g3))
    have nl : n ≠ l := fun z => by subst z; rw [upd_same] at hl; cases hl
    have e1 : upd (upd H2 n (.dT [])) l (.lst [.non, .ref n]) l = some (.lst [.non, .ref n]) := upd_same
    have e2 : upd (upd H2 n (.dT [])) l (.lst [.non, .ref n]) n = some (.dT []) := by rw [upd_ne nl]; exact upd_same
    have e3 := g3.ext l _ e1
    have e4 := g3.ext n _ e2
    have r12 : Reps G3 [a, b] [u1, u2] := ⟨a.mono (.of (g2.le.trans (gl.le.trans g3.le))) p1, b.mono (.of (gl.le.trans g3.le)) p2, True.intro⟩
    rcases hi with rfl | rfl
    · refine .inl ⟨l, _, 0, .non, rfl, rfl, .of e3, rfl, .inl ⟨G3, [a, b, dN], _, s1, ⟨r12.1, r12.2.1, rfl, True.intro⟩, g.sub, fun v G' H' g' p => q v G' H' (g.trans g') p⟩⟩
    · have gn3 : G3 n = none := by
        cases e : G3 n with
        | none => rfl
        | some o =>
          have := g3.new n (R2.sub.free hn) (by rw [e]; exact fun z => nomatch z)
          rw [e2] at this; cases this
      have hH : upd (fun b => if b = n then none else H3 b) n (.dT []) = H3 := by
        funext b
        by_cases z : b = n
        · subst z; rw [upd_same, e4]
        · rw [upd_ne z, if_neg z]
      refine .inl ⟨l, _, 1, .ref n, rfl, rfl, .of e3, rfl, .inr ⟨k, n, [u1, u2], .dT [], G3, fun b => if b = n then none else H3 b, [a, b], d, rfl, s2, r12, fun b u e => ?_, if_pos rfl, hH.symm, ok G3 n, fun v G' H' o' g' gx hx po pd => ?_⟩⟩
      · show (if b = n then none else H3 b) = some u
        rw [if_neg fun z => by subst z; rw [gn3] at e; cases e]
        exact g.sub b u e
      · have hn0 : H n = none := g1.ext.free (g2.ext.free hn)
        refine q v G' H' ⟨g.le.trans g'.le, g'.sub, fun b u e => ?_, fun b h1 h2 => ?_⟩ pd
        · have ne : b ≠ n := fun z => by subst z; rw [hn0] at e; cases e
          exact g'.ext b u (by rw [if_neg ne]; exact g.ext b u e)
        · by_cases z : G3 b = none
          · have z2 := g'.new b z h2
            by_cases w : b = n
            · subst w; exact hn0
            · rw [if_neg w] at z2; exact g.ext.free z2
          · exact g.new b h1 z
end
def entryK (x : Addr) (oc : Addr → On) (N : List Str) (ds : List Dn) : DEnv := ds.map (fun d => some (.im d)) ++ some (.ow (oc x)) :: List.replicate (N.length - (ds.length + 1)) none
theorem Rep.entryK {G H0 : Hp} {x : Addr} {o : HO} {oc : Addr → On} {ds : List Dn} {vs : List V} (N : List Str) (r : Reps G ds vs) (s : Same G H0) (hx : H0 x = none) (po : (oc x).p G x o) :
    Rep G H0 G (entryK x oc N ds) (L2.start N (vs ++ [.ref x])) (upd H0 x o) := by
  have sm : Same H0 (upd H0 x o) := Same.new hx _
  have hl := r.len
  have hσ : L2.start N (vs ++ [.ref x]) = vs.map some ++ some (.ref x) :: List.replicate (N.length - (ds.length + 1)) none := by
    unfold L2.start
    rw [List.map_append, List.length_append, List.length_singleton, hl, List.append_assoc]
    rfl
  rw [hσ]
  have key : ∀ (i : Nat) s, (HM.entryK x oc N ds)[i]? = some (some s) → (∃ d, ds[i]? = some d ∧ s = .im d) ∨ (i = ds.length ∧ s = .ow (oc x)) := fun i s h => by
    unfold HM.entryK at h
    by_cases q : i < ds.length
    · rw [List.getElem?_append_left (by rw [List.length_map]; exact q), List.getElem?_map, List.getElem?_eq_getElem q] at h
      cases h
      exact .inl ⟨_, List.getElem?_eq_getElem q, rfl⟩
    · rw [List.getElem?_append_right (by rw [List.length_map]; omega), List.length_map] at h
      cases e : i - ds.length with
      | zero =>
        rw [e] at h
        cases h
        exact .inr ⟨by omega, rfl⟩
      | succ n =>
        rw [e, List.getElem?_cons_succ, List.getElem?_replicate] at h
        split at h <;> cases h
  have at_x : (vs.map some ++ some (V.ref x) :: List.replicate (N.length - (ds.length + 1)) none)[ds.length]? = some (some (.ref x)) := by
    rw [List.getElem?_append_right (by rw [List.length_map, hl]; exact Nat.le_refl _), List.length_map, hl, Nat.sub_self]
    rfl
  refine ⟨⟨.refl _, s.trans sm, sm, fun _ a b => absurd a b⟩, ?_, fun i d h => ?_, fun i c h => ?_, fun i j c c' a h1 h2 _ _ => ?_⟩
  · unfold HM.entryK
    simp [hl]
  · rcases key i _ h with ⟨d', e, z⟩ | ⟨_, z⟩
    · cases z
      obtain ⟨v, e1, p⟩ := r.get e
      refine ⟨v, ?_, p⟩
      have hi := (List.getElem?_eq_some_iff.mp e1).1
      rw [List.getElem?_append_left (by rw [List.length_map]; exact hi), List.getElem?_map, e1]
      rfl
    · cases z
  · rcases key i _ h with ⟨d', e, z⟩ | ⟨e, z⟩
    · cases z
    · cases z
      subst e
      exact ⟨x, o, at_x, upd_same, po, s.free hx, hx⟩
  · rcases key i _ h1 with ⟨d', e, z⟩ | ⟨e, z⟩
    · cases z
    · rcases key j _ h2 with ⟨d', e', z'⟩ | ⟨e', z'⟩
      · cases z'
      · rw [e, e']
def postK (d : Dn) (x : Addr) (oc : Addr → On) : Post := { nx := fun _ => False, rt := .ik d x (oc x) }
section
variable {P : Program} {w : World} {K : PySem.W.Frag} {mg : Str → Option Value} {base : Heap} {x qual : Str} {st : Stmt} {f : Addr} {fd : FuncData} {N ps : List Str} {k : Nat} {α : Type} {S1 : Sem'} {S2 : α → SemK} {oc : α → Addr → On}
theorem fnDK (F : Fun K x qual st f fd) (sc : FnScope N ps (defScope st)) (len1 : ∀ ds r, S1 ds r → ds.length = ps.length) (len2 : ∀ i ds r, S2 i ds r → ds.length + 1 = ps.length)
    (body : ∀ (cdv : Value) (A : Around) (outer : List PySem.Env) (s : Shared) (H : Hp) (E : XK), Room k (A.deeper (PyProof.Rows.envOfC qual (defScope st) s.heap.objs.size f cdv)) →
      ∃ t, PSs (cxOf CX0 P w K mg base N qual (defScope st) f cdv A outer s H E).nox (defBody st) t ∧ (∀ ds r, S1 ds r → Sx (fun _ => E) t (entry N ds) (postOf r)) ∧ ∀ i a ds d, S2 i ds d → Sx (fun _ => E) t (entryK a (oc i) N ds) (postK d a (oc i))) :
    FnOk P w K mg base CX0 (k + 1) f fd ps (spDK S1 S2 oc) := by
  refine F.ok sc (fun vs H Q E h => ?_) fun cdv A outer s H vs Q E hr h => ?_
  · rcases h with ⟨G, ds, r, s, rp, _⟩ | ⟨i, x, us, o, G, H0, ds, d, e, s, rp, _⟩
    · exact rp.len.trans (len1 ds r s)
    · rw [e, List.length_append, rp.len]; exact len2 i ds d s
  · obtain ⟨t, h1, h2, h3⟩ := body cdv A outer s H E hr
    refine ⟨t, h1, ?_⟩
    rcases h with ⟨G, ds, r, hs, rp, sm, o⟩ | ⟨i, x, us, o, G, H0, ds, d, e, hs, rp, sm, hx, eH, po, q⟩
    · exact h2 ds r hs G H G _ H _ (Rep.entry N rp sm) (.of o)
    · subst e; subst eH
      refine h3 i x ds d hs G H0 G _ _ _ (Rep.entryK N rp sm hx po) ⟨fun _ _ _ _ z => z.elim, ?_, fun _ _ _ _ z => z.elim, fun _ _ _ _ z => z.elim, fun _ _ _ _ _ z => z.elim⟩
      exact fun v o' G' H' g ga ha p' pd => q v G' H' o' g ga ha p' pd
end
section
variable {P : Program} {w : World} {K : PySem.W.Frag} {mg : Str → Option Value} {base : Heap} {f : Addr} {fd : FuncData} {ps : List Str} {k : Nat} {α : Type} {S1 : Sem'} {S2 : α → SemK} {oc : α → Addr → On} {CX : CXT}
theorem fnDK_vac (h1 : ∀ ds r, S1 ds r → False) (h2 : ∀ i ds r, S2 i ds r → False) : FnOk P w K mg base CX k f fd ps (spDK S1 S2 oc) :=
  ⟨fun vs H Q E h => h.elim (fun ⟨G, ds, r, s, _⟩ => (h1 ds r s).elim) fun ⟨i, x, us, o, G, H0, ds, d, e, s, _⟩ => (h2 i ds d s).elim, fun A outer s H args us vs Q E _ _ _ _ h => h.elim (fun ⟨G, ds, r, s, _⟩ => (h1 ds r s).elim) fun ⟨i, x, us, o, G, H0, ds, d, e, s, _⟩ => (h2 i ds d s).elim⟩
end
theorem Rep.reown {G0 H0 G H : Hp} {δ : DEnv} {σ : St} {c c' : On} {a : Addr} {o : HO} {j : Nat} (R : Rep G0 H0 G δ σ H) (hj : δ[j]? = some (some (.ow c))) (ea : σ[j]? = some (some (.ref a))) (eo : H a = some o) (p : c'.p G a o) : Rep G0 H0 G (δ.set j (some (.ow c'))) σ H := by
  have h := R.mut hj ea p
  have e : upd H a o = H := by
    funext b
    by_cases z : b = a
    · subst z; rw [upd_same, eo]
    · rw [upd_ne z]
  rwa [e] at h
end HM
/-! Mobiles: the mathematics, and what denotes one. -/
namespace HM
open PySem L2
inductive Mb where
  | w (a : Rat)
  | r (la : Rat) (l : Mb) (ra : Rat) (m : Mb)
/-- what a rows' dict tells of a place -/
inductive Rw where
  | one (a : Rat)
  | two (a b : Rat)
namespace Mb
def heft : Mb → Rat
  | w a => a
  | r _ l _ m => l.heft + m.heft
def plc : Mb → List (List Nat)
  | w _ => [[]]
  | r _ l _ m => [] :: (l.plc.map (108 :: ·) ++ m.plc.map (114 :: ·))
def get : Mb → List Nat → Option Mb
  | m, [] => some m
  | w _, _ :: _ => none
  | r _ l _ m, c :: p => if c = 108 then l.get p else if c = 114 then m.get p else none
def put : Mb → List Nat → Mb → Mb
  | _, [], x => x
  | w a, _ :: _, _ => w a
  | r la l ra m, c :: p, x => if c = 108 then r la (l.put p x) ra m else if c = 114 then r la l ra (m.put p x) else r la l ra m
def dep : Mb → Nat
  | w _ => 0
  | r _ l _ m => max l.dep m.dep + 1
def cnt : Mb → Nat
  | w _ => 1
  | r _ l _ m => l.cnt + m.cnt
def row : Mb → Rw
  | w a => .one a
  | r la _ ra _ => .two la ra
def rowAt (m : Mb) (p : List Nat) : Option Rw := (m.get p).map row
/-- above nought -/
def Pos : Mb → Prop
  | w a => 0 < a
  | r la l ra m => 0 < la ∧ 0 < ra ∧ l.Pos ∧ m.Pos
theorem get_nil (m : Mb) : m.get [] = some m := by cases m <;> rfl
theorem get_l {la ra : Rat} {l m : Mb} {p : List Nat} : (r la l ra m).get (108 :: p) = l.get p := by simp [get]
theorem get_r {la ra : Rat} {l m : Mb} {p : List Nat} : (r la l ra m).get (114 :: p) = m.get p := by simp [get]
theorem get_x {la ra : Rat} {l m : Mb} {p : List Nat} {c : Nat} (h1 : c ≠ 108) (h2 : c ≠ 114) : (r la l ra m).get (c :: p) = none := by simp [get, h1, h2]
theorem get_app {m : Mb} {p q : List Nat} : m.get (p ++ q) = (m.get p).bind fun s => s.get q := by
  induction p generalizing m with
  | nil => rw [List.nil_append, get_nil]; rfl
  | cons c p ih =>
    cases m with
    | w a => rfl
    | r la l ra m =>
      rw [List.cons_append]
      by_cases h1 : c = 108
      · subst h1; rw [get_l, get_l, ih]
      · by_cases h2 : c = 114
        · subst h2; rw [get_r, get_r, ih]
        · rw [get_x h1 h2, get_x h1 h2]; rfl
theorem mem_plc {m : Mb} {p : List Nat} : p ∈ m.plc ↔ (m.get p).isSome = true := by
  induction m generalizing p with
  | w a =>
    cases p with
    | nil => simp [plc, get]
    | cons c p => simp [plc, get]
  | r la l ra m ihl ihm =>
    cases p with
    | nil => simp [plc, get]
    | cons c p =>
      by_cases h1 : c = 108
      · subst h1; rw [get_l, ← ihl]; simp [plc]
      · by_cases h2 : c = 114
        · subst h2; rw [get_r, ← ihm]; simp [plc]
        · rw [get_x h1 h2]; simp [plc, Ne.symm h1, Ne.symm h2]
theorem plc_sorted (m : Mb) : m.plc.Pairwise fun a b => a < b := by
  induction m with
  | w a => exact List.pairwise_singleton _ _
  | r la l ra m ihl ihm =>
    refine List.pairwise_cons.mpr ⟨fun p hp => ?_, List.pairwise_append.mpr ⟨?_, ?_, fun a ha b hb => ?_⟩⟩
    · rcases List.mem_append.mp hp with h | h
      · obtain ⟨q, _, rfl⟩ := List.mem_map.mp h; exact List.nil_lt_cons _ _
      · obtain ⟨q, _, rfl⟩ := List.mem_map.mp h; exact List.nil_lt_cons _ _
    · rw [List.pairwise_map]; exact ihl.imp fun h => List.cons_lt_cons_iff.mpr (.inr ⟨rfl, h⟩)
    · rw [List.pairwise_map]; exact ihm.imp fun h => List.cons_lt_cons_iff.mpr (.inr ⟨rfl, h⟩)
    · obtain ⟨q, _, rfl⟩ := List.mem_map.mp ha
      obtain ⟨s, _, rfl⟩ := List.mem_map.mp hb
      exact List.cons_lt_cons_iff.mpr (.inl (by decide))
theorem plc_nodup (m : Mb) : m.plc.Nodup := m.plc_sorted.imp fun h e => by subst e; exact List.lt_irrefl _ h
theorem plc_len (m : Mb) : m.plc.length + 1 = 2 * m.cnt := by
  induction m with
  | w a => rfl
  | r la l ra m ihl ihm =>
    simp only [plc, cnt, List.length_cons, List.length_append, List.length_map]
    omega
theorem cnt_pos (m : Mb) : 0 < m.cnt := by
  induction m with
  | w a => exact Nat.one_pos
  | r la l ra m ihl ihm => exact Nat.lt_of_lt_of_le ihl (Nat.le_add_right _ _)
theorem get_dep {m s : Mb} {p : List Nat} (h : m.get p = some s) : p.length + s.dep ≤ m.dep := by
  induction p generalizing m with
  | nil => rw [get_nil] at h; cases h; simp
  | cons c p ih =>
    cases m with
    | w a => cases h
    | r la l ra m =>
      by_cases h1 : c = 108
      · subst h1
        rw [get_l] at h
        have := ih h
        simp only [dep, List.length_cons]
        omega
      · by_cases h2 : c = 114
        · subst h2
          rw [get_r] at h
          have := ih h
          simp only [dep, List.length_cons]
          omega
        · rw [get_x h1 h2] at h; cases h
theorem get_cnt {m s : Mb} {p : List Nat} (h : m.get p = some s) : s.cnt ≤ m.cnt := by
  induction p generalizing m with
  | nil => rw [get_nil] at h; cases h; exact Nat.le_refl _
  | cons c p ih =>
    cases m with
    | w a => cases h
    | r la l ra m =>
      by_cases h1 : c = 108
      · subst h1
        rw [get_l] at h
        exact Nat.le_trans (ih h) (Nat.le_add_right _ _)
      · by_cases h2 : c = 114
        · subst h2
          rw [get_r] at h
          exact Nat.le_trans (ih h) (Nat.le_add_left _ _)
        · rw [get_x h1 h2] at h; cases h
theorem get_ok {m : Mb} {p : List Nat} (h : (m.get p).isSome = true) : ∀ c, c ∈ p → c = 108 ∨ c = 114 := by
  induction p generalizing m with
  | nil => intro c hc; cases hc
  | cons c p ih =>
    cases m with
    | w a => cases h
    | r la l ra m =>
      intro x hx
      by_cases h1 : c = 108
      · subst h1
        rw [get_l] at h
        rcases List.mem_cons.mp hx with q | q
        · exact .inl q
        · exact ih h x q
      · by_cases h2 : c = 114
        · subst h2
          rw [get_r] at h
          rcases List.mem_cons.mp hx with q | q
          · exact .inr q
          · exact ih h x q
        · rw [get_x h1 h2] at h; cases h
theorem okC_get {m : Mb} {p : List Nat} (h : (m.get p).isSome = true) : okC p = true := List.all_eq_true.mpr fun c hc => decide_eq_true (by rcases get_ok h c hc with e | e <;> omega)
theorem get_pos {m s : Mb} {p : List Nat} (hm : m.Pos) (h : m.get p = some s) : s.Pos := by
  induction p generalizing m with
  | nil => rw [get_nil] at h; cases h; exact hm
  | cons c p ih =>
    cases m with
    | w a => cases h
    | r la l ra m =>
      by_cases h1 : c = 108
      · subst h1; rw [get_l] at h; exact ih hm.2.2.1 h
      · by_cases h2 : c = 114
        · subst h2; rw [get_r] at h; exact ih hm.2.2.2 h
        · rw [get_x h1 h2] at h; cases h
theorem heft_pos {m : Mb} (hm : m.Pos) : 0 < m.heft := by
  induction m with
  | w a => exact hm
  | r la l ra m ihl ihm =>
    have h1 := ihl hm.2.2.1
    have h2 := ihm hm.2.2.2
    show 0 < l.heft + m.heft
    grind
theorem get_put {m s : Mb} {p q : List Nat} {x : Mb} (h : m.get p = some s) : (m.put p x).get (p ++ q) = x.get q := by
  induction p generalizing m with
  | nil => cases m <;> rfl
  | cons c p ih =>
    cases m with
    | w a => cases h
    | r la l ra m =>
      by_cases h1 : c = 108
      · subst h1
        rw [get_l] at h
        show (put (r la l ra m) (108 :: p) x).get (108 :: (p ++ q)) = _
        simp only [put, if_true]
        rw [get_l]; exact ih h
      · by_cases h2 : c = 114
        · subst h2
          rw [get_r] at h
          show (put (r la l ra m) (114 :: p) x).get (114 :: (p ++ q)) = _
          have e : put (r la l ra m) (114 :: p) x = r la l ra (m.put p x) := by simp [put]
          rw [e, get_r]; exact ih h
        · rw [get_x h1 h2] at h; cases h
theorem put_l {la ra : Rat} {l m x : Mb} {p : List Nat} : (r la l ra m).put (108 :: p) x = r la (l.put p x) ra m := by simp [put]
theorem put_r {la ra : Rat} {l m x : Mb} {p : List Nat} : (r la l ra m).put (114 :: p) x = r la l ra (m.put p x) := by simp [put]
theorem heft_put {m s : Mb} {p : List Nat} {x : Mb} (h : m.get p = some s) : (m.put p x).heft = m.heft - s.heft + x.heft := by
  induction p generalizing m with
  | nil => rw [get_nil] at h; cases h; cases s <;> (simp only [put]; grind)
  | cons c p ih =>
    cases m with
    | w a => cases h
    | r la l ra m =>
      by_cases h1 : c = 108
      · subst h1
        rw [get_l] at h
        have := ih h
        rw [put_l]
        simp only [heft]
        grind
      · by_cases h2 : c = 114
        · subst h2
          rw [get_r] at h
          have := ih h
          rw [put_r]
          simp only [heft]
          grind
        · rw [get_x h1 h2] at h; cases h
theorem cnt_put {m s : Mb} {p : List Nat} {x : Mb} (h : m.get p = some s) : (m.put p x).cnt + s.cnt = m.cnt + x.cnt := by
  induction p generalizing m with
  | nil => rw [get_nil] at h; cases h; cases s <;> (simp only [put]; omega)
  | cons c p ih =>
    cases m with
    | w a => cases h
    | r la l ra m =>
      by_cases h1 : c = 108
      · subst h1
        rw [get_l] at h
        have := ih h
        rw [put_l]
        simp only [cnt]
        omega
      · by_cases h2 : c = 114
        · subst h2
          rw [get_r] at h
          have := ih h
          rw [put_r]
          simp only [cnt]
          omega
        · rw [get_x h1 h2] at h; cases h
theorem dep_put {m s : Mb} {p : List Nat} {x : Mb} (h : m.get p = some s) : (m.put p x).dep ≤ max m.dep (p.length + x.dep) := by
  induction p generalizing m with
  | nil => cases m <;> (simp only [put, List.length_nil]; omega)
  | cons c p ih =>
    cases m with
    | w a => cases h
    | r la l ra m =>
      by_cases h1 : c = 108
      · subst h1
        rw [get_l] at h
        have := ih h
        rw [put_l]
        simp only [dep, List.length_cons]
        omega
      · by_cases h2 : c = 114
        · subst h2
          rw [get_r] at h
          have := ih h
          rw [put_r]
          simp only [dep, List.length_cons]
          omega
        · rw [get_x h1 h2] at h; cases h
theorem pos_put {m s : Mb} {p : List Nat} {x : Mb} (h : m.get p = some s) (hm : m.Pos) (hx : x.Pos) : (m.put p x).Pos := by
  induction p generalizing m with
  | nil => cases m <;> exact hx
  | cons c p ih =>
    cases m with
    | w a => cases h
    | r la l ra m =>
      by_cases h1 : c = 108
      · subst h1
        rw [get_l] at h
        rw [put_l]
        exact ⟨hm.1, hm.2.1, ih h hm.2.2.1, hm.2.2.2⟩
      · by_cases h2 : c = 114
        · subst h2
          rw [get_r] at h
          rw [put_r]
          exact ⟨hm.1, hm.2.1, hm.2.2.1, ih h hm.2.2.2⟩
        · rw [get_x h1 h2] at h; cases h
/-- a thing's place is told anew -/
theorem get_put_any {m s : Mb} {p q : List Nat} {x : Mb} {z : Mb} (h : m.get p = some s) (hz : (m.put p x).get q = some z) : (∃ q', q = p ++ q' ∧ x.get q' = some z) ∨ (∃ p', p = q ++ p' ∧ p' ≠ [] ∧ ∃ y, m.get q = some y ∧ y.get p' = some s ∧ z = y.put p' x) ∨ m.get q = some z := by
  induction p generalizing m q with
  | nil => exact .inl ⟨q, rfl, by cases m <;> exact hz⟩
  | cons c p ih =>
    cases m with
    | w a => cases h
    | r la l ra m =>
      cases q with
      | nil =>
        rw [get_nil] at hz
        exact .inr (.inl ⟨c :: p, rfl, List.cons_ne_nil _ _, _, rfl, h, (Option.some.inj hz).symm⟩)
      | cons d q =>
        by_cases h1 : c = 108
        · subst h1
          rw [get_l] at h
          rw [put_l] at hz
          by_cases h3 : d = 108
          · subst h3
            rw [get_l] at hz
            rcases ih h hz with ⟨q', e, g⟩ | ⟨p', e, n, y, g1, g2, g3⟩ | g
            · exact .inl ⟨q', by rw [e]; rfl, g⟩
            · exact .inr (.inl ⟨p', by rw [e]; rfl, n, y, by rw [get_l]; exact g1, g2, g3⟩)
            · exact .inr (.inr (by rw [get_l]; exact g))
          · by_cases h4 : d = 114
            · subst h4; rw [get_r] at hz; exact .inr (.inr (by rw [get_r]; exact hz))
            · rw [get_x h3 h4] at hz; cases hz
        · by_cases h2 : c = 114
          · subst h2
            rw [get_r] at h
            rw [put_r] at hz
            by_cases h3 : d = 108
            · subst h3; rw [get_l] at hz; exact .inr (.inr (by rw [get_l]; exact hz))
            · by_cases h4 : d = 114
              · subst h4
                rw [get_r] at hz
                rcases ih h hz with ⟨q', e, g⟩ | ⟨p', e, n, y, g1, g2, g3⟩ | g
                · exact .inl ⟨q', by rw [e]; rfl, g⟩
                · exact .inr (.inl ⟨p', by rw [e]; rfl, n, y, by rw [get_r]; exact g1, g2, g3⟩)
                · exact .inr (.inr (by rw [get_r]; exact g))
              · rw [get_x h3 h4] at hz; cases hz
          · rw [get_x h1 h2] at h; cases h
/-- a weight becomes a rod with two -/
theorem rowAt_put {m : Mb} {p q : List Nat} {a la x ra y : Rat} (h : m.get p = some (w a)) : (m.put p (r la (w x) ra (w y))).rowAt q =
    if q = p ++ [114] then some (.one y) else if q = p ++ [108] then some (.one x) else if q = p then some (.two la ra) else m.rowAt q := by
  induction p generalizing m q with
  | nil =>
    rw [get_nil] at h; cases h
    show (r la (w x) ra (w y)).rowAt q = _
    cases q with
    | nil => rfl
    | cons c q =>
      cases q with
      | nil =>
        by_cases h1 : c = 108
        · subst h1; simp [rowAt, get, row]
        · by_cases h2 : c = 114
          · subst h2; simp [rowAt, get, row]
          · simp [rowAt, get, h1, h2]
      | cons d q =>
        by_cases h1 : c = 108
        · subst h1; simp [rowAt, get]
        · by_cases h2 : c = 114
          · subst h2; simp [rowAt, get]
          · simp [rowAt, get, h1, h2]
  | cons c p ih =>
    cases m with
    | w a => cases h
    | r la' l ra' m =>
      by_cases h1 : c = 108
      · subst h1
        rw [get_l] at h
        rw [put_l]
        cases q with
        | nil => simp [rowAt, get_nil, row]
        | cons d q =>
          by_cases h3 : d = 108
          · subst h3
            have := ih (q := q) h
            unfold rowAt at this ⊢
            rw [get_l, get_l, this]
            simp
          · by_cases h4 : d = 114
            · subst h4; unfold rowAt; rw [get_r, get_r]; simp
            · unfold rowAt; rw [get_x h3 h4, get_x h3 h4]; simp [h3]
      · by_cases h2 : c = 114
        · subst h2
          rw [get_r] at h
          rw [put_r]
          cases q with
          | nil => simp [rowAt, get_nil, row]
          | cons d q =>
            by_cases h3 : d = 108
            · subst h3; unfold rowAt; rw [get_l, get_l]; simp
            · by_cases h4 : d = 114
              · subst h4
                have := ih (q := q) h
                unfold rowAt at this ⊢
                rw [get_r, get_r, this]
                simp
              · unfold rowAt; rw [get_x h3 h4, get_x h3 h4]; simp [h4]
        · rw [get_x h1 h2] at h; cases h
end Mb
/-! ### denotations -/
def dRow (K : PySem.W.Frag) : Rw → Dn
  | .one a => dT K [dR K a]
  | .two a b => dT K [dR K a, dR K b]
/-- the lookup of a mobile's rows -/
def mφ (K : PySem.W.Frag) (m : Mb) : List Nat → Option Dn := fun p => (m.rowAt p).map (dRow K)
theorem mφ_some {K : PySem.W.Frag} {m : Mb} {p : List Nat} : p ∈ m.plc ↔ (mφ K m p).isSome = true := by
  rw [Mb.mem_plc]
  unfold mφ Mb.rowAt
  cases m.get p <;> simp
theorem mφ_w {K : PySem.W.Frag} {m : Mb} {p : List Nat} {a : Rat} (h : m.get p = some (.w a)) : mφ K m p = some (dT K [dR K a]) := by
  unfold mφ Mb.rowAt; rw [h]; rfl
theorem mφ_r {K : PySem.W.Frag} {m : Mb} {p : List Nat} {la ra : Rat} {l n : Mb} (h : m.get p = some (.r la l ra n)) : mφ K m p = some (dT K [dR K la, dR K ra]) := by
  unfold mφ Mb.rowAt; rw [h]; rfl
/-- a mobile's rows, in any order -/
abbrev dRw (K : PySem.W.Frag) (m : Mb) : Dn := dFn (mφ K m)
abbrev oRw (K : PySem.W.Frag) (m : Mb) : On := oFn (mφ K m)
/-- a mobile made: cW, cR the classes -/
def dM (K : PySem.W.Frag) (cW cR : Addr) : Mb → Dn
  | .w a => dO cW [("amount", dR K a)]
  | .r la l ra m => dO cR [("left_arm", dR K la), ("left", dM K cW cR l), ("right_arm", dR K ra), ("right", dM K cW cR m), ("total", dR K (l.heft + m.heft))]
end HM
/-! Tuples taken apart, += , signs in a text, numbers written and read. -/
namespace HM
open PySem L2
section
variable {E : XS} {δ : DEnv} {P : Post} {te ta tb : TE} {t : TS} {d d1 d2 d3 : Dn} {i j k : Nat} {K : PySem.W.Frag}
theorem sx_tup2 (h : Ev E te δ (.ok (dT K [d1, d2]))) (kk : P.nx ((δ.set i (some (.im d1))).set j (some (.im d2)))) : Sx E (tAsg te (gTup K 2 (gCons (gName i) (gCons (gName j) gNil)))) δ P := fun G0 H0 G σ H D R hd =>
  h G0 H0 G σ H _ R fun v G' H' g ⟨a, vs, e, t, r⟩ => by
    obtain ⟨u1, u2, e2, p1, p2⟩ := Reps_two r
    subst e; subst e2
    refine ⟨a, _, rfl, (Le.of g.sub).tup t, rfl, u1, [u2], rfl, u2, [], rfl, rfl, ?_⟩
    exact hd.nx _ G' _ H' kk (((R.go g).set p1 i).set p2 j) g.le
theorem sx_aug {n m : Int} (h1 : δ[i]? = some (some (.im (dI n)))) (h : Ev E te δ (.ok (dI m))) (kk : P.nx (δ.set i (some (.im (dI (n + m)))))) : Sx E (tAug i te (ipI fun i j => i + j)) δ P := fun G0 H0 G σ H D R hd => by
  obtain ⟨v, e, p⟩ := R.im i _ h1
  have p : v = .int n := p
  subst p
  refine ⟨_, e, h G0 H0 G σ H _ R fun w G' H' g q => ?_⟩
  have q : w = .int m := q
  subst q
  exact ⟨n, m, rfl, rfl, hd.nx _ G' _ H' kk ((R.go g).set (d := dI (n + m)) rfl i) g.le⟩
def rInS : R2 := fun x y H Q => ∃ i j, x = .str i ∧ y = .str j ∧ Q (.bl (!(Builtin.Str.occurrences j i 0 j.length 1).isEmpty)) H
theorem op_inS {X : Cx} : OpR X (compareOp .In) rInS := op_in_str
theorem rv_inS {l : List Nat} {c : Nat} : Rv rInS (dC [c]) (dC l) (dB (decide (c ∈ l))) := rv_of fun H Q q => ⟨_, _, rfl, rfl, by
  have h : (!(Builtin.Str.occurrences (cS l) (cS [c]) 0 (cS l).length 1).isEmpty) = decide (c ∈ (cS l).cps.toList) := PySem.StrLaws.found_one (cS l) c
  rw [h]
  have e : (cS l).cps.toList = l := by simp [cS]
  rw [e]; exact q⟩
def rStrI : List V → Hp → VK → Prop := fun xs H Q => ∃ i : Int, xs = [.int i] ∧ i.natAbs.log2 < 1920 ∧ Q (.str (toString i)) H
theorem rc_str {n : Nat} {m : Nat} (h : n < 2 ^ m) (hm : m < 1920) : Rc rStrI [dI (n : Int)] (dC (TL.numL n)) := fun G H us Q sm h1 k => by
  have e := Reps.mapVeq V.int (xs := [(n : Int)]) h1
  subst e
  refine ⟨(n : Int), rfl, Nat.lt_of_le_of_lt (log2_le_of (by simpa using h)) hm, ?_⟩
  have e2 : (toString (n : Int) : Str) = cS (TL.numL n) := TL.ext_tl (TL.tl_num n)
  rw [e2]
  exact k _ G H (.refl sm) rfl
def rIntS : List V → Hp → VK → Prop := fun xs H Q => ∃ a n, xs = [.str a] ∧ PySem.intText? a = some n ∧ a.length ≤ 640 ∧ Q (.int n) H
def isD (c : Nat) : Bool := decide (48 ≤ c) && decide (c ≤ 57)
theorem rc_int {l : List Nat} (h : l.all isD = true) (hn : l ≠ []) (hl : l.length ≤ 640) : Rc rIntS [dC l] (dI ((NumText.digitsVal l : Nat) : Int)) := fun G H us Q sm h1 k => by
  have e := Reps.mapVeq (fun l => V.str (cS l)) (xs := [l]) h1
  subst e
  have e1 : (cS l).cps.toList = l := by simp [cS]
  refine ⟨cS l, _, rfl, intText_digits (x := cS l) (by
    rw [e1]
    intro c hc
    have := List.all_eq_true.mp h c hc
    unfold isD at this
    rw [Bool.and_eq_true, decide_eq_true_eq, decide_eq_true_eq] at this
    exact this) (by rw [e1]; exact hn) (by rw [cS_len]; omega), by rw [cS_len]; exact hl, ?_⟩
  rw [e1]
  exact k _ G H (.refl sm) rfl
end
theorem numL_isD (n : Nat) : (TL.numL n).all isD = true := List.all_eq_true.mpr fun c hc => by
  have := TL.numL_digits n c hc
  unfold isD
  rw [Bool.and_eq_true, decide_eq_true_eq, decide_eq_true_eq]
  exact this
theorem numL_head {n : Nat} (h : 0 < n) : ∃ c r, TL.numL n = c :: r ∧ c ≠ 48 := by
  induction n using Nat.strongRecOn with
  | _ n ih =>
    by_cases h1 : n < 10
    · exact ⟨48 + n, [], TL.numL_lt h1, by omega⟩
    · obtain ⟨c, r, e, hc⟩ := ih (n / 10) (by omega) (by omega)
      exact ⟨c, r ++ [48 + n % 10], by rw [TL.numL_step (by omega), e]; rfl, hc⟩
theorem numL_len2 {n m : Nat} (h : n < 2 ^ m) (hm : 0 < m) : (TL.numL n).length ≤ m := by
  refine TL.numL_len hm (Nat.lt_of_lt_of_le h ?_)
  exact Nat.pow_le_pow_left (by decide) m
theorem numL_len3 {n k : Nat} (h : n < 2 ^ (3 * k)) (hk : 0 < k) : (TL.numL n).length ≤ k := by
  refine TL.numL_len hk (Nat.lt_of_lt_of_le h ?_)
  rw [Nat.pow_mul]
  exact Nat.pow_le_pow_left (by decide) k
theorem cut_piece {α : Type} {A d B : List α} {i j : Int} (hi : i = (A.length : Int)) (hj : j = ((A.length + d.length : Nat) : Int)) : cutL (A ++ d ++ B) (some i) (some j) = d := by
  subst hi; subst hj
  rw [cut_mid, List.append_assoc, List.drop_left, Nat.add_sub_cancel_left, List.take_left]
end HM
/-! Loops that take items apart, zip; an own dict handed to a def that hands it back; own lists lent; more on mobiles. -/
namespace HM
open PySem L2
section
variable {E : XS} {δ : DEnv} {P : Post} {te ta tb tl : TE} {t : TS} {d d1 d2 d3 : Dn} {i j k : Nat} {K : PySem.W.Frag} {tt : TT}
theorem Holds.turn {G0 H0 G G1 G2 : Hp} {D : Ends} {J : DEnv → Prop} (hD : Holds E P G0 H0 G D) (l1 : Same G G1) (l2 : Same G1 G2) :
    Holds E { P with nx := J, ct := J, bk := P.nx } G0 H0 G2 { D with nx := fun σ H => ∃ G' δ', J δ' ∧ Rep G0 H0 G' δ' σ H ∧ Same G1 G', ct := fun σ H => ∃ G' δ', J δ' ∧ Rep G0 H0 G' δ' σ H ∧ Same G1 G', bk := D.nx } :=
  ⟨fun δ3 G3 σ3 H3 p R3 l3 => ⟨G3, δ3, p, R3, l2.trans l3⟩, hD.rt, fun δ3 G3 σ3 H3 p R3 l3 => hD.nx δ3 G3 σ3 H3 p R3 (l1.trans (l2.trans l3)), fun δ3 G3 σ3 H3 p R3 l3 => ⟨G3, δ3, p, R3, l2.trans l3⟩, fun c δ3 G3 σ3 H3 p R3 l3 => hD.ex c δ3 G3 σ3 H3 p R3 (l1.trans (l2.trans l3))⟩
theorem Reps_three {G : Hp} {d e f : Dn} {us : List V} (h : Reps G [d, e, f] us) : ∃ u w z, us = [u, w, z] ∧ d.p G u ∧ e.p G w ∧ f.p G z := by
  cases us with
  | nil => exact h.elim
  | cons u r =>
    obtain ⟨w, z, e, q1, q2⟩ := Reps_two h.2
    subst e
    exact ⟨u, w, z, rfl, h.1, q1, q2⟩
/-- over a list of pairs -/
theorem sx_forL2 {α : Type} (xs : List α) (g1 g2 : α → Dn) (h : Ev E tl δ (.ok (dL K (xs.map fun x => dT K [g1 x, g2 x])))) (I : Nat → DEnv → Prop) (h0 : I 0 δ)
    (hs : ∀ n δ' x, xs[n]? = some x → I n δ' → Sx E t ((δ'.set i (some (.im (g1 x)))).set j (some (.im (g2 x)))) { P with nx := I (n + 1), ct := I (n + 1), bk := P.nx }) (hd : ∀ δ', I xs.length δ' → P.nx δ') :
    Sx E (tFor (iList K tl) (gTup K 2 (gCons (gName i) (gCons (gName j) gNil))) t) δ P := fun G0 H0 G σ H D R hD => by
  refine h G0 H0 G σ H _ R fun v G1 H1 g1' ⟨a, vs, ev, sq, rp⟩ => ?_
  subst ev
  refine ⟨a, rfl, ⟨vs, (Le.of g1'.sub).lst sq⟩, for_list (K := K) (a := a) (xs := vs) (fun n σ H => ∃ G' δ', I n δ' ∧ Rep G0 H0 G' δ' σ H ∧ Same G1 G') ⟨G1, δ, h0, R.go g1', .refl _⟩ ?_ ?_ ?_⟩
  · rintro n σ2 H2 _ ⟨G2, δ2, _, R2, l2⟩
    exact (Le.of (l2.trans R2.sub)).lst sq
  · rintro n x σ2 H2 ex ⟨G2, δ2, i2, R2, l2⟩
    obtain ⟨d, ed, pd⟩ := rp.getV ex
    rw [List.getElem?_map] at ed
    obtain ⟨y, ey, rfl⟩ := Option.map_eq_some_iff.mp ed
    obtain ⟨b, us, eb, t2, r2⟩ := pd
    obtain ⟨u1, u2, e2, p1, p2⟩ := Reps_two r2
    subst eb; subst e2
    refine ⟨b, _, rfl, (Le.of (l2.trans R2.sub)).tup t2, rfl, u1, [u2], rfl, u2, [], rfl, rfl, ?_⟩
    exact hs n δ2 y ey i2 G0 H0 G2 _ H2 _ ((R2.set ((g1 y).mono (.of l2) p1) i).set ((g2 y).mono (.of l2) p2) j) (hD.turn g1'.le l2)
  · rintro σ2 H2 ⟨G2, δ2, i2, R2, l2⟩
    rw [rp.len, List.length_map] at i2
    exact hD.nx δ2 G2 σ2 H2 (hd δ2 i2) R2 (g1'.le.trans l2)
/-- over a list of triples -/
theorem sx_forL3 {α : Type} (xs : List α) (g1 g2 g3 : α → Dn) (h : Ev E tl δ (.ok (dL K (xs.map fun x => dT K [g1 x, g2 x, g3 x])))) (I : Nat → DEnv → Prop) (h0 : I 0 δ)
    (hs : ∀ n δ' x, xs[n]? = some x → I n δ' → Sx E t (((δ'.set i (some (.im (g1 x)))).set j (some (.im (g2 x)))).set k (some (.im (g3 x)))) { P with nx := I (n + 1), ct := I (n + 1), bk := P.nx }) (hd : ∀ δ', I xs.length δ' → P.nx δ') :
    Sx E (tFor (iList K tl) (gTup K 3 (gCons (gName i) (gCons (gName j) (gCons (gName k) gNil)))) t) δ P := fun G0 H0 G σ H D R hD => by
  refine h G0 H0 G σ H _ R fun v G1 H1 g1' ⟨a, vs, ev, sq, rp⟩ => ?_
  subst ev
  refine ⟨a, rfl, ⟨vs, (Le.of g1'.sub).lst sq⟩, for_list (K := K) (a := a) (xs := vs) (fun n σ H => ∃ G' δ', I n δ' ∧ Rep G0 H0 G' δ' σ H ∧ Same G1 G') ⟨G1, δ, h0, R.go g1', .refl _⟩ ?_ ?_ ?_⟩
  · rintro n σ2 H2 _ ⟨G2, δ2, _, R2, l2⟩
    exact (Le.of (l2.trans R2.sub)).lst sq
  · rintro n x σ2 H2 ex ⟨G2, δ2, i2, R2, l2⟩
    obtain ⟨d, ed, pd⟩ := rp.getV ex
    rw [List.getElem?_map] at ed
    obtain ⟨y, ey, rfl⟩ := Option.map_eq_some_iff.mp ed
    obtain ⟨b, us, eb, t2, r2⟩ := pd
    obtain ⟨u1, u2, u3, e2, p1, p2, p3⟩ := Reps_three r2
    subst eb; subst e2
    refine ⟨b, _, rfl, (Le.of (l2.trans R2.sub)).tup t2, rfl, u1, [u2, u3], rfl, u2, [u3], rfl, u3, [], rfl, rfl, ?_⟩
    exact hs n δ2 y ey i2 G0 H0 G2 _ H2 _ (((R2.set ((g1 y).mono (.of l2) p1) i).set ((g2 y).mono (.of l2) p2) j).set ((g3 y).mono (.of l2) p3) k) (hD.turn g1'.le l2)
  · rintro σ2 H2 ⟨G2, δ2, i2, R2, l2⟩
    rw [rp.len, List.length_map] at i2
    exact hD.nx δ2 G2 σ2 H2 (hd δ2 i2) R2 (g1'.le.trans l2)
/-- an own list as it stands: its place and its items -/
def oLp (x : Addr) (vs : List V) (ds : List Dn) : On := ⟨fun G a o => a = x ∧ o = .lst vs ∧ Reps G ds vs, fun h ⟨e, e2, r⟩ => ⟨e, e2, r.mono h⟩⟩
theorem oLp_oL {x : Addr} {vs : List V} {ds : List Dn} {G : Hp} {a : Addr} {o : HO} (h : (oLp x vs ds).p G a o) : (oL ds).p G a o := ⟨vs, h.2.1, h.2.2⟩
/-- over an own list -/
theorem sx_forO {ds : List Dn} (q : Nat) (hq : δ[q]? = some (some (.ow (oL ds)))) (I : On → Nat → DEnv → Prop) (h0 : ∀ x vs, I (oLp x vs ds) 0 (δ.set q (some (.ow (oLp x vs ds))))) (hI : ∀ c n δ', I c n δ' → δ'[q]? = some (some (.ow c)))
    (hs : ∀ x vs n δ' d, ds[n]? = some d → I (oLp x vs ds) n δ' → Sx E t (δ'.set i (some (.im d))) { P with nx := I (oLp x vs ds) (n + 1), ct := I (oLp x vs ds) (n + 1), bk := P.nx }) (hd : ∀ c δ', I c ds.length δ' → P.nx (δ'.set q (some (.ow (oL ds))))) :
    Sx E (tFor (iList K (tVar q)) (gName i) t) δ P := fun G0 H0 G σ H D R hD => by
  obtain ⟨a, o, e1, e2, ⟨vs, e, rp⟩, e4, e5⟩ := R.ow q _ hq
  subst e
  have RR := R.reown (c' := oLp a vs ds) hq e1 e2 ⟨rfl, rfl, rp⟩
  refine ⟨_, e1, a, rfl, ⟨vs, .of e2⟩, for_list (K := K) (a := a) (xs := vs) (fun n σ H => ∃ G' δ', I (oLp a vs ds) n δ' ∧ Rep G0 H0 G' δ' σ H ∧ Same G G') ⟨G, _, h0 a vs, RR, .refl _⟩ ?_ ?_ ?_⟩
  · rintro n σ2 H2 _ ⟨G2, δ2, i2, R2, l2⟩
    obtain ⟨a', o', f1, f2, ⟨fe, fo, _⟩, _⟩ := R2.ow q _ (hI _ _ _ i2)
    subst fe; subst fo
    exact .of f2
  · rintro n x σ2 H2 ex ⟨G2, δ2, i2, R2, l2⟩
    obtain ⟨d, ed, pd⟩ := rp.getV ex
    exact hs a vs n δ2 d ed i2 G0 H0 G2 _ H2 _ (R2.set (d.mono (.of l2) pd) i) (hD.turn (.refl _) l2)
  · rintro σ2 H2 ⟨G2, δ2, i2, R2, l2⟩
    rw [rp.len] at i2
    obtain ⟨a', o', f1, f2, f3, _⟩ := R2.ow q _ (hI _ _ _ i2)
    exact hD.nx _ G2 σ2 H2 (hd _ δ2 i2) (R2.reown (hI _ _ _ i2) f1 f2 (oLp_oL f3)) l2
/-- over an own list of pairs -/
theorem sx_forO2 {α : Type} (xs : List α) (g1 g2 : α → Dn) (q : Nat) (hq : δ[q]? = some (some (.ow (oL (xs.map fun x => dT K [g1 x, g2 x]))))) (I : On → Nat → DEnv → Prop) (h0 : ∀ x vs, I (oLp x vs (xs.map fun x => dT K [g1 x, g2 x])) 0 (δ.set q (some (.ow (oLp x vs (xs.map fun x => dT K [g1 x, g2 x])))))) (hI : ∀ c n δ', I c n δ' → δ'[q]? = some (some (.ow c)))
    (hs : ∀ x vs n δ' y, xs[n]? = some y → I (oLp x vs (xs.map fun x => dT K [g1 x, g2 x])) n δ' → Sx E t ((δ'.set i (some (.im (g1 y)))).set j (some (.im (g2 y)))) { P with nx := I (oLp x vs (xs.map fun x => dT K [g1 x, g2 x])) (n + 1), ct := I (oLp x vs (xs.map fun x => dT K [g1 x, g2 x])) (n + 1), bk := P.nx }) (hd : ∀ c δ', I c xs.length δ' → P.nx (δ'.set q (some (.ow (oL (xs.map fun x => dT K [g1 x, g2 x])))))) :
    Sx E (tFor (iList K (tVar q)) (gTup K 2 (gCons (gName i) (gCons (gName j) gNil))) t) δ P := fun G0 H0 G σ H D R hD => by
  obtain ⟨a, o, e1, e2, ⟨vs, e, rp⟩, e4, e5⟩ := R.ow q _ hq
  subst e
  have RR := R.reown (c' := oLp a vs (xs.map fun x => dT K [g1 x, g2 x])) hq e1 e2 ⟨rfl, rfl, rp⟩
  refine ⟨_, e1, a, rfl, ⟨vs, .of e2⟩, for_list (K := K) (a := a) (xs := vs) (fun n σ H => ∃ G' δ', I (oLp a vs (xs.map fun x => dT K [g1 x, g2 x])) n δ' ∧ Rep G0 H0 G' δ' σ H ∧ Same G G') ⟨G, _, h0 a vs, RR, .refl _⟩ ?_ ?_ ?_⟩
  · rintro n σ2 H2 _ ⟨G2, δ2, i2, R2, l2⟩
    obtain ⟨a', o', f1, f2, ⟨fe, fo, _⟩, _⟩ := R2.ow q _ (hI _ _ _ i2)
    subst fe; subst fo
    exact .of f2
  · rintro n x σ2 H2 ex ⟨G2, δ2, i2, R2, l2⟩
    obtain ⟨d, ed, pd⟩ := rp.getV ex
    rw [List.getElem?_map] at ed
    obtain ⟨y, ey, rfl⟩ := Option.map_eq_some_iff.mp ed
    obtain ⟨b, us, eb, t2, r2⟩ := pd
    obtain ⟨u1, u2, eu, p1, p2⟩ := Reps_two r2
    subst eb; subst eu
    refine ⟨b, _, rfl, (Le.of (l2.trans R2.sub)).tup t2, rfl, u1, [u2], rfl, u2, [], rfl, rfl, ?_⟩
    exact hs a vs n δ2 y ey i2 G0 H0 G2 _ H2 _ ((R2.set ((g1 y).mono (.of l2) p1) i).set ((g2 y).mono (.of l2) p2) j) (hD.turn (.refl _) l2)
  · rintro σ2 H2 ⟨G2, δ2, i2, R2, l2⟩
    rw [rp.len, List.length_map] at i2
    obtain ⟨a', o', f1, f2, f3, _⟩ := R2.ow q _ (hI _ _ _ i2)
    exact hD.nx _ G2 σ2 H2 (hd _ δ2 i2) (R2.reown (hI _ _ _ i2) f1 f2 (oLp_oL f3)) l2
/-- over an own list of triples -/
theorem sx_forO3 {α : Type} (xs : List α) (g1 g2 g3 : α → Dn) (q : Nat) (hq : δ[q]? = some (some (.ow (oL (xs.map fun x => dT K [g1 x, g2 x, g3 x]))))) (I : On → Nat → DEnv → Prop) (h0 : ∀ x vs, I (oLp x vs (xs.map fun x => dT K [g1 x, g2 x, g3 x])) 0 (δ.set q (some (.ow (oLp x vs (xs.map fun x => dT K [g1 x, g2 x, g3 x])))))) (hI : ∀ c n δ', I c n δ' → δ'[q]? = some (some (.ow c)))
    (hs : ∀ x vs n δ' y, xs[n]? = some y → I (oLp x vs (xs.map fun x => dT K [g1 x, g2 x, g3 x])) n δ' → Sx E t (((δ'.set i (some (.im (g1 y)))).set j (some (.im (g2 y)))).set k (some (.im (g3 y)))) { P with nx := I (oLp x vs (xs.map fun x => dT K [g1 x, g2 x, g3 x])) (n + 1), ct := I (oLp x vs (xs.map fun x => dT K [g1 x, g2 x, g3 x])) (n + 1), bk := P.nx }) (hd : ∀ c δ', I c xs.length δ' → P.nx (δ'.set q (some (.ow (oL (xs.map fun x => dT K [g1 x, g2 x, g3 x])))))) :
    Sx E (tFor (iList K (tVar q)) (gTup K 3 (gCons (gName i) (gCons (gName j) (gCons (gName k) gNil)))) t) δ P := fun G0 H0 G σ H D R hD => by
  obtain ⟨a, o, e1, e2, ⟨vs, e, rp⟩, e4, e5⟩ := R.ow q _ hq
  subst e
  have RR := R.reown (c' := oLp a vs (xs.map fun x => dT K [g1 x, g2 x, g3 x])) hq e1 e2 ⟨rfl, rfl, rp⟩
  refine ⟨_, e1, a, rfl, ⟨vs, .of e2⟩, for_list (K := K) (a := a) (xs := vs) (fun n σ H => ∃ G' δ', I (oLp a vs (xs.map fun x => dT K [g1 x, g2 x, g3 x])) n δ' ∧ Rep G0 H0 G' δ' σ H ∧ Same G G') ⟨G, _, h0 a vs, RR, .refl _⟩ ?_ ?_ ?_⟩
  · rintro n σ2 H2 _ ⟨G2, δ2, i2, R2, l2⟩
    obtain ⟨a', o', f1, f2, ⟨fe, fo, _⟩, _⟩ := R2.ow q _ (hI _ _ _ i2)
    subst fe; subst fo
    exact .of f2
  · rintro n x σ2 H2 ex ⟨G2, δ2, i2, R2, l2⟩
    obtain ⟨d, ed, pd⟩ := rp.getV ex
    rw [List.getElem?_map] at ed
    obtain ⟨y, ey, rfl⟩ := Option.map_eq_some_iff.mp ed
    obtain ⟨b, us, eb, t2, r2⟩ := pd
    obtain ⟨u1, u2, u3, eu, p1, p2, p3⟩ := Reps_three r2
    subst eb; subst eu
    refine ⟨b, _, rfl, (Le.of (l2.trans R2.sub)).tup t2, rfl, u1, [u2, u3], rfl, u2, [u3], rfl, u3, [], rfl, rfl, ?_⟩
    exact hs a vs n δ2 y ey i2 G0 H0 G2 _ H2 _ (((R2.set ((g1 y).mono (.of l2) p1) i).set ((g2 y).mono (.of l2) p2) j).set ((g3 y).mono (.of l2) p3) k) (hD.turn (.refl _) l2)
  · rintro σ2 H2 ⟨G2, δ2, i2, R2, l2⟩
    rw [rp.len, List.length_map] at i2
    obtain ⟨a', o', f1, f2, f3, _⟩ := R2.ow q _ (hI _ _ _ i2)
    exact hD.nx _ G2 σ2 H2 (hd _ δ2 i2) (R2.reown (hI _ _ _ i2) f1 f2 (oLp_oL f3)) l2
/-- zip over two lists that are known -/
theorem sx_forZ {ds es : List Dn} (h1 : Ev E ta δ (.ok (dL K ds))) (h2 : Ev E tb δ (.ok (dL K es))) (hl : ds.length = es.length) (I : Nat → DEnv → Prop) (h0 : I 0 δ)
    (hs : ∀ n δ' d e, ds[n]? = some d → es[n]? = some e → I n δ' → Sx E t ((δ'.set i (some (.im d))).set j (some (.im e))) { P with nx := I (n + 1), ct := I (n + 1), bk := P.nx }) (hd : ∀ δ', I ds.length δ' → P.nx δ') :
    Sx E (tFor (RZ.iZipA K (tCons ta (tCons tb tNil))) (gTup K 2 (gCons (gName i) (gCons (gName j) gNil))) t) δ P := fun G0 H0 G σ H D R hD => by
  refine h1 G0 H0 G σ H _ R fun v G1 H1 g1 ⟨a, vs, ev, sq, rp⟩ => h2 G0 H0 G1 σ H1 _ (R.go g1) fun v' G2 H2 g2 ⟨b, ws, ev', sq', rp'⟩ => ?_
  subst ev; subst ev'
  have RR := (R.go g1).go g2
  refine ⟨a, b, vs, ws, rfl, .inl ⟨(Le.of (g2.le.trans g2.sub)).lst sq, (Le.of g2.sub).lst sq', ?_⟩⟩
  refine RZ.for_zipL (K := K) (a := a) (b := b) (xs := vs) (ys := ws) (by rw [rp.len, rp'.len]; exact hl) (fun n σ H => ∃ G' δ', I n δ' ∧ Rep G0 H0 G' δ' σ H ∧ Same G2 G') ⟨G2, δ, h0, RR, .refl _⟩ ?_ ?_ ?_
  · rintro n σ2 H2 ⟨G3, δ3, _, R3, l3⟩
    exact ⟨(Le.of (g2.le.trans (l3.trans R3.sub))).lst sq, (Le.of (l3.trans R3.sub)).lst sq'⟩
  · rintro n x y T σ2 H3 ex ey ⟨G3, δ3, i3, R3, l3⟩ hT
    obtain ⟨d, ed, pd⟩ := rp.getV ex
    obtain ⟨e, ee, pe⟩ := rp'.getV ey
    have R4 := R3.go (.skip (o := .tup [x, y]) R3.sub hT)
    refine ⟨T, _, rfl, .of upd_same, rfl, x, [y], rfl, y, [], rfl, rfl, ?_⟩
    exact hs n δ3 d e ed ee i3 G0 H0 G3 _ _ _ ((R4.set (d.mono (.of (g2.le.trans l3)) pd) i).set (e.mono (.of l3) pe) j) (hD.turn (g1.le.trans g2.le) l3)
  · rintro σ2 H3 ⟨G3, δ3, i3, R3, l3⟩
    rw [rp.len] at i3
    exact hD.nx δ3 G3 σ2 H3 (hd δ3 i3) R3 (g1.le.trans (g2.le.trans l3))
/-- zip over an own list and one that is known -/
theorem sx_forZO {ds es : List Dn} (q : Nat) (hq : δ[q]? = some (some (.ow (oL ds)))) (h2 : Ev E tb δ (.ok (dL K es))) (hl : ds.length = es.length) (I : On → Nat → DEnv → Prop) (h0 : ∀ x vs, I (oLp x vs ds) 0 (δ.set q (some (.ow (oLp x vs ds))))) (hI : ∀ c n δ', I c n δ' → δ'[q]? = some (some (.ow c)))
    (hs : ∀ x vs n δ' d e, ds[n]? = some d → es[n]? = some e → I (oLp x vs ds) n δ' → Sx E t ((δ'.set i (some (.im d))).set j (some (.im e))) { P with nx := I (oLp x vs ds) (n + 1), ct := I (oLp x vs ds) (n + 1), bk := P.nx }) (hd : ∀ c δ', I c ds.length δ' → P.nx (δ'.set q (some (.ow (oL ds))))) :
    Sx E (tFor (RZ.iZipA K (tCons (tVar q) (tCons tb tNil))) (gTup K 2 (gCons (gName i) (gCons (gName j) gNil))) t) δ P := fun G0 H0 G σ H D R hD => by
  obtain ⟨a, o, e1, e2, ⟨vs, e, rp⟩, e4, e5⟩ := R.ow q _ hq
  subst e
  refine ⟨_, e1, h2 G0 H0 G σ H _ R fun v' G2 H2 g2 ⟨b, ws, ev', sq', rp'⟩ => ?_⟩
  subst ev'
  have e2' := g2.ext a _ e2
  have rp2 := rp.mono (.of g2.le)
  have RR := (R.go g2).reown (c' := oLp a vs ds) hq e1 e2' ⟨rfl, rfl, rp2⟩
  refine ⟨a, b, vs, ws, rfl, .inl ⟨.of e2', (Le.of g2.sub).lst sq', ?_⟩⟩
  refine RZ.for_zipL (K := K) (a := a) (b := b) (xs := vs) (ys := ws) (by rw [rp.len, rp'.len]; exact hl) (fun n σ H => ∃ G' δ', I (oLp a vs ds) n δ' ∧ Rep G0 H0 G' δ' σ H ∧ Same G2 G') ⟨G2, _, h0 a vs, RR, .refl _⟩ ?_ ?_ ?_
  · rintro n σ2 H2 ⟨G3, δ3, i3, R3, l3⟩
    obtain ⟨a', o', f1, f2, ⟨fe, fo, _⟩, _⟩ := R3.ow q _ (hI _ _ _ i3)
    subst fe; subst fo
    exact ⟨.of f2, (Le.of (l3.trans R3.sub)).lst sq'⟩
  · rintro n x y T σ2 H3 ex ey ⟨G3, δ3, i3, R3, l3⟩ hT
    obtain ⟨d, ed, pd⟩ := rp2.getV ex
    obtain ⟨e, ee, pe⟩ := rp'.getV ey
    have R4 := R3.go (.skip (o := .tup [x, y]) R3.sub hT)
    refine ⟨T, _, rfl, .of upd_same, rfl, x, [y], rfl, y, [], rfl, rfl, ?_⟩
    exact hs a vs n δ3 d e ed ee i3 G0 H0 G3 _ _ _ ((R4.set (d.mono (.of l3) pd) i).set (e.mono (.of l3) pe) j) (hD.turn g2.le l3)
  · rintro σ2 H3 ⟨G3, δ3, i3, R3, l3⟩
    rw [rp.len] at i3
    obtain ⟨a', o', f1, f2, f3, _⟩ := R3.ow q _ (hI _ _ _ i3)
    exact hD.nx _ G3 σ2 H3 (hd _ δ3 i3) (R3.reown (hI _ _ _ i3) f1 f2 (oLp_oL f3)) (g2.le.trans l3)
/-! ### own things lent -/
theorem eo_lendX {φ : List Nat → Option Dn} {c : On} (j : Nat) (hj : δ[j]? = some (some (.ow (oFn φ)))) (hc : ∀ G G' a o, c.p G a o → c.p G' a o) (h : Ev E te (δ.set j (some (.im (dFn φ)))) (.own c)) : Ev E te δ (.own c) := fun G0 H0 G σ H Q R q => by
  obtain ⟨a, o, e1, e2, ⟨rs, f, kws, e, k⟩, e4, e5⟩ := R.ow j _ hj
  subst e
  refine h G0 H0 _ σ H Q (R.pub hj e1 e2 ⟨rs, f, a, kws, rfl, .inl upd_same, k.mono (.of (Same.new e4 _))⟩) fun b o G' H' g hb gb eb p => ?_
  exact q b o G H' ⟨.refl _, R.sub.trans g.ext, g.ext, fun b h1 h2 => absurd h1 h2⟩ hb (R.sub.free hb) eb (hc _ _ _ _ p)
theorem oLC_free {L : List (List Nat)} : ∀ (G G' : Hp) (a : Addr) (o : HO), (oL (L.map fun p => dC p)).p G a o → (oL (L.map fun p => dC p)).p G' a o := fun G G' a o ⟨vs, e, r⟩ => by
  have := Reps.mapVeq (fun p => V.str (cS p)) (xs := L) r
  exact ⟨vs, e, this ▸ Reps.mapV (G := G') (fun p => V.str (cS p)) L⟩
theorem ev_lendL {ds : List Dn} {d : Dn} (j : Nat) (hj : δ[j]? = some (some (.ow (oL ds)))) (hd : ∀ G G' v, d.p G v → d.p G' v) (h : Ev E te (δ.set j (some (.im (dL K ds)))) (.ok d)) : Ev E te δ (.ok d) := fun G0 H0 G σ H Q R q => by
  obtain ⟨a, o, e1, e2, ⟨vs, e, r⟩, e4, e5⟩ := R.ow j _ hj
  subst e
  refine h G0 H0 _ σ H Q (R.pub hj e1 e2 ⟨a, vs, rfl, .of upd_same, r.mono (.of (Same.new e4 _))⟩) fun w G' H' g p => ?_
  exact q w G H' ⟨.refl _, R.sub.trans g.ext, g.ext, fun b h1 h2 => absurd h1 h2⟩ (hd _ _ _ p)
theorem ev_lendLV {ds : List Dn} {v : V} (j : Nat) (hj : δ[j]? = some (some (.ow (oL ds)))) (h : Ev E te (δ.set j (some (.im (dL K ds)))) (.ok (dV v))) : Ev E te δ (.ok (dV v)) := ev_lendL j hj (fun _ _ _ z => z) h
theorem et_lendL {ds : List Dn} {b : Bool} (j : Nat) (hj : δ[j]? = some (some (.ow (oL ds)))) (h : Et E tt (δ.set j (some (.im (dL K ds)))) b) : Et E tt δ b := fun G0 H0 G σ H Q R q => by
  obtain ⟨a, o, e1, e2, ⟨vs, e, r⟩, e4, e5⟩ := R.ow j _ hj
  subst e
  refine h G0 H0 _ σ H Q (R.pub hj e1 e2 ⟨a, vs, rfl, .of upd_same, r.mono (.of (Same.new e4 _))⟩) fun G' H' g => ?_
  exact q G H' ⟨.refl _, R.sub.trans g.ext, g.ext, fun b h1 h2 => absurd h1 h2⟩
theorem et_lendX {φ : List Nat → Option Dn} {b : Bool} (j : Nat) (hj : δ[j]? = some (some (.ow (oFn φ)))) (h : Et E tt (δ.set j (some (.im (dFn φ)))) b) : Et E tt δ b := fun G0 H0 G σ H Q R q => by
  obtain ⟨a, o, e1, e2, ⟨rs, f, kws, e, k⟩, e4, e5⟩ := R.ow j _ hj
  subst e
  refine h G0 H0 _ σ H Q (R.pub hj e1 e2 ⟨rs, f, a, kws, rfl, .inl upd_same, k.mono (.of (Same.new e4 _))⟩) fun G' H' g => ?_
  exact q G H' ⟨.refl _, R.sub.trans g.ext, g.ext, fun b h1 h2 => absurd h1 h2⟩
end
/-! ### an own thing handed to a def that hands it back -/
abbrev SemT := On → List Dn → On → Prop
def spT (S : SemT) : Sp := fun vs H Q E => ∃ (c : On) (x : Addr) (us : List V) (o : HO) (G H0 : Hp) (ds : List Dn) (c' : On), vs = .ref x :: us ∧ S c ds c' ∧ Reps G ds us ∧ Same G H0 ∧ H0 x = none ∧ H = upd H0 x o ∧ c.p G x o ∧ OutOk G H0 Q E (.own c')
def entryT (c : On) (N : List Str) (ds : List Dn) : DEnv := some (.ow c) :: (ds.map (fun d => some (.im d)) ++ List.replicate (N.length - (ds.length + 1)) none)
theorem Rep.entryT {G H0 : Hp} {x : Addr} {o : HO} {c : On} {ds : List Dn} {vs : List V} (N : List Str) (r : Reps G ds vs) (s : Same G H0) (hx : H0 x = none) (po : c.p G x o) :
    Rep G H0 G (entryT c N ds) (L2.start N (.ref x :: vs)) (upd H0 x o) := by
  have sm : Same H0 (upd H0 x o) := Same.new hx _
  have hl := r.len
  have hσ : L2.start N (.ref x :: vs) = some (.ref x) :: (vs.map some ++ List.replicate (N.length - (ds.length + 1)) none) := by
    unfold L2.start
    rw [List.map_cons, List.length_cons, hl]
    rfl
  rw [hσ]
  have key : ∀ (i : Nat) s, (HM.entryT c N ds)[i]? = some (some s) → (∃ d n, i = n + 1 ∧ ds[n]? = some d ∧ s = .im d) ∨ (i = 0 ∧ s = .ow c) := fun i s h => by
    unfold HM.entryT at h
    cases i with
    | zero => cases h; exact .inr ⟨rfl, rfl⟩
    | succ i =>
      rw [List.getElem?_cons_succ] at h
      by_cases q : i < ds.length
      · rw [List.getElem?_append_left (by rw [List.length_map]; exact q), List.getElem?_map, List.getElem?_eq_getElem q] at h
        cases h
        exact .inl ⟨_, i, rfl, List.getElem?_eq_getElem q, rfl⟩
      · rw [List.getElem?_append_right (by rw [List.length_map]; omega), List.length_map, List.getElem?_replicate] at h
        split at h <;> cases h
  refine ⟨⟨.refl _, s.trans sm, sm, fun _ a b => absurd a b⟩, ?_, fun i d h => ?_, fun i c h => ?_, fun i j c c' a h1 h2 _ _ => ?_⟩
  · unfold HM.entryT
    simp [hl]
  · rcases key i _ h with ⟨d', n, rfl, e, z⟩ | ⟨_, z⟩
    · cases z
      obtain ⟨v, e1, p⟩ := r.get e
      refine ⟨v, ?_, p⟩
      have hi := (List.getElem?_eq_some_iff.mp e1).1
      rw [List.getElem?_cons_succ, List.getElem?_append_left (by rw [List.length_map]; exact hi), List.getElem?_map, e1]
      rfl
    · cases z
  · rcases key i _ h with ⟨d', n, _, e, z⟩ | ⟨e, z⟩
    · cases z
    · cases z
      subst e
      exact ⟨x, o, rfl, upd_same, po, s.free hx, hx⟩
  · rcases key i _ h1 with ⟨d', n, _, e, z⟩ | ⟨e, z⟩
    · cases z
    · rcases key j _ h2 with ⟨d', n, _, e', z'⟩ | ⟨e', z'⟩
      · cases z'
      · rw [e, e']
section
variable {P : Program} {w : World} {K : PySem.W.Frag} {mg : Str → Option Value} {base : Heap} {x qual : Str} {st : Stmt} {f : Addr} {fd : FuncData} {N ps : List Str} {k : Nat} {S : SemT}
theorem fnT (F : Fun K x qual st f fd) (sc : FnScope N ps (defScope st)) (len : ∀ c ds c', S c ds c' → ds.length + 1 = ps.length)
    (body : ∀ (cdv : Value) (A : Around) (outer : List PySem.Env) (s : Shared) (H : Hp) (E : XK) (c : On) (ds : List Dn) (c' : On), Room k (A.deeper (PyProof.Rows.envOfC qual (defScope st) s.heap.objs.size f cdv)) → S c ds c' →
      ∃ t, PSs (cxOf CX0 P w K mg base N qual (defScope st) f cdv A outer s H E).nox (defBody st) t ∧ Sx (fun _ => E) t (entryT c N ds) (postOf (.own c'))) :
    FnOk P w K mg base CX0 (k + 1) f fd ps (spT S) := by
  refine F.ok sc (fun vs H Q E h => ?_) fun cdv A outer s H vs Q E hr h => ?_
  · obtain ⟨c, x, us, o, G, H0, ds, c', e, s, rp, _⟩ := h
    rw [e, List.length_cons, rp.len]; exact len c ds c' s
  · obtain ⟨c, x, us, o, G, H0, ds, c', e, hs, rp, sm, hx, eH, po, q⟩ := h
    obtain ⟨t, h1, h2⟩ := body cdv A outer s H E c ds c' hr hs
    subst e; subst eH
    refine ⟨t, h1, h2 G H0 G _ _ _ (Rep.entryT N rp sm hx po) (.of q)⟩
end
section
variable {E : XS} {E' : XK} {δ : DEnv} {P : Post} {ta : TA} {S : SemT} {ds : List Dn}
theorem sx_asgT {c c' : On} (j : Nat) (hj : δ[j]? = some (some (.ow c))) (h : Ea E ta δ ds) (s : S c ds c') (k : P.nx (δ.set j (some (.ow c')))) : Sx E (tAsg (tCall (spT S) [] E' (tCons (tVar j) ta)) (gName j)) δ P := fun G0 H0 G σ H D R hd => by
  obtain ⟨a, o, e1, e2, e3, e4, e5⟩ := R.ow j _ hj
  refine ⟨.ref a, e1, h G0 H0 G σ H _ R fun us G1 H1 g1 p1 => ?_⟩
  have R1 := R.go g1
  have f2 := g1.ext a o e2
  have f3 := c.mono (.of g1.le) e3
  have f4 : G1 a = none := by
    obtain ⟨a', o', z1, z2, z3, z4, z5⟩ := R1.ow j _ hj
    rw [e1] at z1; cases z1; exact z4
  refine ⟨c, a, us, o, G1, fun b => if b = a then none else H1 b, ds, c', by rw [List.append_nil], s, p1, fun b u e => ?_, if_pos rfl, ?_, f3, fun b o2 G' H' g hb gb eb pb => ?_⟩
  · show (if b = a then none else H1 b) = some u
    rw [if_neg (fun z => by subst z; rw [f4] at e; cases e)]
    exact R1.sub b u e
  · funext b
    by_cases z : b = a
    · subst z; rw [upd_same, f2]
    · rw [upd_ne z, if_neg z]
  · have hb : (if b = a then none else H1 b) = none := hb
    have ext : ∀ b u, b ≠ a → H1 b = some u → H' b = some u := fun b u ne e => g.ext b u (by rw [if_neg ne]; exact e)
    have newG : ∀ b, b ≠ a → H1 b ≠ none → G1 b = none → G' b = none := fun b ne hb gb => by
      cases q : G' b with
      | none => rfl
      | some u =>
        have z := g.new b gb (by rw [q]; exact fun z => nomatch z)
        rw [if_neg ne] at z
        exact absurd z hb
    have nej : ∀ (i : Nat) s, (δ.set j none)[i]? = some (some s) → i ≠ j ∧ δ[i]? = some (some s) := fun i s h => by
      by_cases q : j = i
      · subst q
        rw [List.getElem?_set_self (List.getElem?_eq_some_iff.mp hj).1] at h; cases h
      · rw [List.getElem?_set_ne q] at h; exact ⟨fun z => q z.symm, h⟩
    have other : ∀ i c2 b, i ≠ j → δ[i]? = some (some (Sl.ow c2)) → σ[i]? = some (some (.ref b)) → b ≠ a := fun i c2 b ne h q w => by
      subst w; exact ne (R1.dj i j _ _ b h hj q e1)
    have R2 : Rep G0 H0 G' (δ.set j none) σ H' := by
      refine ⟨⟨R1.gr.le.trans g.le, g.sub, fun b u e => ext b u (fun z => by subst z; rw [e5] at e; cases e) (R1.gr.ext b u e), fun b h1 h2 => ?_⟩, by rw [List.length_set]; exact R1.len, fun i d h => ?_, fun i c2 h => ?_, fun i i' c1 c2 b h1 h2 => R1.dj i i' c1 c2 b (nej i _ h1).2 (nej i' _ h2).2⟩
      · by_cases q : G1 b = none
        · have z := g.new b q h2
          by_cases w : b = a
          · subst w; exact e5
          · rw [if_neg w] at z; exact R1.gr.ext.free z
        · exact R1.gr.new b h1 q
      · obtain ⟨v, q1, q2⟩ := R1.im i d (nej i _ h).2
        exact ⟨v, q1, d.mono (.of g.le) q2⟩
      · obtain ⟨ne, h⟩ := nej i _ h
        obtain ⟨b, o2, q1, q2, q3, q4, q5⟩ := R1.ow i c2 h
        have w := other i c2 b ne h q1
        exact ⟨b, o2, q1, ext b o2 w q2, c2.mono (.of g.le) q3, newG b w (by rw [q2]; exact fun z => nomatch z) q4, q5⟩
    have h0 : H0 b = none := by
      by_cases w : b = a
      · subst w; exact e5
      · rw [if_neg w] at hb; exact R1.gr.ext.free hb
    have R3 := R2.setO eb pb gb h0 (fun i c2 h q => by
      obtain ⟨ne, h⟩ := nej i _ h
      obtain ⟨b', o3, q1, q2, _⟩ := R1.ow i c2 h
      rw [q] at q1; cases q1
      have w := other i c2 b ne h q
      rw [if_neg w, q2] at hb; cases hb) j
    rw [List.set_set] at R3
    exact hd.nx _ G' _ H' k R3 (g1.le.trans g.le)
end
/-! ### more on lists and truth -/
theorem rv_neLC {K : PySem.W.Frag} {L M : List (List Nat)} (h1 : ∀ p, p ∈ L → okC p = true) (h2 : ∀ p, p ∈ M → okC p = true) : Rv (rNeU K) (dL K (L.map fun p => dC p)) (dL K (M.map fun p => dC p)) (dB (!decide (L = M))) :=
  rv_neD 1 (dq_lst (dqs_txt L)) (dq_lst (dqs_txt M)) (pl_txt h1) (pl_txt h2) (by decide) (by rw [txt_inj, decide_eq_true_iff])
theorem fm_take {α β : Type} {xs : List α} {n : Nat} {x : α} (f : α → Option β) (h : xs[n]? = some x) : (xs.take (n + 1)).filterMap f = (xs.take n).filterMap f ++ (f x).toList := by
  have e : xs.take (n + 1) = xs.take n ++ [x] := by
    rw [List.take_add_one, h]; rfl
  rw [e, List.filterMap_append]
  congr 1
theorem take_snoc {α : Type} {xs : List α} {n : Nat} {x : α} (h : xs[n]? = some x) : xs.take (n + 1) = xs.take n ++ [x] := by
  rw [List.take_add_one, h]; rfl
/-! ### a thing changed for one of the same shape -/
namespace Mb
theorem rowAt_re {m s x : Mb} {p q : List Nat} (h : m.get p = some s) (hx : ∀ c q', x.rowAt (c :: q') = s.rowAt (c :: q')) : (m.put p x).rowAt q = if q = p then some x.row else m.rowAt q := by
  induction p generalizing m q with
  | nil =>
    rw [get_nil] at h
    have h := Option.some.inj h
    have e : m.put [] x = x := by cases m <;> rfl
    rw [e, h]
    cases q with
    | nil => rw [if_pos rfl]; unfold rowAt; rw [get_nil]; rfl
    | cons c q' => rw [if_neg (fun z => nomatch z)]; exact hx c q'
  | cons c p ih =>
    cases m with
    | w a => cases h
    | r la l ra n =>
      have rl : ∀ {la ra : Rat} {l n : Mb} {q : List Nat}, (r la l ra n).rowAt (108 :: q) = l.rowAt q := by intros; unfold rowAt; rw [get_l]
      have rr : ∀ {la ra : Rat} {l n : Mb} {q : List Nat}, (r la l ra n).rowAt (114 :: q) = n.rowAt q := by intros; unfold rowAt; rw [get_r]
      have rx : ∀ {la ra : Rat} {l n : Mb} {d : Nat} {q : List Nat}, d ≠ 108 → d ≠ 114 → (r la l ra n).rowAt (d :: q) = none := by intro _ _ _ _ _ _ h1 h2; unfold rowAt; rw [get_x h1 h2]; rfl
      by_cases h1 : c = 108
      · subst h1
        rw [get_l] at h
        rw [put_l]
        cases q with
        | nil => rw [if_neg (fun z => nomatch z)]; unfold rowAt; rw [get_nil, get_nil]; rfl
        | cons d q =>
          by_cases d1 : d = 108
          · subst d1
            rw [rl, rl, ih h]
            simp only [List.cons.injEq, true_and]
          · rw [if_neg (fun z => d1 (List.cons.inj z).1)]
            by_cases d2 : d = 114
            · subst d2; rw [rr, rr]
            · rw [rx d1 d2, rx d1 d2]
      · by_cases h2 : c = 114
        · subst h2
          rw [get_r] at h
          rw [put_r]
          cases q with
          | nil => rw [if_neg (fun z => nomatch z)]; unfold rowAt; rw [get_nil, get_nil]; rfl
          | cons d q =>
            by_cases d1 : d = 114
            · subst d1
              rw [rr, rr, ih h]
              simp only [List.cons.injEq, true_and]
            · rw [if_neg (fun z => d1 (List.cons.inj z).1)]
              by_cases d2 : d = 108
              · subst d2; rw [rl, rl]
              · rw [rx d2 d1, rx d2 d1]
        · rw [get_x h1 h2] at h; cases h
/-- where hefts stay -/
theorem heft_re {m s x : Mb} {p q : List Nat} (h : m.get p = some s) (hx : ∀ c q', (x.get (c :: q')).map heft = (s.get (c :: q')).map heft) (hh : x.heft = s.heft) : ((m.put p x).get q).map heft = (m.get q).map heft := by
  induction p generalizing m q with
  | nil =>
    rw [get_nil] at h
    have h := Option.some.inj h
    have e : m.put [] x = x := by cases m <;> rfl
    rw [e, h]
    cases q with
    | nil => rw [get_nil, get_nil]; simp only [Option.map_some, hh]
    | cons c q' => exact hx c q'
  | cons c p ih =>
    cases m with
    | w a => cases h
    | r la l ra n =>
      by_cases h1 : c = 108
      · subst h1
        rw [get_l] at h
        rw [put_l]
        cases q with
        | nil =>
          rw [get_nil, get_nil]
          have := heft_put (x := x) h
          simp only [Option.map_some, heft, this, hh]
          congr 1; grind
        | cons d q =>
          by_cases d1 : d = 108
          · subst d1; rw [get_l, get_l, ih h]
          · by_cases d2 : d = 114
            · subst d2; rw [get_r, get_r]
            · rw [get_x d1 d2, get_x d1 d2]
      · by_cases h2 : c = 114
        · subst h2
          rw [get_r] at h
          rw [put_r]
          cases q with
          | nil =>
            rw [get_nil, get_nil]
            have := heft_put (x := x) h
            simp only [Option.map_some, heft, this, hh]
            congr 1; grind
          | cons d q =>
            by_cases d1 : d = 114
            · subst d1; rw [get_r, get_r, ih h]
            · by_cases d2 : d = 108
              · subst d2; rw [get_l, get_l]
              · rw [get_x d2 d1, get_x d2 d1]
        · rw [get_x h1 h2] at h; cases h
end Mb
theorem row_r {m : Mb} {p : List Nat} {la ra : Rat} : m.rowAt p = some (.two la ra) ↔ ∃ l n, m.get p = some (.r la l ra n) := by
  unfold Mb.rowAt
  constructor
  · intro h
    obtain ⟨s, hs, e⟩ := Option.map_eq_some_iff.mp h
    cases s with
    | w a => cases e
    | r la' l ra' n => cases e; exact ⟨l, n, hs⟩
  · rintro ⟨l, n, h⟩; rw [h]; rfl
theorem row_w {m : Mb} {p : List Nat} {a : Rat} : m.rowAt p = some (.one a) ↔ m.get p = some (.w a) := by
  unfold Mb.rowAt
  constructor
  · intro h
    obtain ⟨s, hs, e⟩ := Option.map_eq_some_iff.mp h
    cases s with
    | w a => cases e; exact hs
    | r la' l ra' n => cases e
  · intro h; rw [h]; rfl
/-- another weight at a weight's place -/
theorem re_w {m : Mb} {p q : List Nat} {a b : Rat} (h : m.get p = some (.w a)) : (m.put p (.w b)).rowAt q = if q = p then some (.one b) else m.rowAt q := Mb.rowAt_re h fun _ _ => rfl
/-- other arms at a rod's place -/
theorem re_r {m l n : Mb} {p q : List Nat} {la ra la' ra' : Rat} (h : m.get p = some (.r la l ra n)) : (m.put p (.r la' l ra' n)).rowAt q = if q = p then some (.two la' ra') else m.rowAt q := Mb.rowAt_re h fun c q' => by
  unfold Mb.rowAt
  by_cases h1 : c = 108
  · subst h1; rw [Mb.get_l, Mb.get_l]
  · by_cases h2 : c = 114
    · subst h2; rw [Mb.get_r, Mb.get_r]
    · rw [Mb.get_x h1 h2, Mb.get_x h1 h2]
theorem heft_r {m l n : Mb} {p q : List Nat} {la ra la' ra' : Rat} (h : m.get p = some (.r la l ra n)) : ((m.put p (.r la' l ra' n)).get q).map Mb.heft = (m.get q).map Mb.heft := Mb.heft_re h (fun c q' => by
  by_cases h1 : c = 108
  · subst h1; rw [Mb.get_l, Mb.get_l]
  · by_cases h2 : c = 114
    · subst h2; rw [Mb.get_r, Mb.get_r]
    · rw [Mb.get_x h1 h2, Mb.get_x h1 h2]) rfl
end HM
/-! Fractions over a common denominator. -/
namespace HM
open PySem L2
/-- a D-th part of a whole number, below 2 ^ V either side -/
def Q (D V : Nat) (x : Rat) : Prop := ∃ k : Int, x * (D : Rat) = (k : Rat) ∧ k.natAbs < D * 2 ^ V
theorem Q.dpos {D V : Nat} {x : Rat} (h : Q D V x) : 0 < D := by
  obtain ⟨k, _, l⟩ := h
  exact Nat.pos_of_ne_zero fun z => by subst z; simp at l
theorem cast_ne {D : Nat} (h : 0 < D) : (D : Rat) ≠ 0 := by
  intro z
  have : ((D : Int) : Rat) = ((0 : Int) : Rat) := z
  have := Rat.intCast_inj.mp this
  omega
theorem cast_pos {D : Nat} (h : 0 < D) : (0 : Rat) < (D : Rat) := by
  have : ((0 : Int) : Rat) < ((D : Int) : Rat) := Rat.intCast_lt_intCast.mpr (by omega)
  exact this
theorem Q.eq {D : Nat} {x : Rat} {k : Int} (h : x * (D : Rat) = (k : Rat)) (hD : 0 < D) : x = Rat.divInt k (D : Int) := by
  have h1 : Rat.divInt k (D : Int) = (k : Rat) / (D : Rat) := by
    rw [Rat.divInt_eq_div]; rfl
  have := cast_ne hD
  rw [h1, ← h]
  grind
theorem Q.sz {D V d : Nat} {x : Rat} (h : Q D V x) (hd : D < 2 ^ d) : Sz (d + V) x := by
  have hp := h.dpos
  obtain ⟨k, e, l⟩ := h
  rw [Q.eq e hp]
  refine Sz.div (by omega) (Nat.lt_of_lt_of_le l ?_) ?_
  · rw [Nat.pow_add]
    exact Nat.mul_le_mul_right _ (Nat.le_of_lt hd)
  · refine Nat.lt_of_lt_of_le (show (D : Int).natAbs < 2 ^ d by simpa using hd) (Nat.pow_le_pow_right (by decide) (by omega))
theorem Q.szm {D V d n : Nat} {x : Rat} (h : Q D V x) (hd : D < 2 ^ d) (l : d + V ≤ n) : Sz n x := (h.sz hd).mono l
theorem Q.mono {D V V' : Nat} {x : Rat} (h : Q D V x) (l : V ≤ V') : Q D V' x := by
  obtain ⟨k, e, q⟩ := h
  exact ⟨k, e, Nat.lt_of_lt_of_le q (Nat.mul_le_mul_left _ (Nat.pow_le_pow_right (by decide) l))⟩
theorem Q.up {D V c : Nat} {x : Rat} (h : Q D V x) (hc : 0 < c) : Q (D * c) V x := by
  obtain ⟨k, e, q⟩ := h
  refine ⟨k * (c : Int), ?_, ?_⟩
  · rw [Rat.intCast_mul, ← e]
    have : ((D * c : Nat) : Rat) = (D : Rat) * (c : Rat) := by
      exact Rat.natCast_mul D c
    rw [this, ← Rat.mul_assoc]
    rfl
  · rw [Int.natAbs_mul, Int.natAbs_natCast, Nat.mul_right_comm]
    exact Nat.mul_lt_mul_of_pos_right q hc
theorem Q.add {D V : Nat} {x y : Rat} (h : Q D V x) (g : Q D V y) : Q D (V + 1) (x + y) := by
  obtain ⟨k, e, q⟩ := h
  obtain ⟨j, f, r⟩ := g
  refine ⟨k + j, by rw [Rat.intCast_add, ← e, ← f]; grind, ?_⟩
  have : D * 2 ^ (V + 1) = D * 2 ^ V + D * 2 ^ V := by rw [Nat.pow_succ, ← Nat.mul_assoc]; omega
  rw [this]
  generalize D * 2 ^ V = M at *
  omega
theorem Q.neg {D V : Nat} {x : Rat} (h : Q D V x) : Q D V (-x) := by
  obtain ⟨k, e, q⟩ := h
  exact ⟨-k, by rw [Rat.intCast_neg, ← e]; grind, by rw [Int.natAbs_neg]; exact q⟩
theorem Q.sub {D V : Nat} {x y : Rat} (h : Q D V x) (g : Q D V y) : Q D (V + 1) (x - y) := by
  have := h.add g.neg
  rwa [show x + -y = x - y by grind] at this
theorem Q.mul {D V E W : Nat} {x y : Rat} (h : Q D V x) (g : Q E W y) : Q (D * E) (V + W) (x * y) := by
  obtain ⟨k, e, q⟩ := h
  obtain ⟨j, f, r⟩ := g
  refine ⟨k * j, ?_, ?_⟩
  · have : ((D * E : Nat) : Rat) = (D : Rat) * (E : Rat) := Rat.natCast_mul D E
    rw [Rat.intCast_mul, ← e, ← f, this]
    grind
  · rw [Int.natAbs_mul, Nat.pow_add]
    have h1 : D * E * (2 ^ V * 2 ^ W) = (D * 2 ^ V) * (E * 2 ^ W) := by
      rw [Nat.mul_assoc, Nat.mul_assoc, Nat.mul_left_comm E]
    rw [h1]
    rcases Nat.eq_zero_or_pos j.natAbs with z | z
    · rw [z, Nat.mul_zero]; exact Nat.mul_pos (by omega) (by omega)
    · exact Nat.lt_of_lt_of_le (Nat.mul_lt_mul_of_pos_right q z) (Nat.mul_le_mul_left _ (Nat.le_of_lt r))
theorem intCast_lt {i j : Int} : (i : Rat) < (j : Rat) ↔ i < j := Rat.intCast_lt_intCast
/-- what lies between nought and it -/
theorem Q.le {D V : Nat} {x y : Rat} (h : Q D V y) (hx : ∃ k : Int, x * (D : Rat) = (k : Rat)) (h0 : 0 ≤ x) (h1 : x ≤ y) : Q D V x := by
  have hp := cast_pos h.dpos
  obtain ⟨k, e⟩ := hx
  obtain ⟨j, f, r⟩ := h
  refine ⟨k, e, ?_⟩
  have a1 : (0 : Int) ≤ k := by
    have : ((0 : Int) : Rat) ≤ (k : Rat) := by
      rw [← e]
      exact Rat.mul_nonneg h0 (Rat.le_of_lt hp)
    exact Rat.intCast_le_intCast.mp this
  have a2 : k ≤ j := by
    have : (k : Rat) ≤ (j : Rat) := by
      rw [← e, ← f]
      exact Rat.mul_le_mul_of_nonneg_right h1 (Rat.le_of_lt hp)
    exact Rat.intCast_le_intCast.mp this
  omega
theorem Q.int {D V : Nat} {x : Rat} (h : Q D V x) : ∃ k : Int, x * (D : Rat) = (k : Rat) := h.imp fun k z => z.1
theorem Q.div {t b : Int} {D V : Nat} (c : Int) (hb : 0 < b) (hc : b * c = (D : Int)) (ht : t.natAbs < 2 ^ V) (hD0 : 0 < D) : Q D V (Rat.divInt t b) := by
  have hD : (0 : Int) < (D : Int) := by omega
  have c0 : 0 ≤ c := by
    rcases Int.lt_or_le c 0 with z | z
    · have := Int.mul_neg_of_pos_of_neg hb z
      omega
    · exact z
  refine ⟨t * c, ?_, ?_⟩
  · have h1 : Rat.divInt t b = (t : Rat) / (b : Rat) := by rw [Rat.divInt_eq_div]
    have hb' : (b : Rat) ≠ 0 := by
      intro z
      have : (b : Rat) = ((0 : Int) : Rat) := z
      have := Rat.intCast_inj.mp this
      omega
    have h2 : (D : Rat) = (b : Rat) * (c : Rat) := by
      have : ((D : Int) : Rat) = ((b * c : Int) : Rat) := by rw [hc]
      rw [Rat.intCast_mul] at this
      exact this
    rw [h1, h2, Rat.intCast_mul]
    grind
  · rw [Int.natAbs_mul]
    have hcd : c.natAbs ≤ D := by
      have : 1 * c ≤ b * c := Int.mul_le_mul_of_nonneg_right (show 1 ≤ b by omega) c0
      omega
    have c1 : 0 < c.natAbs := by
      rcases Int.lt_or_le 0 c with z | z
      · omega
      · have : c = 0 := by omega
        subst this
        omega
    calc t.natAbs * c.natAbs < 2 ^ V * c.natAbs := Nat.mul_lt_mul_of_pos_right ht c1
      _ ≤ 2 ^ V * D := Nat.mul_le_mul_left _ hcd
      _ = D * 2 ^ V := Nat.mul_comm _ _
end HM
/-! More operations: dicts' displays, copies and membership; texts many times; rows of a thing put in. -/
namespace HM
open PySem L2
section
variable {E : XS} {δ : DEnv} {P : Post} {te ta tb tl : TE} {t : TS} {d d1 d2 d3 : Dn} {i j k : Nat} {K : PySem.W.Frag} {tt : TT} {φ : List Nat → Option Dn} {p : List Nat}
theorem eo_disp3 {s1 s2 s3 : Str} {v1 v2 v3 : V} (l1 l2 l3 : List Nat) (e1 : s1 = cS l1) (e2 : s2 = cS l2) (e3 : s3 = cS l3) (n12 : l1 ≠ l2) (n13 : l1 ≠ l3) (n23 : l2 ≠ l3) :
    Ev E (tDisp [(tC (.str s1), tC v1), (tC (.str s2), tC v2), (tC (.str s3), tC v3)]) δ (.own (oFn fun q => if q = l1 then some (dV v1) else if q = l2 then some (dV v2) else if q = l3 then some (dV v3) else none)) := fun G0 H0 G σ H Q R q n hn => by
  subst e1; subst e2; subst e3
  have m : ∀ (a b : List Nat), (decide ((Sum.inr (cS a) : Key) = Sum.inr (cS b))) = decide (a = b) := fun a b => by
    by_cases h : a = b
    · subst h; simp
    · rw [decide_eq_false h, decide_eq_false fun z => h (cS_inj (Sum.inr.inj z))]
  have hm : mergeK [] [((Sum.inr (cS l1) : Key), v1), (Sum.inr (cS l2), v2), (Sum.inr (cS l3), v3)] = [(Sum.inr (cS l1), v1), (Sum.inr (cS l2), v2), (Sum.inr (cS l3), v3)] := by
    have c12 : cS l1 ≠ cS l2 := fun z => n12 (cS_inj z)
    have c13 : cS l1 ≠ cS l3 := fun z => n13 (cS_inj z)
    have c23 : cS l2 ≠ cS l3 := fun z => n23 (cS_inj z)
    simp [mergeK, putK, c12, c13, c23]
  show upd H n (.dK []) n = some (.dK []) ∧ _
  refine ⟨upd_same, [(Sum.inr (cS l1), v1), (Sum.inr (cS l2), v2), (Sum.inr (cS l3), v3)], rfl, by show 3 ≤ 15; decide, ?_⟩
  rw [hm]
  have eu : upd (upd H n (.dK [])) n (.dK [(Sum.inr (cS l1), v1), (Sum.inr (cS l2), v2), (Sum.inr (cS l3), v3)]) = upd H n (.dK [(Sum.inr (cS l1), v1), (Sum.inr (cS l2), v2), (Sum.inr (cS l3), v3)]) := by
    funext b
    by_cases z : b = n
    · subst z; rw [upd_same, upd_same]
    · rw [upd_ne z, upd_ne z, upd_ne z]
  rw [eu]
  refine q n _ G _ (.skip R.sub hn) hn (R.sub.free hn) upd_same ⟨[(l1, dV v1), (l2, dV v2), (l3, dV v3)], ⟨by simp [n12, n13, n23], fun y => ?_⟩, _, rfl, rfl, rfl, rfl, rfl, rfl, rfl, True.intro⟩
  simp only [List.lookup_cons, List.lookup_nil]
  by_cases z1 : y = l1
  · subst z1; simp
  · by_cases z2 : y = l2
    · subst z2
      have : (y == l1) = false := by simpa using z1
      simp [this, z1]
    · by_cases z3 : y = l3
      · subst z3
        have h1 : (y == l1) = false := by simpa using z1
        have h2 : (y == l2) = false := by simpa using z2
        simp [h1, h2, z1, z2]
      · have h1 : (y == l1) = false := by simpa using z1
        have h2 : (y == l2) = false := by simpa using z2
        have h3 : (y == l3) = false := by simpa using z3
        simp [h1, h2, h3, z1, z2, z3]
/-- p in d -/
theorem ev_din (ha : Ev E ta δ (.ok (dC p))) (hb : Ev E tb δ (.ok (dFn φ))) : Ev E (tDIn ta tb) δ (.ok (dB (φ p).isSome)) := fun G0 H0 G σ H Q R q =>
  ha G0 H0 G σ H _ R fun u G1 H1 g1 p1 => hb G0 H0 G1 σ H1 _ (R.go g1) fun w G2 H2 g2 ⟨rs, f, a, kws, e, r, k⟩ => by
    have p1 : u = .str (cS p) := p1
    subst e; subst p1
    refine ⟨a, valV kws (.inr (cS p)), rfl, .inl ⟨kws, .inr (cS p), (Le.of g2.sub).rd r, rfl, rfl⟩, q _ G2 H2 (g1.trans g2) ?_⟩
    have h := k.val p
    rw [f.2 p] at h
    show V.bl _ = V.bl _
    cases e : φ p with
    | none =>
      rw [e] at h
      have h : valV kws (.inr (cS p)) = none := h
      rw [h]; rfl
    | some d =>
      rw [e] at h
      obtain ⟨v, e1, _⟩ := h
      rw [e1]; rfl
/-- p not in d -/
theorem ev_dnot (ha : Ev E ta δ (.ok (dC p))) (hb : Ev E tb δ (.ok (dFn φ))) : Ev E (tDNotIn ta tb) δ (.ok (dB (!(φ p).isSome))) := fun G0 H0 G σ H Q R q =>
  ha G0 H0 G σ H _ R fun u G1 H1 g1 p1 => hb G0 H0 G1 σ H1 _ (R.go g1) fun w G2 H2 g2 ⟨rs, f, a, kws, e, r, k⟩ => by
    have p1 : u = .str (cS p) := p1
    subst e; subst p1
    refine ⟨a, valV kws (.inr (cS p)), rfl, .inl ⟨kws, .inr (cS p), (Le.of g2.sub).rd r, rfl, rfl⟩, q _ G2 H2 (g1.trans g2) ?_⟩
    have h := k.val p
    rw [f.2 p] at h
    show V.bl _ = V.bl _
    cases e : φ p with
    | none =>
      rw [e] at h
      have h : valV kws (.inr (cS p)) = none := h
      rw [h]; rfl
    | some d =>
      rw [e] at h
      obtain ⟨v, e1, _⟩ := h
      rw [e1]; rfl
/-- dict(d) -/
def rDictD : List V → Hp → VK → Prop := fun xs H Q => ∃ (a : Addr) (kvs : List (Key × V)), xs = [.ref a] ∧ Rd H a (.dK kvs) ∧ ∀ p, H p = none → Q (.ref p) (upd H p (.dK kvs))
theorem call_dictF {X : Cx} : CallR X (.type "dict") rDictD := call_dictD
theorem ro_dictF : RcO rDictD [dFn φ] (oFn φ) := fun G H us Q sm h k => by
  obtain ⟨u, e, rs, f, a, kws, e2, r, kk⟩ := Reps_one h
  subst e; subst e2
  exact ⟨a, kws, rfl, (Le.of sm).rd r, fun p hp => k p _ G _ (.skip sm hp) hp (sm.free hp) upd_same ⟨rs, f, kws, rfl, kk⟩⟩
theorem ty_F : Ty K (dFn φ) (.type "dict") := fun G v ⟨rs, f, a, kws, e, r, k⟩ => by
  subst e
  rcases r with r | ⟨o, r⟩
  · exact .base (.dK r)
  · exact .fDict r
/-- int of a truth -/
def rIntB : List V → Hp → VK → Prop := fun xs H Q => ∃ k, xs = [.bl k] ∧ Q (.int (if k then 1 else 0)) H
theorem call_intB {X : Cx} : CallR X (.type "int") rIntB := fun pins s σ H xs us Q I r ⟨k, e, q⟩ => call_int1 pins s σ H xs us Q I r (.inr ⟨k, e, q⟩)
theorem rc_intB {b : Bool} : Rc rIntB [dB b] (dI (if b then 1 else 0)) := fun G H us Q sm h k => by
  have e := Reps.mapVeq V.bl (xs := [b]) h
  subst e
  exact ⟨b, rfl, k _ G H (.refl sm) rfl⟩
/-- two values known, one known only so far -/
theorem ev_tup3E {α : Type} {p : α → Prop} {dd : α → Dn} (h1 : Ev E ta δ (.ok d1)) (h2 : Ev E tb δ (.ok d2)) (h3 : Ev E te δ (.ok (dEx p dd))) : Ev E (tTup (tCons ta (tCons tb (tCons te tNil)))) δ (.ok (dEx p fun a => dT K [d1, d2, dd a])) :=
  ev_imp (ev_tup (K := K) (ea_cons h1 (ea_cons h2 (ea_cons h3 ea_nil))) (show 3 ≤ 1000 by decide)) fun G v ⟨a, vs, e, t, r⟩ => by
    obtain ⟨u1, u2, u3, eu, q1, q2, x, px, q3⟩ := Reps_three r
    exact ⟨x, px, a, vs, e, t, by rw [eu]; exact ⟨q1, q2, q3, True.intro⟩⟩
theorem ev_exM {α β : Type} {p : α → Prop} {dd : α → Dn} {q : β → Prop} {ee : β → Dn} (f : α → β) (h : Ev E te δ (.ok (dEx p dd))) (hp : ∀ a, p a → q (f a)) (hd : ∀ a, dd a = ee (f a)) : Ev E te δ (.ok (dEx q ee)) :=
  ev_imp h fun G v ⟨a, pa, w⟩ => ⟨f a, hp a pa, hd a ▸ w⟩
end
section
variable {E : XS} {E' : XK} {δ : DEnv} {ta tb : TE} {targ : TA} {d1 d2 : Dn} {K : PySem.W.Frag} {S : Sem'} {α β : Type} {p : α → Prop} {dd : α → Dn} {q : β → Prop} {ee : β → Dn}
/-- a call whose second argument is known only so far -/
theorem ev_call2E (h : Ea E targ δ [d1, dEx p dd]) (s : ∀ a, p a → ∃ x, q x ∧ S [d1, dd a] (.ok (ee x))) : Ev E (tCall (spD S) [] E' targ) δ (.ok (dEx q ee)) := fun G0 H0 G σ H Q R k =>
  h G0 H0 G σ H _ R fun vs G1 H1 g1 p1 => by
    obtain ⟨u1, u2, e, h1, a, pa, h2⟩ := Reps_two p1
    obtain ⟨x, qx, sx⟩ := s a pa
    exact ⟨G1, [d1, dd a], _, sx, by rw [List.append_nil, e]; exact ⟨h1, h2, True.intro⟩, g1.sub, fun v G' H' g pv => k v G' H' (g1.trans g) ⟨x, qx, pv⟩⟩
/-- (-a[0], a[1]) -/
theorem ev_negR {a : Rat} (h1 : Ev E ta δ (.ok (dR K a))) (h2 : Ev E tb δ (.ok (dR K a))) : Ev E (tTup (tCons (tUn (rU fun i => .int (-i)) (tSubU K ta (tC (.int 0)))) (tCons (tSubU K tb (tC (.int 1))) tNil))) δ (.ok (dR K (-a))) :=
  ev_tupR (by rw [Rat.neg_num, Rat.neg_den]; exact ea_cons (ev_un (ev_sub h1 ev_c rv_R0) ru_neg) (ea_cons (ev_sub h2 ev_c rv_R1) ea_nil))
theorem rv_neBB {a b : Bool} : Rv (rNeU K) (dT K [dB a, dB b]) (dT K [dB a, dB b]) (dB false) := fun G H u v Q sm a1 a2 k =>
  .inr ⟨.tuple [.bool a, .bool b], .tuple [.bool a, .bool b], Dp_mono sm (dq_tup (K := K) (ds := [dB a, dB b]) (qs := [.bool a, .bool b]) ⟨dq_bl a, dq_bl b, True.intro⟩ G u a1), Dp_mono sm (dq_tup (K := K) (ds := [dB a, dB b]) (qs := [.bool a, .bool b]) ⟨dq_bl a, dq_bl b, True.intro⟩ G v a2), by cases a <;> cases b <;> decide, by cases a <;> cases b <;> decide, by
    have e : PyData.eqv (.tuple [.bool a, .bool b]) (.tuple [.bool a, .bool b]) = true := by cases a <;> cases b <;> decide
    rw [e]; exact k _ G H (.refl sm) rfl⟩
end
/-! ### what raises within -/
def EaX (E : XS) (ta : TA) (δ : DEnv) (c : Addr) : Prop := ∀ G0 H0 G σ H (Q : List V → Hp → Prop), Rep G0 H0 G δ σ H → (∀ G' H', Gr G H G' H' → E σ (.ref c) none H') → ta σ H Q
def EtX (E : XS) (tt : TT) (δ : DEnv) (c : Addr) : Prop := ∀ G0 H0 G σ H (Q : Bool → Hp → Prop), Rep G0 H0 G δ σ H → (∀ G' H', Gr G H G' H' → E σ (.ref c) none H') → tt σ H Q
section
variable {E : XS} {δ : DEnv} {P : Post} {te ta' : TE} {tr ta : TA} {t u : TS} {d : Dn} {c : Addr} {tt uu : TT}
theorem eax_hd (h : Ev E te δ (.ex c)) : EaX E (tCons te tr) δ c := fun G0 H0 G σ H Q R q => h G0 H0 G σ H _ R q
theorem eax_tl (h : Ev E te δ (.ok d)) (k : EaX E tr δ c) : EaX E (tCons te tr) δ c := fun G0 H0 G σ H Q R q =>
  h G0 H0 G σ H _ R fun v G1 H1 g1 p1 => k G0 H0 G1 σ H1 _ (R.go g1) fun G' H' g => q G' H' (g1.trans g)
theorem ex_cbX {r : List V → Hp → VK → Prop} (h : EaX E ta δ c) : Ev E (tCB r ta) δ (.ex c) := fun G0 H0 G σ H Q R q => h G0 H0 G σ H _ R q
theorem ex_callX {sp : Sp} {dvs : List V} {E' : XK} (h : EaX E ta δ c) : Ev E (tCall sp dvs E' ta) δ (.ex c) := fun G0 H0 G σ H Q R q => h G0 H0 G σ H _ R q
theorem etx_B (h : Ev E te δ (.ex c)) : EtX E (tB te) δ c := fun G0 H0 G σ H Q R q => h G0 H0 G σ H _ R q
theorem etx_not (h : EtX E tt δ c) : EtX E (tNot tt) δ c := fun G0 H0 G σ H Q R q => h G0 H0 G σ H _ R q
theorem sx_ifX (h : EtX E tt δ c) (k : P.ex c δ) : Sx E (tIfS tt t u) δ P := fun G0 H0 G σ H D R hd =>
  h G0 H0 G σ H _ R fun G' H' g => hd.ex c δ G' σ H' k (R.go g) g.le
end
/-! ### texts many times -/
def rMulT (l : List Nat) (n : Nat) (r : List Nat) : R2 := fun x y H Q => x = .str (cS l) ∧ y = .int (n : Int) ∧ Q (.str (cS r)) H
abbrev l70 : List Nat := List.replicate 70 108
abbrev rl40 : List Nat := (List.replicate 40 [114, 108]).flatten
theorem op_mulL70 {X : Cx} : OpR X (binaryOp .Mult) (rMulT [108] 70 l70) := by
  rintro pins s σ H x y v u Q I rx ry ⟨rfl, rfl, q⟩
  obtain ⟨t, rfl⟩ := (show ∃ t, v = Value.str (cS [108]) t from rx)
  obtain ⟨t', rfl⟩ := (show ∃ t, u = Value.int 70 t from ry)
  refine PySem.P.mul_str (by decide) (fun _ _ => by decide) (fun _ _ => by decide) ?_
  rw [if_neg (by decide), if_neg (by decide)]
  refine ⟨by decide, ⟨.str (cS l70), H, I.tok _, ?_, q⟩⟩
  exact ⟨_, rfl⟩
theorem op_mulRL40 {X : Cx} : OpR X (binaryOp .Mult) (rMulT [114, 108] 40 rl40) := by
  rintro pins s σ H x y v u Q I rx ry ⟨rfl, rfl, q⟩
  obtain ⟨t, rfl⟩ := (show ∃ t, v = Value.str (cS [114, 108]) t from rx)
  obtain ⟨t', rfl⟩ := (show ∃ t, u = Value.int 40 t from ry)
  refine PySem.P.mul_str (by decide) (fun _ _ => by decide) (fun _ _ => by decide) ?_
  rw [if_neg (by decide), if_neg (by decide)]
  refine ⟨by decide, ⟨.str (cS rl40), H, I.tok _, ?_, q⟩⟩
  exact ⟨_, rfl⟩
theorem rv_mulT {l r : List Nat} {n : Nat} : Rv (rMulT l n r) (dC l) (dI (n : Int)) (dC r) := rv_of fun H Q q => ⟨rfl, rfl, q⟩
/-! ### rows of a thing put in -/
namespace Mb
theorem rowAt_in {m s x : Mb} {p q : List Nat} (h : m.get p = some s) : (m.put p x).rowAt (p ++ q) = x.rowAt q := by
  unfold rowAt; rw [get_put h]
theorem rowAt_out {m s x : Mb} {p q : List Nat} (h : m.get p = some s) (hq : ∀ q', q ≠ p ++ q') : (m.put p x).rowAt q = m.rowAt q := by
  induction p generalizing m q with
  | nil => exact absurd rfl (hq q)
  | cons c p ih =>
    cases m with
    | w a => cases h
    | r la l ra n =>
      have rl : ∀ {la ra : Rat} {l n : Mb} {q : List Nat}, (r la l ra n).rowAt (108 :: q) = l.rowAt q := by intros; unfold rowAt; rw [get_l]
      have rr : ∀ {la ra : Rat} {l n : Mb} {q : List Nat}, (r la l ra n).rowAt (114 :: q) = n.rowAt q := by intros; unfold rowAt; rw [get_r]
      have rx : ∀ {la ra : Rat} {l n : Mb} {d : Nat} {q : List Nat}, d ≠ 108 → d ≠ 114 → (r la l ra n).rowAt (d :: q) = none := by intro _ _ _ _ _ _ h1 h2; unfold rowAt; rw [get_x h1 h2]; rfl
      by_cases h1 : c = 108
      · subst h1
        rw [get_l] at h
        rw [put_l]
        cases q with
        | nil => unfold rowAt; rw [get_nil, get_nil]; rfl
        | cons d q =>
          by_cases d1 : d = 108
          · subst d1
            rw [rl, rl, ih h fun q' e => hq q' (by rw [e]; rfl)]
          · by_cases d2 : d = 114
            · subst d2; rw [rr, rr]
            · rw [rx d1 d2, rx d1 d2]
      · by_cases h2 : c = 114
        · subst h2
          rw [get_r] at h
          rw [put_r]
          cases q with
          | nil => unfold rowAt; rw [get_nil, get_nil]; rfl
          | cons d q =>
            by_cases d1 : d = 114
            · subst d1
              rw [rr, rr, ih h fun q' e => hq q' (by rw [e]; rfl)]
            · by_cases d2 : d = 108
              · subst d2; rw [rl, rl]
              · rw [rx d2 d1, rx d2 d1]
        · rw [get_x h1 h2] at h; cases h
theorem rowAt_any {m s x : Mb} {p q : List Nat} {z : Rw} (h : m.get p = some s) (hz : (m.put p x).rowAt q = some z) : (∃ q', x.rowAt q' = some z) ∨ m.rowAt q = some z := by
  by_cases e : ∃ q', q = p ++ q'
  · obtain ⟨q', rfl⟩ := e
    rw [rowAt_in h] at hz
    exact .inl ⟨q', hz⟩
  · rw [rowAt_out h fun q' z => e ⟨q', z⟩] at hz
    exact .inr hz
end Mb
theorem pre_iff {a b : List Nat} : (∃ q, a = b ++ q) ↔ b <+: a := ⟨fun ⟨q, e⟩ => ⟨q, e.symm⟩, fun ⟨q, e⟩ => ⟨q, e.symm⟩⟩
end HM
/-! index of a sign, lists many times, dicts of pairs, lists of pairs compared. -/
namespace HM
open PySem L2
section
variable {E : XS} {δ : DEnv} {P : Post} {te ta tb tl : TE} {t : TS} {d d1 d2 d3 : Dn} {i j k : Nat} {K : PySem.W.Frag} {tt : TT} {φ : List Nat → Option Dn} {p : List Nat}
/-- 'lr'.index(c) -/
def rSIndex : V → List V → Hp → VK → Prop := fun x xs H Q => ∃ a b i rest, x = .str a ∧ xs = [.str b] ∧ Builtin.Str.occurrences a b 0 a.length 1 = i :: rest ∧ Q (.int (i : Nat)) H
theorem mt_sindexU {X : Cx} : MtR X "str.index" rSIndex := mt_sindex
theorem ev_sindex {a b : List Nat} (n : Nat) (ha : Ev E ta δ (.ok (dC a))) (hb : Ev E tb δ (.ok (dC b))) (h : ∃ rest, Builtin.Str.occurrences (cS a) (cS b) 0 (cS a).length 1 = n :: rest) : Ev E (tM1 rSIndex ta tb) δ (.ok (dI (n : Int))) := fun G0 H0 G σ H Q R q =>
  ha G0 H0 G σ H _ R fun u G1 H1 g1 p1 => ⟨⟨_, p1⟩, hb G0 H0 G1 σ H1 _ (R.go g1) fun w G2 H2 g2 p2 => by
    have p1 : u = .str (cS a) := p1
    have p2 : w = .str (cS b) := p2
    subst p1; subst p2
    obtain ⟨rest, hr⟩ := h
    exact ⟨_, _, n, rest, rfl, rfl, hr, q _ G2 H2 (g1.trans g2) rfl⟩⟩
theorem Reps.rep {G : Hp} {ds : List Dn} {vs : List V} (r : Reps G ds vs) : ∀ m : Nat, Reps G (List.replicate m ds).flatten (List.replicate m vs).flatten
  | 0 => True.intro
  | m + 1 => by
    rw [List.replicate_succ, List.flatten_cons, List.replicate_succ, List.flatten_cons]
    exact r.app (Reps.rep r m)
/-- a list many times -/
theorem op_repU {X : Cx} : OpR X (binaryOp .Mult) rRep := op_rep
theorem eo_rep {ds : List Dn} {n : Int} (m : Nat) (hn : n = (m : Int)) (ha : Ev E ta δ (.own (oL ds))) (hb : Ev E tb δ (.ok (dI n))) (hl : ds.length * m ≤ 100000) (hm : m ≤ 100000) : Ev E (tOp rRep ta tb) δ (.own (oL (List.replicate m ds).flatten)) := fun G0 H0 G σ H Q R q =>
  ha G0 H0 G σ H _ R fun a o G1 H1 g1 ha1 ga1 ea ⟨vs, eo, r⟩ => by
    subst eo
    subst hn
    refine hb G0 H0 G1 σ H1 _ (R.go g1) fun w G2 H2 g2 p2 => ?_
    have p2 : w = .int (m : Int) := p2
    subst p2
    have e2 := g2.ext a _ ea
    have b62 : (2 : Int) ^ 63 = 9223372036854775808 := by decide
    refine ⟨a, (m : Int), vs, rfl, rfl, e2, by rw [b62]; omega, by rw [b62]; omega, ?_, fun p hp => ?_⟩
    · rw [Int.toNat_natCast, r.len]; exact Nat.le_trans hl (by decide)
    · rw [Int.toNat_natCast]
      have g := g1.trans g2
      have r2 := r.mono (.of g2.le)
      exact q p _ G2 _ (g.trans (.skip g.sub hp)) (g.ext.free hp) (g.sub.free hp) upd_same ⟨_, rfl, r2.rep m⟩
/-- dict(a list of pairs) -/
def rDictP (K : PySem.W.Frag) : List V → Hp → VK → Prop := fun xs H Q => ∃ (a : Addr) (ps : List Addr) (kvs : List (Key × V)), xs = [.ref a] ∧ SqL K H a (ps.map V.ref) ∧ Paired (fun p kv => SqT K H p [kV kv.1, kv.2]) ps kvs ∧
    ∀ p, H p = none → Q (.ref p) (upd H p (.dK (mergeK [] kvs)))
theorem call_dictPU {X : Cx} (hcalm : X.calm = true) : CallR X (.type "dict") (rDictP X.K) := call_dictP hcalm
theorem mergeK_nd : ∀ (b a : List (Key × V)), ((a ++ b).map (·.1)).Nodup → mergeK a b = a ++ b
  | [], a, _ => by simp [mergeK]
  | kv :: b, a, h => by
    have hn : ¬ (a.any fun x => decide (x.1 = kv.1)) = true := fun z => by
      obtain ⟨x, hx, e⟩ := List.any_eq_true.mp z
      have e := of_decide_eq_true e
      rw [List.map_append, List.nodup_append] at h
      exact h.2.2 x.1 (List.mem_map.mpr ⟨x, hx, rfl⟩) kv.1 (by simp) e
    have h1 : putK a kv.1 kv.2 = a ++ [kv] := by unfold putK; rw [if_neg hn]
    have h2 := mergeK_nd b (a ++ [kv]) (by rwa [List.append_assoc])
    show mergeK (putK a kv.1 kv.2) b = _
    rw [h1, h2, List.append_assoc]; rfl
theorem ro_dictP (L : List (List Nat × Dn)) (nd : (L.map (·.1)).Nodup) : RcO (rDictP K) [dL K (L.map fun x => dT K [dC x.1, x.2])] (oFn fun q => L.lookup q) := fun G H us Q sm h k => by
  obtain ⟨u, e, a, vs, e2, sq, r⟩ := Reps_one h
  subst e; subst e2
  have key : ∀ (L : List (List Nat × Dn)) (vs : List V), Reps G (L.map fun x => dT K [dC x.1, x.2]) vs → ∃ (ps : List Addr) (kvs : List (Key × V)), vs = ps.map V.ref ∧ Paired (fun p kv => SqT K H p [kV kv.1, kv.2]) ps kvs ∧ RepsK G (kvD L) kvs := by
    intro L
    induction L with
    | nil =>
      intro vs r
      cases vs with
      | nil => exact ⟨[], [], rfl, .nil, True.intro⟩
      | cons _ _ => exact r.elim
    | cons x L ih =>
      intro vs r
      cases vs with
      | nil => exact r.elim
      | cons v vs =>
        obtain ⟨⟨b, us, eb, t, r1⟩, r2⟩ := r
        obtain ⟨ps, kvs, e1, e2, e3⟩ := ih vs r2
        obtain ⟨u1, u2, eu, p1, p2⟩ := Reps_two r1
        have p1 : u1 = .str (cS x.1) := p1
        subst eb; subst eu; subst p1
        exact ⟨b :: ps, (.inr (cS x.1), u2) :: kvs, by rw [e1]; rfl, .cons ((Le.of sm).tup t) e2, rfl, p2, e3⟩
  obtain ⟨ps, kvs, e1, e2, e3⟩ := key L vs r
  subst e1
  refine ⟨a, ps, kvs, rfl, (Le.of sm).lst sq, e2, fun p hp => ?_⟩
  have hkeys := e3.keys
  have nd2 : (kvs.map (·.1)).Nodup := by
    rw [hkeys]
    exact List.pairwise_map.mpr (nd.imp fun h z => h (inr_cS.mp z))
  have hm : mergeK [] kvs = kvs := by
    have := mergeK_nd kvs [] (by simpa using nd2)
    simpa using this
  rw [hm]
  exact k p _ G _ (.skip sm hp) hp (sm.free hp) upd_same ⟨L, ⟨nd, fun _ => rfl⟩, kvs, rfl, e3⟩
/-! ### lists of pairs -/
theorem dq_pairs : ∀ L : List (List Nat × Rat), Dqs K (L.map fun x => dT K [dC x.1, dR K x.2]) (L.map fun x => PyData.tuple [.str (cS x.1), qR x.2])
  | [] => True.intro
  | x :: L => ⟨dq_tup (ds := [dC x.1, dR K x.2]) (qs := [.str (cS x.1), qR x.2]) ⟨dq_str _, dq_R _, True.intro⟩, dq_pairs L⟩
theorem pl_pairs {L : List (List Nat × Rat)} (h : ∀ x, x ∈ L → okC x.1 = true) : pl 3 (.list (L.map fun x => PyData.tuple [.str (cS x.1), qR x.2])) = true := by
  show (L.map fun x => PyData.tuple [.str (cS x.1), qR x.2]).all (pl 2) = true
  rw [List.all_eq_true]
  intro d hd
  obtain ⟨x, hx, rfl⟩ := List.mem_map.mp hd
  show ([PyData.str (cS x.1), qR x.2].all (pl 1)) = true
  have h1 : PyData.strOk (cS x.1) = true := strOk_cS (h x hx)
  show (pl 1 (PyData.str (cS x.1)) && (pl 1 (qR x.2) && true)) = true
  rw [show pl 1 (PyData.str (cS x.1)) = PyData.strOk (cS x.1) from rfl, h1]
  rfl
theorem rv_eqPairs {L : List (List Nat × Rat)} (h : ∀ x, x ∈ L → okC x.1 = true) : Rv (rEqU K) (dL K (L.map fun x => dT K [dC x.1, dR K x.2])) (dL K (L.map fun x => dT K [dC x.1, dR K x.2])) (dB true) :=
  rv_eqD 3 (dq_lst (dq_pairs L)) (dq_lst (dq_pairs L)) (pl_pairs h) (pl_pairs h) (by decide) (by simp)
theorem rv_eqTT : Rv (rEqU K) (dL K [dB true, dB true]) (dL K [dB true, dB true]) (dB true) := fun G H u v Q sm a1 a2 k =>
  .inr ⟨.list [.bool true, .bool true], .list [.bool true, .bool true], Dp_mono sm (dq_lst (K := K) (ds := [dB true, dB true]) (qs := [.bool true, .bool true]) ⟨dq_bl _, dq_bl _, True.intro⟩ G u a1), Dp_mono sm (dq_lst (K := K) (ds := [dB true, dB true]) (qs := [.bool true, .bool true]) ⟨dq_bl _, dq_bl _, True.intro⟩ G v a2), by decide, by decide, by
    have e : PyData.eqv (.list [.bool true, .bool true]) (.list [.bool true, .bool true]) = true := by decide
    rw [e]; exact k _ G H (.refl sm) rfl⟩
/-! ### a triple with its place -/
def qP (x : List Nat × Rat × Rat) : PyData := .tuple [.str (cS x.1), qR x.2.1, qR x.2.2]
theorem qP_inj {x y : List Nat × Rat × Rat} : qP x = qP y ↔ x = y := by
  constructor
  · intro h
    obtain ⟨a, b, c⟩ := x
    obtain ⟨a', b', c'⟩ := y
    simp only [qP, PyData.tuple.injEq, List.cons.injEq, PyData.str.injEq, and_true] at h
    rw [cS_inj h.1, qR_inj.mp h.2.1, qR_inj.mp h.2.2]
  · intro h; rw [h]
theorem rv_neP {x y : List Nat × Rat × Rat} (h1 : okC x.1 = true) (h2 : okC y.1 = true) : Rv (rNeU K) (dT K [dC x.1, dR K x.2.1, dR K x.2.2]) (dT K [dC y.1, dR K y.2.1, dR K y.2.2]) (dB (!decide (x = y))) := by
  have plx : ∀ z : List Nat × Rat × Rat, okC z.1 = true → pl 2 (qP z) = true := fun z h => by
    show (pl 1 (PyData.str (cS z.1)) && (pl 1 (qR z.2.1) && (pl 1 (qR z.2.2) && true))) = true
    rw [show pl 1 (PyData.str (cS z.1)) = PyData.strOk (cS z.1) from rfl, strOk_cS h]
    rfl
  have dqx : ∀ z : List Nat × Rat × Rat, Dq K (dT K [dC z.1, dR K z.2.1, dR K z.2.2]) (qP z) := fun z => dq_tup (ds := [dC z.1, dR K z.2.1, dR K z.2.2]) (qs := [.str (cS z.1), qR z.2.1, qR z.2.2]) ⟨dq_str _, dq_R _, dq_R _, True.intro⟩
  exact rv_neD 2 (dqx x) (dqx y) (plx x h1) (plx y h2) (by decide) (by rw [qP_inj, decide_eq_true_iff])
/-- lists of fractions -/
theorem dq_Rs : ∀ L : List Rat, Dqs K (L.map fun x => dR K x) (L.map qR)
  | [] => True.intro
  | x :: L => ⟨dq_R x, dq_Rs L⟩
theorem qRs_inj {L M : List Rat} : (PyData.list (L.map qR) = .list (M.map qR)) ↔ L = M := by
  constructor
  · intro h
    have key : ∀ L M : List Rat, L.map qR = M.map qR → L = M := by
      intro L
      induction L with
      | nil => intro M h; cases M with
        | nil => rfl
        | cons _ _ => cases h
      | cons a L ih => intro M h; cases M with
        | nil => cases h
        | cons b M =>
          rw [List.map_cons, List.map_cons, List.cons.injEq] at h
          rw [qR_inj.mp h.1, ih M h.2]
    exact key L M (PyData.list.inj h)
  · intro h; rw [h]
theorem rv_neRs {L M : List Rat} : Rv (rNeU K) (dL K (L.map fun x => dR K x)) (dL K (M.map fun x => dR K x)) (dB (!decide (L = M))) := by
  have plr : ∀ L : List Rat, pl 2 (.list (L.map qR)) = true := fun L => by
    show (L.map qR).all (pl 1) = true
    rw [List.all_eq_true]
    intro d hd
    obtain ⟨x, _, rfl⟩ := List.mem_map.mp hd
    rfl
  exact rv_neD 2 (dq_lst (dq_Rs L)) (dq_lst (dq_Rs M)) (plr L) (plr M) (by decide) (by rw [qRs_inj, decide_eq_true_iff])
end
end HM
/-! Tuples whose making raises; lists of one-of-many values; joined signs. -/
namespace HM
open PySem L2
section
variable {E : XS} {δ : DEnv} {P : Post} {te ta' tb : TE} {ta : TA} {t : TS} {d : Dn} {c : Addr} {K : PySem.W.Frag}
theorem ex_tupX (h : EaX E ta δ c) : Ev E (tTup ta) δ (.ex c) := fun G0 H0 G σ H Q R q => h G0 H0 G σ H _ R q
/-- what an own slot holds is told otherwise -/
theorem sx_conv {c c' : On} (j : Nat) (hj : δ[j]? = some (some (.ow c))) (hc : ∀ G a o, c.p G a o → c'.p G a o) (h : Sx E t (δ.set j (some (.ow c'))) P) : Sx E t δ P := fun G0 H0 G σ H D R hd => by
  obtain ⟨a, o, e1, e2, e3, _⟩ := R.ow j _ hj
  exact h G0 H0 G σ H D (R.reown hj e1 e2 (hc _ _ _ e3)) hd
theorem sx_openL2 {α β : Type} {p1 : α → Prop} {p2 : β → Prop} {d1 : α → Dn} {d2 : β → Dn} (j : Nat) (hj : δ[j]? = some (some (.ow (oL [dEx p1 d1, dEx p2 d2])))) (h : ∀ a b, p1 a → p2 b → Sx E t (δ.set j (some (.ow (oL [d1 a, d2 b])))) P) : Sx E t δ P := by
  refine sx_conv (c' := oEx (fun ab : α × β => p1 ab.1 ∧ p2 ab.2) fun ab => oL [d1 ab.1, d2 ab.2]) j hj (fun G a o ⟨vs, e, r⟩ => ?_) ?_
  · obtain ⟨u, w, e2, ⟨x, px, hx⟩, ⟨y, py, hy⟩⟩ := Reps_two r
    exact ⟨(x, y), ⟨px, py⟩, vs, e, by rw [e2]; exact ⟨hx, hy, True.intro⟩⟩
  · refine sx_openO (p := fun ab : α × β => p1 ab.1 ∧ p2 ab.2) (c := fun ab => oL [d1 ab.1, d2 ab.2]) j (by rw [List.getElem?_set_self (List.getElem?_eq_some_iff.mp hj).1]) fun ab hab => ?_
    rw [List.set_set]
    exact h ab.1 ab.2 hab.1 hab.2
/-- a fraction of which only so much is known, taken apart -/
theorem sx_tup2E {PP : Rat → Prop} {i j : Nat} (h : Ev E te δ (.ok (dEx PP (dR K)))) (kk : ∀ q, PP q → P.nx ((δ.set i (some (.im (dI q.num)))).set j (some (.im (dI (q.den : Int)))))) : Sx E (tAsg te (gTup K 2 (gCons (gName i) (gCons (gName j) gNil)))) δ P := fun G0 H0 G σ H D R hd =>
  h G0 H0 G σ H _ R fun v G' H' g ⟨q, pq, r⟩ => by
    obtain ⟨a, vs, e, t, r⟩ := dR_dT r
    obtain ⟨u1, u2, e2, p1, p2⟩ := Reps_two r
    subst e; subst e2
    refine ⟨a, _, rfl, (Le.of g.sub).tup t, rfl, u1, [u2], rfl, u2, [], rfl, rfl, ?_⟩
    exact hd.nx _ G' _ H' (kk q pq) (((R.go g).set p1 i).set p2 j) g.le
/-- a call whose one argument is known only so far -/
theorem ev_callE1 {α : Type} {S : Sem'} {E' : XK} {p : α → Prop} {dd : α → Dn} (h : Ev E te δ (.ok (dEx p dd))) (s : ∀ a, p a → S [dd a] (.ok d)) : Ev E (tCall (spD S) [] E' (tCons te tNil)) δ (.ok d) := fun G0 H0 G σ H Q R k =>
  h G0 H0 G σ H _ R fun v G1 H1 g1 ⟨a, pa, w⟩ => ⟨G1, [dd a], _, s a pa, by rw [List.append_nil]; exact ⟨w, True.intro⟩, g1.sub, fun v G' H' g pv => k v G' H' (g1.trans g) pv⟩
/-- a list that is known and a new one, together -/
theorem eo_catO {a b : List Dn} (j : Nat) (hj : δ[j]? = some (some (.ow (oL a)))) (hb : Ev E tb δ (.own (oL b))) (hl : a.length + b.length ≤ 100000) : Ev E (tOp rAddU (tVar j) tb) δ (.own (oL (a ++ b))) := fun G0 H0 G σ H Q R q => by
  obtain ⟨p, o, e1, e2, ⟨vs, e, r⟩, e4, e5⟩ := R.ow j _ hj
  subst e
  refine ⟨_, e1, hb G0 H0 G σ H _ R fun p2 o2 G2 H2 g2 hp2 gp2 ep2 ⟨us, e3, r2⟩ => ?_⟩
  subst e3
  refine .inr (.inr ⟨p, p2, vs, us, rfl, rfl, g2.ext p _ e2, ep2, by rw [r.len, r2.len]; exact Nat.le_trans hl (by decide), fun n hn => ?_⟩)
  exact q n _ G2 _ (g2.trans (.skip g2.sub hn)) (g2.ext.free hn) (g2.sub.free hn) upd_same ⟨_, rfl, (r.mono (.of g2.le)).app r2⟩
end
theorem rv_addL {a b : List Nat} (h : a.length + b.length ≤ 1000000) : Rv rAddU (dC a) (dC b) (dC (a ++ b)) := rv_of fun H Q q => .inr (.inl ⟨_, _, rfl, rfl, by
  rw [cS_len, cS_len]; exact Nat.le_trans h (by decide), by rw [cS_app]; exact q⟩)
/-! ### joined signs -/
abbrev dSg : Dn := dEx (fun _ : Nat => True) fun c => dC [c]
def rJoin (K : PySem.W.Frag) : V → List V → Hp → VK → Prop := fun x xs H Q => ∃ a p, ∃ ys : List Str, x = .str a ∧ xs = [.ref p] ∧ (SqL K H p (ys.map V.str) ∨ SqT K H p (ys.map V.str)) ∧
      (ys.map (·.length)).sum + ys.length * a.length ≤ 16777216 ∧ Q (.str (Txt.join a ys)) H
theorem mt_joinU {X : Cx} : MtR X "str.join" (rJoin X.K) := mt_join
theorem joinL_one : ∀ xs : List Nat, TL.joinL [] (xs.map fun c => [c]) = xs
  | [] => rfl
  | [c] => rfl
  | c :: d :: r => by
    show [c] ++ ([] ++ TL.joinL [] ((d :: r).map fun c => [c])) = c :: d :: r
    rw [joinL_one (d :: r)]
    rfl
theorem join_signs (xs : List Nat) : Txt.join (cS []) (xs.map fun c => cS [c]) = cS xs := by
  refine TL.ext_tl ?_
  rw [TL.join_eq, TL.tl_join, List.map_map]
  show TL.joinL [] (xs.map fun c => [c]) = (cS xs).cps.toList
  rw [joinL_one]
  simp [cS]
theorem len_signs (xs : List Nat) : ((xs.map fun c => cS [c]).map (·.length)).sum = xs.length := by
  induction xs with
  | nil => rfl
  | cons c r ih =>
    rw [List.map_cons, List.map_cons, List.sum_cons, ih, List.length_cons, cS_len]
    simp only [List.length_singleton]
    omega
theorem reps_sg {G : Hp} : ∀ {n : Nat} {vs : List V}, Reps G (List.replicate n dSg) vs → ∃ xs : List Nat, xs.length = n ∧ vs = (xs.map fun c => cS [c]).map V.str
  | 0, [], _ => ⟨[], rfl, rfl⟩
  | 0, _ :: _, r => r.elim
  | n + 1, [], r => r.elim
  | n + 1, v :: vs, r => by
    obtain ⟨⟨c, _, hc⟩, r2⟩ := r
    obtain ⟨xs, e1, e2⟩ := reps_sg r2
    have hc : v = .str (cS [c]) := hc
    exact ⟨c :: xs, by rw [List.length_cons, e1], by rw [hc, e2]; rfl⟩
theorem ev_joinS {E : XS} {δ : DEnv} {te ta : TE} {K : PySem.W.Frag} {n : Nat} (ha : Ev E ta δ (.ok (dC []))) (h : Ev E te δ (.ok (dL K (List.replicate n dSg)))) (hn : n ≤ 1000) : Ev E (tM1 (rJoin K) ta te) δ (.ok (dEx (fun l : List Nat => l.length = n) dC)) := fun G0 H0 G σ H Q R q =>
  ha G0 H0 G σ H _ R fun u G1 H1 g1 p1 => ⟨⟨_, p1⟩, h G0 H0 G1 σ H1 _ (R.go g1) fun v G2 H2 g2 ⟨a, vs, ev, sq, rp⟩ => by
    have p1 : u = .str (cS []) := p1
    obtain ⟨xs, e1, e2⟩ := reps_sg rp
    subst ev; subst e2
    refine ⟨cS [], a, xs.map fun c => cS [c], p1, rfl, .inl ((Le.of g2.sub).lst sq), ?_, ?_⟩
    · rw [len_signs, cS_len, List.length_nil]; omega
    · rw [join_signs]
      exact q _ G2 H2 (g1.trans g2) ⟨xs, e1, rfl⟩⟩
end HM
/-! Dicts in their order, their items; slices of tuples; comprehensions over pairs. -/
namespace HM
open PySem L2
/-! ### an own dict in its order -/
abbrev oDr (rs : List (List Nat × Dn)) : On := oD (kvD rs)
theorem putD_new {rs : List (List Nat × Dn)} {p : List Nat} {d : Dn} (h : p ∉ rs.map (·.1)) : putD rs p d = rs ++ [(p, d)] := by
  unfold putD
  rw [if_neg]
  intro z
  obtain ⟨kv, h1, h2⟩ := List.any_eq_true.mp z
  exact h (List.mem_map.mpr ⟨kv, h1, of_decide_eq_true h2⟩)
section
variable {E : XS} {δ : DEnv} {P : Post} {te ta tb tl : TE} {t : TS} {d : Dn} {i j : Nat} {K : PySem.W.Frag} {tt : TT} {p : List Nat} {rs : List (List Nat × Dn)}
theorem eo_disp1D (h1 : Ev E ta δ (.ok (dC p))) (h2 : Ev E tb δ (.ok d)) : Ev E (tDisp [(ta, tb)]) δ (.own (oDr [(p, d)])) := fun G0 H0 G σ H Q R q n hn => by
  have g0 : Gr G H G (upd H n (.dK [])) := .skip R.sub hn
  refine h1 G0 H0 G σ _ _ (R.go g0) fun u G1 H1 g1 p1 => h2 G0 H0 G1 σ H1 _ ((R.go g0).go g1) fun w G2 H2 g2 p2 => ?_
  have p1 : u = .str (cS p) := p1
  subst p1
  have g := g0.trans (g1.trans g2)
  have hN : H2 n = some (.dK []) := (g1.trans g2).ext n _ upd_same
  have gn : G2 n = none := by
    cases e : G2 n with
    | none => rfl
    | some o =>
      have := (g1.trans g2).new n (R.sub.free hn) (by rw [e]; exact fun z => nomatch z)
      rw [upd_same] at this; cases this
  refine ⟨hN, [(.inr (cS p), w)], rfl, by show 1 ≤ 15; decide, ?_⟩
  refine q n (.dK [(.inr (cS p), w)]) G2 _ ⟨g.le, fun b o e => ?_, fun b o e => ?_, g.new⟩ hn gn upd_same ⟨_, rfl, rfl, p2, True.intro⟩
  · rw [upd_ne (ne_of_none e gn)]; exact g.sub b o e
  · rw [upd_ne (ne_of_none e hn)]; exact g.ext b o e
theorem ev_getOD (j : Nat) (hj : δ[j]? = some (some (.ow (oDr rs)))) (hb : Ev E tb δ (.ok (dC p))) (hd : rs.lookup p = some d) : Ev E (tSubU K (tVar j) tb) δ (.ok d) := ev_alt2 (r := .ok d) fun G0 H0 G σ H Q R q => by
  obtain ⟨a, o, e1, e2, ⟨kws, e, k⟩, e4, e5⟩ := R.ow j _ hj
  subst e
  refine ⟨_, e1, hb G0 H0 G σ H _ R fun w G2 H2 g2 p2 => ?_⟩
  have p2 : w = .str (cS p) := p2
  subst p2
  have h := k.val p
  rw [hd] at h
  obtain ⟨v, e6, e7⟩ := h
  exact ⟨a, v, rfl, .inl ⟨kws, .inr (cS p), .inl (g2.ext a _ e2), rfl, e6.symm⟩, q v G2 H2 g2 (d.mono (.of g2.le) e7)⟩
theorem sx_dputD (j : Nat) (hj : δ[j]? = some (some (.ow (oDr rs)))) (hv : Ev E te δ (.ok d)) (hb : Ev E tb δ (.ok (dC p))) (hn : p ∉ rs.map (·.1)) (hl : rs.length ≤ 100000)
    (k : P.nx (δ.set j (some (.ow (oDr (rs ++ [(p, d)])))))) : Sx E (sDPut (tVar j) tb te) δ P := fun G0 H0 G σ H D R hd =>
  hv G0 H0 G σ H _ R fun v G1 H1 g1 p1 => by
    have R1 := R.go g1
    obtain ⟨a, o, e1, e2, ⟨kws, e, kk⟩, e4, e5⟩ := R1.ow j _ hj
    subst e
    refine ⟨_, e1, hb G0 H0 G1 σ H1 _ R1 fun w G2 H2 g2 p2 => ?_⟩
    have p2 : w = .str (cS p) := p2
    subst p2
    have R2 := R1.go g2
    have hk : kws.length < sizeLine := by
      have h2 : kws.length = rs.length := by simpa using congrArg List.length kk.keys
      rw [h2]
      exact Nat.lt_of_le_of_lt hl (by decide)
    refine ⟨a, _, rfl, DPut.k (k := .inr (cS p)) (g2.ext a _ e2) hk, ?_⟩
    have kp := (kk.mono (.of g2.le)).put (p := p) (d.mono (.of g2.le) p1)
    rw [putD_new hn] at kp
    exact hd.nx _ G2 _ _ k (R2.mut hj e1 ⟨_, rfl, kp⟩) (g1.le.trans g2.le)
theorem reps_items {G G' H' : Hp} (l : Le G G') : ∀ {rs : List (List Nat × Dn)} {kws : List (Key × V)} {ts : List Addr}, RepsK G (kvD rs) kws → Paired (fun (t : Addr) (q : Key × V) => H' t = some (.tup [kV q.1, q.2])) ts kws → (∀ t, t ∈ ts → G' t = H' t) →
    Reps G' (rs.map fun x => dT K [dC x.1, x.2]) (ts.map V.ref)
  | [], [], _, _, .nil, _ => True.intro
  | x :: rs, kv :: kws, _, h, @Paired.cons _ _ _ t _ _ _ h1 h2, ht => by
    obtain ⟨k1, k2, k3⟩ := h
    refine ⟨⟨t, _, rfl, .of ((ht t List.mem_cons_self).trans h1), ?_, x.2.mono l k2, True.intro⟩, reps_items l k3 h2 fun t hm => ht t (List.mem_cons_of_mem _ hm)⟩
    have k1 : kv.1 = Sum.inr (cS x.1) := k1
    rw [k1]; rfl
  | [], _ :: _, _, h, _, _ => h.elim
  | _ :: _, [], _, h, _, _ => h.elim
/-- list(d.items()) -/
theorem eo_items (j : Nat) (hj : δ[j]? = some (some (.ow (oDr rs)))) : Ev E (LiI.tListItems (tVar j)) δ (.own (oL (rs.map fun x => dT K [dC x.1, x.2]))) := fun G0 H0 G σ H Q R q => by
  obtain ⟨a, o, e1, e2, ⟨kws, e, k⟩, e4, e5⟩ := R.ow j _ hj
  subst e
  refine ⟨_, e1, a, kws, rfl, e2, fun H' p ts hext hp hts hnp hl hpair => ?_⟩
  have hG : ∀ t, t ∈ ts → (fun b => if b ∈ ts then H' b else G b) t = H' t := fun t ht => if_pos ht
  have hN : ∀ b, b ∉ ts → (fun b => if b ∈ ts then H' b else G b) b = G b := fun b hb => if_neg hb
  have le : Same G (fun b => if b ∈ ts then H' b else G b) := fun b u e => by
    by_cases hb : b ∈ ts
    · have := R.sub b u e
      rw [hts b hb] at this; cases this
    · exact (hN b hb).trans e
  refine q p _ (fun b => if b ∈ ts then H' b else G b) H' ⟨le, fun b u e => ?_, hext, fun b h1 h2 => ?_⟩ hp ?_ hl ⟨_, rfl, reps_items (.of le) k hpair hG⟩
  · by_cases hb : b ∈ ts
    · exact (hG b hb).symm.trans e
    · exact hext b u (R.sub b u ((hN b hb).symm.trans e))
  · by_cases hb : b ∈ ts
    · exact hts b hb
    · exact absurd ((hN b hb).trans h1) h2
  · exact (hN p hnp).trans (R.sub.free hp)
/-- t[1:] -/
theorem ev_slT1 {ds : List Dn} {to : TO} (h : Ev E te δ (.ok (dT K (d :: ds)))) (h1 : Eo E to δ (some 1)) : Ev E (tSl (rSlT K) te to tNoPart) δ (.ok (dT K ds)) := fun G0 H0 G σ H Q R q =>
  h G0 H0 G σ H _ R fun w G1 H1 g1 ⟨a, vs, e, sq, r⟩ => h1 G0 H0 G1 σ H1 _ (R.go g1) fun G2 H2 g2 => oo_none (E := E) G0 H0 G2 σ H2 _ ((R.go g1).go g2) fun G3 H3 g3 => by
    subst e
    have g := g2.trans g3
    have hv : 0 < vs.length := by rw [r.len, List.length_cons]; omega
    refine ⟨a, vs, rfl, (Le.of (g.le.trans g.sub)).tup sq, ?_, fun p hp => ?_⟩
    · rintro ⟨h0, _⟩
      have h0 : HT.sIx vs.length 0 (some ((1 : Nat) : Int)) = 0 := h0
      rw [HT.sIx_nat] at h0
      omega
    · have g' := g1.trans g
      have rc := (r.mono (.of g.le)).cut (some 1) none
      rw [cut_tail] at rc
      exact q (.ref p) _ _ (g'.trans (.add (o := .tup _) g'.sub hp)) ⟨p, _, rfl, .of upd_same, rc.mono (.of (Same.new (g'.sub.free hp) _))⟩
/-! ### comprehensions over pairs -/
theorem wipe_again2 (σ : St) (i j : Nat) (v w : V) : wipe (((wipe σ [i, j]).set i (some v)).set j (some w)) [i, j] = wipe σ [i, j] := by
  show (((((σ.set j none).set i none).set i (some v)).set j (some w)).set j none).set i none = (σ.set j none).set i none
  refine List.ext_getElem? fun n => ?_
  simp only [List.getElem?_set, List.length_set]
  by_cases h1 : i = n
  · simp [h1]
  · by_cases h2 : j = n
    · simp [h1, h2]
    · simp [h1, h2]
theorem lc_turn2 {G0 H0 G1 H1 H : Hp} {σ : St} {D : Addr} {es : List Dn} {g1 g2 : Dn} {v1 v2 : V} {Nx : Hp → Prop} (R1 : Rep G0 H0 G1 δ σ H1) (L : LcOk G1 H1 D es H) (hD : H1 D = none) (p1 : g1.p G1 v1) (p2 : g2.p G1 v2) (hl : es.length < 100000)
    (he : Ev E te ((((δ.set j none).set i none).set i (some (.im g1))).set j (some (.im g2))) (.ok d)) (k1 : ∀ H', LcOk G1 H1 D (es ++ [d]) H' → Nx H') :
    wipe (((wipe σ [i, j]).set i (some v1)).set j (some v2)) [i, j] = wipe σ [i, j] ∧ tYes (((wipe σ [i, j]).set i (some v1)).set j (some v2)) H fun b H3 => if b = true then te (((wipe σ [i, j]).set i (some v1)).set j (some v2)) H3 fun y H4 => ∃ acc, H4 D = some (.lst acc) ∧ acc.length < sizeLine ∧ Nx (upd H4 D (.lst (acc ++ [y]))) else Nx H3 := by
  obtain ⟨G2, vs, gg, d2, hd2, r2⟩ := L.ex
  have R2 : Rep G0 H0 G2 ((((δ.set j none).set i none).set i (some (.im g1))).set j (some (.im g2))) (((wipe σ [i, j]).set i (some v1)).set j (some v2)) H := (((((R1.go gg).wipe j).wipe i).set (g1.mono (.of gg.le) p1) i).set (g2.mono (.of gg.le) p2) j)
  refine ⟨wipe_again2 σ i j v1 v2, et_yes (E := E) G0 H0 G2 _ H _ R2 fun G3 H3 g3 => ?_⟩
  refine iteT (he G0 H0 G3 _ H3 _ (R2.go g3) fun w G4 H4 g4 p4 => ?_)
  have d3 : G3 D = none := by
    cases q : G3 D with
    | none => rfl
    | some u =>
      have z := g3.new D d2 (by rw [q]; exact fun z => nomatch z)
      rw [hd2] at z; cases z
  have h3 := g3.ext D _ hd2
  have d4 : G4 D = none := by
    cases q : G4 D with
    | none => rfl
    | some u =>
      have z := g4.new D d3 (by rw [q]; exact fun z => nomatch z)
      rw [h3] at z; cases z
  have h4 := g4.ext D _ h3
  refine ⟨vs, h4, by rw [r2.len]; exact Nat.lt_of_lt_of_le hl (by decide), k1 _ ⟨G4, _, ?_, d4, upd_same, (r2.mono (.of (g3.le.trans g4.le))).app ⟨p4, True.intro⟩⟩⟩
  have g := gg.trans (g3.trans g4)
  exact ⟨g.le, fun a u e => by rw [upd_ne (ne_of_none e d4)]; exact g.sub a u e, fun a u e => by rw [upd_ne (ne_of_none e hD)]; exact g.ext a u e, g.new⟩
/-- over a list of pairs -/
theorem eo_lcL2 {α : Type} (xs : List α) (g1 g2 : α → Dn) (e : α → Dn) (h : Ev E tl δ (.ok (dL K (xs.map fun x => dT K [g1 x, g2 x])))) (hl : xs.length ≤ 10000)
    (he : ∀ x, x ∈ xs → Ev E te ((((δ.set j none).set i none).set i (some (.im (g1 x)))).set j (some (.im (g2 x)))) (.ok (e x))) : Ev E (tLc (iList K tl) (gTup K 2 (gCons (gName i) (gCons (gName j) gNil))) tYes te [i, j]) δ (.own (oL (xs.map e))) := fun G0 H0 G σ H Q R q => by
  refine h G0 H0 G σ H _ R fun v G1 H1 gg ⟨a, vs, ev, sq, rp⟩ => ?_
  subst ev
  refine ⟨a, rfl, ⟨vs, (Le.of gg.sub).lst sq⟩, fun D hD => ?_⟩
  have R1 := R.go gg
  have g1D : G1 D = none := gg.sub.free hD
  refine lc_list (K := K) (a := a) (xs := vs) (fun n H' => LcOk G1 H1 D ((xs.take n).map e) H') ?_ ?_ ?_ ?_
  · exact ⟨G1, [], .skip gg.sub hD, g1D, upd_same, True.intro⟩
  · rintro n H' _ ⟨G2, us, g2, _⟩
    exact ((Le.of g2.le).trans (.of g2.sub)).lst sq
  · rintro n x H' ex L
    obtain ⟨dx, edx, pdx⟩ := rp.getV ex
    rw [List.getElem?_map] at edx
    obtain ⟨y, ey, rfl⟩ := Option.map_eq_some_iff.mp edx
    obtain ⟨b, us, eb, t2, r2⟩ := pdx
    obtain ⟨u1, u2, e2, q1, q2⟩ := Reps_two r2
    subst eb; subst e2
    obtain ⟨G2, ws, gg2, _⟩ := L.ex
    refine ⟨b, _, rfl, ((Le.of gg2.le).trans (.of gg2.sub)).tup t2, rfl, u1, [u2], rfl, u2, [], rfl, rfl, ?_⟩
    refine lc_turn2 (d := e y) R1 L hD q1 q2 ?_ (he y (List.mem_of_getElem? ey)) ?_
    · rw [List.length_map, List.length_take]; omega
    · intro H'' L'
      rw [take_snoc ey, List.map_append]
      exact L'
  · rintro H' L
    rw [rp.len, List.length_map, List.take_length] at L
    obtain ⟨G2, us, g2, d2, hd2, r2⟩ := L.ex
    exact q D _ G2 H' (gg.trans g2) (gg.ext.free hD) d2 hd2 ⟨us, rfl, r2⟩
/-- over zip of two lists that are known -/
theorem eo_lcZ {α : Type} (xs : List α) (g1 g2 : α → Dn) (e : α → Dn) (h1 : Ev E ta δ (.ok (dL K (xs.map g1)))) (h2 : Ev E tb δ (.ok (dL K (xs.map g2)))) (hl : xs.length ≤ 10000)
    (he : ∀ x, x ∈ xs → Ev E te ((((δ.set j none).set i none).set i (some (.im (g1 x)))).set j (some (.im (g2 x)))) (.ok (e x))) : Ev E (tLc (RZ.iZipA K (tCons ta (tCons tb tNil))) (gTup K 2 (gCons (gName i) (gCons (gName j) gNil))) tYes te [i, j]) δ (.own (oL (xs.map e))) := fun G0 H0 G σ H Q R q => by
  refine h1 G0 H0 G σ H _ R fun v G1' H1' ga ⟨a, vs, ev, sq, rp⟩ => h2 G0 H0 G1' σ H1' _ (R.go ga) fun v' G1 H1 gb ⟨b, ws, ev', sq', rp'⟩ => ?_
  subst ev; subst ev'
  have gg := ga.trans gb
  refine ⟨a, b, vs, ws, rfl, .inl ⟨(Le.of (gb.le.trans gb.sub)).lst sq, (Le.of gb.sub).lst sq', fun D hD => ?_⟩⟩
  have R1 := R.go gg
  have g1D : G1 D = none := gg.sub.free hD
  have rpa := rp.mono (.of gb.le)
  have lv : vs.length = xs.length := by rw [rp.len, List.length_map]
  have lw : ws.length = xs.length := by rw [rp'.len, List.length_map]
  refine ⟨fun n m H' => m = xs.length - n ∧ n ≤ xs.length ∧ LcOk G1 H1 D ((xs.take n).map e) H', ⟨xs.length, rfl, Nat.zero_le _, ⟨G1, [], .skip gg.sub hD, g1D, upd_same, True.intro⟩⟩, ?_⟩
  rintro n m H' ⟨rfl, hn, L⟩
  have L0 := L
  obtain ⟨G2, us, g2', d2, hd2, r2⟩ := L.ex
  have sa : SqL K H' a vs := (Le.of (gb.le.trans (g2'.le.trans g2'.sub))).lst sq
  have sb : SqL K H' b ws := (Le.of (g2'.le.trans g2'.sub)).lst sq'
  by_cases hlt : n < xs.length
  · have ex := List.getElem?_eq_getElem (show n < vs.length by omega)
    have ey := List.getElem?_eq_getElem (show n < ws.length by omega)
    have ez := List.getElem?_eq_getElem hlt
    refine .inr ⟨⟨vs, ws, _, _, sa, sb, ex, ey⟩, fun H'' => LcOk G1 H1 D ((xs.take (n + 1)).map e) H'', fun H'' L'' => ⟨xs.length - (n + 1), by omega, rfl, hlt, L''⟩, ?_⟩
    rintro x H'' ⟨T, x1, y1, rfl, hT, rfl, hx, hy⟩
    have ex1 : vs[n]? = some x1 := hx vs sa
    have ey1 : ws[n]? = some y1 := hy ws sb
    obtain ⟨dx, edx, pdx⟩ := rpa.getV ex1
    obtain ⟨dy, edy, pdy⟩ := rp'.getV ey1
    rw [List.getElem?_map, ez] at edx edy
    cases edx
    cases edy
    have L1 : LcOk G1 H1 D ((xs.take n).map e) (upd H' T (.tup [x1, y1])) := ⟨G2, us, g2'.trans (.skip (o := .tup [x1, y1]) g2'.sub hT), d2, by rw [upd_ne (ne_of_none hd2 hT)]; exact hd2, r2⟩
    refine ⟨T, _, rfl, .of upd_same, rfl, x1, [y1], rfl, y1, [], rfl, rfl, ?_⟩
    refine lc_turn2 (d := e xs[n]) R1 L1 hD pdx pdy ?_ (he _ (List.getElem_mem hlt)) ?_
    · rw [List.length_map, List.length_take]; omega
    · intro H3 L'
      rw [take_snoc ez, List.map_append]
      exact L'
  · have en : n = xs.length := by omega
    subst en
    refine .inl ⟨⟨vs, ws, sa, sb, .inl (by omega)⟩, ?_⟩
    rw [List.take_length] at L0
    obtain ⟨G2, us, g2, d2, hd2, r2⟩ := L0.ex
    exact q D _ G2 H' (gg.trans g2) (gg.ext.free hD) d2 hd2 ⟨us, rfl, r2⟩
end
end HM
namespace HM
open PySem L2
/-! ### the top of the text -/
def figs : List Nat := [48, 49, 50, 51, 52, 53, 54, 55, 56, 57]
def top (i : Nat) : Stmt := PySem.Challenge.pw_hangmobile_k06_whole_middles.main.body.getD i (.Pass ⟨0, 0, 0, 0⟩)
abbrev s_divisor : Stmt := top 6
abbrev n_divisor : List Str := ["one", "other", "rest"]
theorem sc_divisor : FnScope n_divisor ["one", "other"] (defScope s_divisor) := ⟨rfl, rfl, rfl, by decide +kernel, rfl, by decide +kernel, by decide +kernel⟩
abbrev s_fraction : Stmt := top 7
abbrev n_fraction : List Str := ["top", "bottom", "by"]
theorem sc_fraction : FnScope n_fraction ["top", "bottom"] (defScope s_fraction) := ⟨rfl, rfl, rfl, by decide +kernel, rfl, by decide +kernel, by decide +kernel⟩
abbrev s_plus : Stmt := top 8
abbrev n_plus : List Str := ["one", "other"]
theorem sc_plus : FnScope n_plus ["one", "other"] (defScope s_plus) := ⟨rfl, rfl, rfl, by decide +kernel, rfl, by decide +kernel, by decide +kernel⟩
abbrev s_minus : Stmt := top 9
abbrev n_minus : List Str := ["one", "other"]
theorem sc_minus : FnScope n_minus ["one", "other"] (defScope s_minus) := ⟨rfl, rfl, rfl, by decide +kernel, rfl, by decide +kernel, by decide +kernel⟩
abbrev s_times : Stmt := top 10
abbrev n_times : List Str := ["one", "other"]
theorem sc_times : FnScope n_times ["one", "other"] (defScope s_times) := ⟨rfl, rfl, rfl, by decide +kernel, rfl, by decide +kernel, by decide +kernel⟩
abbrev s_under : Stmt := top 11
abbrev n_under : List Str := ["one", "other"]
theorem sc_under : FnScope n_under ["one", "other"] (defScope s_under) := ⟨rfl, rfl, rfl, by decide +kernel, rfl, by decide +kernel, by decide +kernel⟩
abbrev s_pulls : Stmt := top 18
abbrev n_pulls : List Str := ["mobile", "found", "place", "thing", "left", "right"]
theorem sc_pulls : FnScope n_pulls ["mobile"] (defScope s_pulls) := ⟨rfl, rfl, rfl, by decide +kernel, rfl, by decide +kernel, by decide +kernel⟩
abbrev s_first_tipping : Stmt := top 19
abbrev n_first_tipping : List Str := ["mobile", "place", "left", "right"]
theorem sc_first_tipping : FnScope n_first_tipping ["mobile"] (defScope s_first_tipping) := ⟨rfl, rfl, rfl, by decide +kernel, rfl, by decide +kernel, by decide +kernel⟩
abbrev s_hangs_level : Stmt := top 20
abbrev n_hangs_level : List Str := ["mobile"]
theorem sc_hangs_level : FnScope n_hangs_level ["mobile"] (defScope s_hangs_level) := ⟨rfl, rfl, rfl, by decide +kernel, rfl, by decide +kernel, by decide +kernel⟩
abbrev s_drawn : Stmt := top 21
abbrev n_drawn : List Str := ["mobile", "fars", "place", "rod", "here"]
theorem sc_drawn : FnScope n_drawn ["mobile"] (defScope s_drawn) := ⟨rfl, rfl, rfl, by decide +kernel, rfl, by decide +kernel, by decide +kernel⟩
abbrev s_figures_end : Stmt := top 24
abbrev n_figures_end : List Str := ["text", "at", "end"]
theorem sc_figures_end : FnScope n_figures_end ["text", "at"] (defScope s_figures_end) := ⟨rfl, rfl, rfl, by decide +kernel, rfl, by decide +kernel, by decide +kernel⟩
abbrev s_number_at : Stmt := top 25
abbrev n_number_at : List Str := ["text", "at", "end", "top", "last", "bottom"]
theorem sc_number_at : FnScope n_number_at ["text", "at"] (defScope s_number_at) := ⟨rfl, rfl, rfl, by decide +kernel, rfl, by decide +kernel, by decide +kernel⟩
abbrev s_past : Stmt := top 26
abbrev n_past : List Str := ["text", "at", "sign"]
theorem sc_past : FnScope n_past ["text", "at", "sign"] (defScope s_past) := ⟨rfl, rfl, rfl, by decide +kernel, rfl, by decide +kernel, by decide +kernel⟩
abbrev s_thing_at : Stmt := top 27
abbrev n_thing_at : List Str := ["text", "at", "amount", "end", "left_arm", "left", "right_arm", "right"]
theorem sc_thing_at : FnScope n_thing_at ["text", "at"] (defScope s_thing_at) := ⟨rfl, rfl, rfl, by decide +kernel, rfl, by decide +kernel, by decide +kernel⟩
abbrev s_read : Stmt := top 28
abbrev n_read : List Str := ["text", "mobile", "end"]
theorem sc_read : FnScope n_read ["text"] (defScope s_read) := ⟨rfl, rfl, rfl, by decide +kernel, rfl, by decide +kernel, by decide +kernel⟩
abbrev s__law_cell_at : Stmt := top 30
abbrev n__law_cell_at : List Str := ["_law_script", "_law_k"]
theorem sc__law_cell_at : FnScope n__law_cell_at ["_law_script", "_law_k"] (defScope s__law_cell_at) := ⟨rfl, rfl, rfl, by decide +kernel, rfl, by decide +kernel, by decide +kernel⟩
abbrev s__law_whole : Stmt := top 31
abbrev n__law_whole : List Str := ["_law_found"]
theorem sc__law_whole : FnScope n__law_whole ["_law_found"] (defScope s__law_whole) := ⟨rfl, rfl, rfl, by decide +kernel, rfl, by decide +kernel, by decide +kernel⟩
abbrev s__law_same : Stmt := top 32
abbrev n__law_same : List Str := ["_law_found", "_law_due"]
theorem sc__law_same : FnScope n__law_same ["_law_found", "_law_due"] (defScope s__law_same) := ⟨rfl, rfl, rfl, by decide +kernel, rfl, by decide +kernel, by decide +kernel⟩
abbrev s__law_lowest : Stmt := top 33
abbrev n__law_lowest : List Str := ["_law_top", "_law_bottom", "_law_one", "_law_other", "_law_rest"]
theorem sc__law_lowest : FnScope n__law_lowest ["_law_top", "_law_bottom"] (defScope s__law_lowest) := ⟨rfl, rfl, rfl, by decide +kernel, rfl, by decide +kernel, by decide +kernel⟩
abbrev s__law_sum : Stmt := top 34
abbrev n__law_sum : List Str := ["_law_one", "_law_other"]
theorem sc__law_sum : FnScope n__law_sum ["_law_one", "_law_other"] (defScope s__law_sum) := ⟨rfl, rfl, rfl, by decide +kernel, rfl, by decide +kernel, by decide +kernel⟩
abbrev s__law_less : Stmt := top 35
abbrev n__law_less : List Str := ["_law_one", "_law_other"]
theorem sc__law_less : FnScope n__law_less ["_law_one", "_law_other"] (defScope s__law_less) := ⟨rfl, rfl, rfl, by decide +kernel, rfl, by decide +kernel, by decide +kernel⟩
abbrev s__law_product : Stmt := top 36
abbrev n__law_product : List Str := ["_law_one", "_law_other"]
theorem sc__law_product : FnScope n__law_product ["_law_one", "_law_other"] (defScope s__law_product) := ⟨rfl, rfl, rfl, by decide +kernel, rfl, by decide +kernel, by decide +kernel⟩
abbrev s__law_quotient : Stmt := top 37
abbrev n__law_quotient : List Str := ["_law_one", "_law_other"]
theorem sc__law_quotient : FnScope n__law_quotient ["_law_one", "_law_other"] (defScope s__law_quotient) := ⟨rfl, rfl, rfl, by decide +kernel, rfl, by decide +kernel, by decide +kernel⟩
abbrev s__law_mixed : Stmt := top 38
abbrev n__law_mixed : List Str := ["_law_cell", "_law_factor"]
theorem sc__law_mixed : FnScope n__law_mixed ["_law_cell", "_law_factor"] (defScope s__law_mixed) := ⟨rfl, rfl, rfl, by decide +kernel, rfl, by decide +kernel, by decide +kernel⟩
abbrev s__law_amount : Stmt := top 39
abbrev n__law_amount : List Str := ["_law_cell", "_law_kind", "_law_number_here"]
theorem sc__law_amount : FnScope n__law_amount ["_law_cell", "_law_kind"] (defScope s__law_amount) := ⟨rfl, rfl, rfl, by decide +kernel, rfl, by decide +kernel, by decide +kernel⟩
abbrev s__law_arms : Stmt := top 40
abbrev n__law_arms : List Str := ["_law_cell", "_law_kind", "_law_one", "_law_two", "_law_size"]
theorem sc__law_arms : FnScope n__law_arms ["_law_cell", "_law_kind"] (defScope s__law_arms) := ⟨rfl, rfl, rfl, by decide +kernel, rfl, by decide +kernel, by decide +kernel⟩
abbrev s__law_spot : Stmt := top 41
abbrev n__law_spot : List Str := ["_law_rows", "_law_cell", "_law_shape", "_law_newest", "_law_spots", "_law_place"]
theorem sc__law_spot : FnScope n__law_spot ["_law_rows", "_law_cell", "_law_shape", "_law_newest"] (defScope s__law_spot) := ⟨rfl, rfl, rfl, by decide +kernel, rfl, by decide +kernel, by decide +kernel⟩
abbrev s__law_grown : Stmt := top 42
abbrev n__law_grown : List Str := ["_law_script", "_law_kind", "_law_shape", "_law_rows", "_law_newest", "_law_cell", "_law_at", "_law_old", "_law_arms_here", "_law_length"]
theorem sc__law_grown : FnScope n__law_grown ["_law_script", "_law_kind", "_law_shape"] (defScope s__law_grown) := ⟨rfl, rfl, rfl, by decide +kernel, rfl, by decide +kernel, by decide +kernel⟩
abbrev s__law_tipped : Stmt := top 43
abbrev n__law_tipped : List Str := ["_law_rows", "_law_kind", "_law_number_here", "_law_by", "_law_spots", "_law_at", "_law_rods", "_law_arms_here", "_law_place"]
theorem sc__law_tipped : FnScope n__law_tipped ["_law_rows", "_law_kind", "_law_number_here"] (defScope s__law_tipped) := ⟨rfl, rfl, rfl, by decide +kernel, rfl, by decide +kernel, by decide +kernel⟩
abbrev s__law_made : Stmt := top 44
abbrev n__law_made : List Str := ["_law_rows", "_law_place", "_law_kept", "_law_row"]
theorem sc__law_made : FnScope n__law_made ["_law_rows", "_law_place", "_law_kept"] (defScope s__law_made) := ⟨rfl, rfl, rfl, by decide +kernel, rfl, by decide +kernel, by decide +kernel⟩
abbrev s__law_twice : Stmt := top 45
abbrev n__law_twice : List Str := ["_law_rows", "_law_arms_here", "_law_found", "_law_place"]
theorem sc__law_twice : FnScope n__law_twice ["_law_rows", "_law_arms_here"] (defScope s__law_twice) := ⟨rfl, rfl, rfl, by decide +kernel, rfl, by decide +kernel, by decide +kernel⟩
abbrev s__law_ends : Stmt := top 46
abbrev n__law_ends : List Str := ["_law_head", "_law_kind", "_law_arms_here"]
theorem sc__law_ends : FnScope n__law_ends ["_law_head", "_law_kind"] (defScope s__law_ends) := ⟨rfl, rfl, rfl, by decide +kernel, rfl, by decide +kernel, by decide +kernel⟩
abbrev s__law_number : Stmt := top 47
abbrev n__law_number : List Str := ["_law_one"]
theorem sc__law_number : FnScope n__law_number ["_law_one"] (defScope s__law_number) := ⟨rfl, rfl, rfl, by decide +kernel, rfl, by decide +kernel, by decide +kernel⟩
abbrev s__law_written : Stmt := top 48
abbrev n__law_written : List Str := ["_law_rows", "_law_place", "_law_row", "_law_left", "_law_right"]
theorem sc__law_written : FnScope n__law_written ["_law_rows", "_law_place"] (defScope s__law_written) := ⟨rfl, rfl, rfl, by decide +kernel, rfl, by decide +kernel, by decide +kernel⟩
abbrev s__law_is_row : Stmt := top 49
abbrev n__law_is_row : List Str := ["_law_row", "_law_place", "_law_many", "_law_one"]
theorem sc__law_is_row : FnScope n__law_is_row ["_law_row", "_law_place", "_law_many"] (defScope s__law_is_row) := ⟨rfl, rfl, rfl, by decide +kernel, rfl, by decide +kernel, by decide +kernel⟩
abbrev s__law_listed : Stmt := top 50
abbrev n__law_listed : List Str := ["_law_found", "_law_places", "_law_many", "_law_row", "_law_place"]
theorem sc__law_listed : FnScope n__law_listed ["_law_found", "_law_places", "_law_many"] (defScope s__law_listed) := ⟨rfl, rfl, rfl, by decide +kernel, rfl, by decide +kernel, by decide +kernel⟩
abbrev s__law_hung : Stmt := top 51
abbrev n__law_hung : List Str := ["_law_fars", "_law_rows", "_law_place", "_law_due"]
theorem sc__law_hung : FnScope n__law_hung ["_law_fars", "_law_rows"] (defScope s__law_hung) := ⟨rfl, rfl, rfl, by decide +kernel, rfl, by decide +kernel, by decide +kernel⟩
abbrev s__law_middles : Stmt := top 52
abbrev n__law_middles : List Str := ["_law_rows", "_law_fars", "_law_gaps", "_law_load", "_law_turn", "_law_less_here", "_law_rods", "_law_place", "_law_beneath", "_law_here"]
theorem sc__law_middles : FnScope n__law_middles ["_law_rows", "_law_fars", "_law_gaps"] (defScope s__law_middles) := ⟨rfl, rfl, rfl, by decide +kernel, rfl, by decide +kernel, by decide +kernel⟩
abbrev s_law : Stmt := top 53
abbrev n_law : List Str := ["_law_script", "_law_head", "_law_kind", "_law_rows", "_law_mobile", "_law_arms_here", "_law_places", "_law_hung_here", "_law_told", "_law_fars", "_law_place", "_law_far", "_law_gaps", "_law_left", "_law_right", "_law_pairs", "_law_here", "_law_due", "_law_kept", "_law_level"]
theorem sc_law : FnScope n_law ["_law_script"] (defScope s_law) := ⟨rfl, rfl, rfl, by decide +kernel, rfl, by decide +kernel, by decide +kernel⟩
abbrev s_Hung_places : Stmt := inClass (top 14) 0
abbrev n_Hung_places : List Str := ["self", "ahead"]
theorem sc_Hung_places : FnScope n_Hung_places ["self", "ahead"] (defScope s_Hung_places) := ⟨rfl, rfl, rfl, by decide +kernel, rfl, by decide +kernel, by decide +kernel⟩
abbrev s_Hung_at : Stmt := inClass (top 14) 1
abbrev n_Hung_at : List Str := ["self", "place"]
theorem sc_Hung_at : FnScope n_Hung_at ["self", "place"] (defScope s_Hung_at) := ⟨rfl, rfl, rfl, by decide +kernel, rfl, by decide +kernel, by decide +kernel⟩
abbrev s_Weight___init__ : Stmt := inClass (top 15) 0
abbrev n_Weight___init__ : List Str := ["self", "amount"]
theorem sc_Weight___init__ : FnScope n_Weight___init__ ["self", "amount"] (defScope s_Weight___init__) := ⟨rfl, rfl, rfl, by decide +kernel, rfl, by decide +kernel, by decide +kernel⟩
abbrev s_Weight_heft : Stmt := inClass (top 15) 1
abbrev n_Weight_heft : List Str := ["self"]
theorem sc_Weight_heft : FnScope n_Weight_heft ["self"] (defScope s_Weight_heft) := ⟨rfl, rfl, rfl, by decide +kernel, rfl, by decide +kernel, by decide +kernel⟩
abbrev s_Rod___init__ : Stmt := inClass (top 16) 0
abbrev n_Rod___init__ : List Str := ["self", "left_arm", "left", "right_arm", "right"]
theorem sc_Rod___init__ : FnScope n_Rod___init__ ["self", "left_arm", "left", "right_arm", "right"] (defScope s_Rod___init__) := ⟨rfl, rfl, rfl, by decide +kernel, rfl, by decide +kernel, by decide +kernel⟩
abbrev s_Rod_heft : Stmt := inClass (top 16) 1
abbrev n_Rod_heft : List Str := ["self"]
theorem sc_Rod_heft : FnScope n_Rod_heft ["self"] (defScope s_Rod_heft) := ⟨rfl, rfl, rfl, by decide +kernel, rfl, by decide +kernel, by decide +kernel⟩
abbrev s_Rod_places : Stmt := inClass (top 16) 2
abbrev n_Rod_places : List Str := ["self", "ahead"]
theorem sc_Rod_places : FnScope n_Rod_places ["self", "ahead"] (defScope s_Rod_places) := ⟨rfl, rfl, rfl, by decide +kernel, rfl, by decide +kernel, by decide +kernel⟩
abbrev s_Rod_at : Stmt := inClass (top 16) 3
abbrev n_Rod_at : List Str := ["self", "place"]
theorem sc_Rod_at : FnScope n_Rod_at ["self", "place"] (defScope s_Rod_at) := ⟨rfl, rfl, rfl, by decide +kernel, rfl, by decide +kernel, by decide +kernel⟩
/-- what the top has left -/
structure Top (K : PySem.W.Frag) (mg : Str → Option Value) where
  f_divisor : Addr
  fd_divisor : FuncData
  d_divisor : Df K mg "divisor" s_divisor ["one", "other"] f_divisor fd_divisor
  f_fraction : Addr
  fd_fraction : FuncData
  d_fraction : Df K mg "fraction" s_fraction ["top", "bottom"] f_fraction fd_fraction
  f_plus : Addr
  fd_plus : FuncData
  d_plus : Df K mg "plus" s_plus ["one", "other"] f_plus fd_plus
  f_minus : Addr
  fd_minus : FuncData
  d_minus : Df K mg "minus" s_minus ["one", "other"] f_minus fd_minus
  f_times : Addr
  fd_times : FuncData
  d_times : Df K mg "times" s_times ["one", "other"] f_times fd_times
  f_under : Addr
  fd_under : FuncData
  d_under : Df K mg "under" s_under ["one", "other"] f_under fd_under
  f_pulls : Addr
  fd_pulls : FuncData
  d_pulls : Df K mg "pulls" s_pulls ["mobile"] f_pulls fd_pulls
  f_first_tipping : Addr
  fd_first_tipping : FuncData
  d_first_tipping : Df K mg "first_tipping" s_first_tipping ["mobile"] f_first_tipping fd_first_tipping
  f_hangs_level : Addr
  fd_hangs_level : FuncData
  d_hangs_level : Df K mg "hangs_level" s_hangs_level ["mobile"] f_hangs_level fd_hangs_level
  f_drawn : Addr
  fd_drawn : FuncData
  d_drawn : Df K mg "drawn" s_drawn ["mobile"] f_drawn fd_drawn
  f_figures_end : Addr
  fd_figures_end : FuncData
  d_figures_end : Df K mg "figures_end" s_figures_end ["text", "at"] f_figures_end fd_figures_end
  f_number_at : Addr
  fd_number_at : FuncData
  d_number_at : Df K mg "number_at" s_number_at ["text", "at"] f_number_at fd_number_at
  f_past : Addr
  fd_past : FuncData
  d_past : Df K mg "past" s_past ["text", "at", "sign"] f_past fd_past
  f_thing_at : Addr
  fd_thing_at : FuncData
  d_thing_at : Df K mg "thing_at" s_thing_at ["text", "at"] f_thing_at fd_thing_at
  f_read : Addr
  fd_read : FuncData
  d_read : Df K mg "read" s_read ["text"] f_read fd_read
  f__law_cell_at : Addr
  fd__law_cell_at : FuncData
  d__law_cell_at : Df K mg "_law_cell_at" s__law_cell_at ["_law_script", "_law_k"] f__law_cell_at fd__law_cell_at
  f__law_whole : Addr
  fd__law_whole : FuncData
  d__law_whole : Df K mg "_law_whole" s__law_whole ["_law_found"] f__law_whole fd__law_whole
  f__law_same : Addr
  fd__law_same : FuncData
  d__law_same : Df K mg "_law_same" s__law_same ["_law_found", "_law_due"] f__law_same fd__law_same
  f__law_lowest : Addr
  fd__law_lowest : FuncData
  d__law_lowest : Df K mg "_law_lowest" s__law_lowest ["_law_top", "_law_bottom"] f__law_lowest fd__law_lowest
  f__law_sum : Addr
  fd__law_sum : FuncData
  d__law_sum : Df K mg "_law_sum" s__law_sum ["_law_one", "_law_other"] f__law_sum fd__law_sum
  f__law_less : Addr
  fd__law_less : FuncData
  d__law_less : Df K mg "_law_less" s__law_less ["_law_one", "_law_other"] f__law_less fd__law_less
  f__law_product : Addr
  fd__law_product : FuncData
  d__law_product : Df K mg "_law_product" s__law_product ["_law_one", "_law_other"] f__law_product fd__law_product
  f__law_quotient : Addr
  fd__law_quotient : FuncData
  d__law_quotient : Df K mg "_law_quotient" s__law_quotient ["_law_one", "_law_other"] f__law_quotient fd__law_quotient
  f__law_mixed : Addr
  fd__law_mixed : FuncData
  d__law_mixed : Df K mg "_law_mixed" s__law_mixed ["_law_cell", "_law_factor"] f__law_mixed fd__law_mixed
  f__law_amount : Addr
  fd__law_amount : FuncData
  d__law_amount : Df K mg "_law_amount" s__law_amount ["_law_cell", "_law_kind"] f__law_amount fd__law_amount
  f__law_arms : Addr
  fd__law_arms : FuncData
  d__law_arms : Df K mg "_law_arms" s__law_arms ["_law_cell", "_law_kind"] f__law_arms fd__law_arms
  f__law_spot : Addr
  fd__law_spot : FuncData
  d__law_spot : Df K mg "_law_spot" s__law_spot ["_law_rows", "_law_cell", "_law_shape", "_law_newest"] f__law_spot fd__law_spot
  f__law_grown : Addr
  fd__law_grown : FuncData
  d__law_grown : Df K mg "_law_grown" s__law_grown ["_law_script", "_law_kind", "_law_shape"] f__law_grown fd__law_grown
  f__law_tipped : Addr
  fd__law_tipped : FuncData
  d__law_tipped : Df K mg "_law_tipped" s__law_tipped ["_law_rows", "_law_kind", "_law_number_here"] f__law_tipped fd__law_tipped
  f__law_made : Addr
  fd__law_made : FuncData
  d__law_made : Df K mg "_law_made" s__law_made ["_law_rows", "_law_place", "_law_kept"] f__law_made fd__law_made
  f__law_twice : Addr
  fd__law_twice : FuncData
  d__law_twice : Df K mg "_law_twice" s__law_twice ["_law_rows", "_law_arms_here"] f__law_twice fd__law_twice
  f__law_ends : Addr
  fd__law_ends : FuncData
  d__law_ends : Df K mg "_law_ends" s__law_ends ["_law_head", "_law_kind"] f__law_ends fd__law_ends
  f__law_number : Addr
  fd__law_number : FuncData
  d__law_number : Df K mg "_law_number" s__law_number ["_law_one"] f__law_number fd__law_number
  f__law_written : Addr
  fd__law_written : FuncData
  d__law_written : Df K mg "_law_written" s__law_written ["_law_rows", "_law_place"] f__law_written fd__law_written
  f__law_is_row : Addr
  fd__law_is_row : FuncData
  d__law_is_row : Df K mg "_law_is_row" s__law_is_row ["_law_row", "_law_place", "_law_many"] f__law_is_row fd__law_is_row
  f__law_listed : Addr
  fd__law_listed : FuncData
  d__law_listed : Df K mg "_law_listed" s__law_listed ["_law_found", "_law_places", "_law_many"] f__law_listed fd__law_listed
  f__law_hung : Addr
  fd__law_hung : FuncData
  d__law_hung : Df K mg "_law_hung" s__law_hung ["_law_fars", "_law_rows"] f__law_hung fd__law_hung
  f__law_middles : Addr
  fd__law_middles : FuncData
  d__law_middles : Df K mg "_law_middles" s__law_middles ["_law_rows", "_law_fars", "_law_gaps"] f__law_middles fd__law_middles
  f_law : Addr
  fd_law : FuncData
  d_law : Df K mg "law" s_law ["_law_script"] f_law fd_law
  f_Hung_places : Addr
  fd_Hung_places : FuncData
  u_Hung_places : Value
  d_Hung_places : MfD K "places" "Hung.places" s_Hung_places ["self", "ahead"] f_Hung_places fd_Hung_places u_Hung_places
  f_Hung_at : Addr
  fd_Hung_at : FuncData
  d_Hung_at : Mf K "at" "Hung.at" s_Hung_at ["self", "place"] f_Hung_at fd_Hung_at
  f_Weight___init__ : Addr
  fd_Weight___init__ : FuncData
  d_Weight___init__ : Mf K "__init__" "Weight.__init__" s_Weight___init__ ["self", "amount"] f_Weight___init__ fd_Weight___init__
  f_Weight_heft : Addr
  fd_Weight_heft : FuncData
  d_Weight_heft : Mf K "heft" "Weight.heft" s_Weight_heft ["self"] f_Weight_heft fd_Weight_heft
  f_Rod___init__ : Addr
  fd_Rod___init__ : FuncData
  d_Rod___init__ : Mf K "__init__" "Rod.__init__" s_Rod___init__ ["self", "left_arm", "left", "right_arm", "right"] f_Rod___init__ fd_Rod___init__
  f_Rod_heft : Addr
  fd_Rod_heft : FuncData
  d_Rod_heft : Mf K "heft" "Rod.heft" s_Rod_heft ["self"] f_Rod_heft fd_Rod_heft
  f_Rod_places : Addr
  fd_Rod_places : FuncData
  u_Rod_places : Value
  d_Rod_places : MfD K "places" "Rod.places" s_Rod_places ["self", "ahead"] f_Rod_places fd_Rod_places u_Rod_places
  f_Rod_at : Addr
  fd_Rod_at : FuncData
  d_Rod_at : Mf K "at" "Rod.at" s_Rod_at ["self", "place"] f_Rod_at fd_Rod_at
  c_Hung : Addr
  c_Weight : Addr
  c_Rod : Addr
  o_Hung : ClOk K mg "Hung" c_Hung
  o_Weight : ClOk K mg "Weight" c_Weight
  o_Rod : ClOk K mg "Rod" c_Rod
  w_Weight_Hung : PySem.W.subIn K (.ref c_Weight) (.ref c_Hung) = some true
  w_Weight_Weight : PySem.W.subIn K (.ref c_Weight) (.ref c_Weight) = some true
  w_Weight_Rod : PySem.W.subIn K (.ref c_Weight) (.ref c_Rod) = some false
  w_Rod_Hung : PySem.W.subIn K (.ref c_Rod) (.ref c_Hung) = some true
  w_Rod_Weight : PySem.W.subIn K (.ref c_Rod) (.ref c_Weight) = some false
  w_Rod_Rod : PySem.W.subIn K (.ref c_Rod) (.ref c_Rod) = some true
  k_Weight_heft : Meth K c_Weight "heft" f_Weight_heft
  k_Weight_places : Meth K c_Weight "places" f_Hung_places
  k_Weight_at : Meth K c_Weight "at" f_Hung_at
  k_Rod_heft : Meth K c_Rod "heft" f_Rod_heft
  k_Rod_places : Meth K c_Rod "places" f_Rod_places
  k_Rod_at : Meth K c_Rod "at" f_Rod_at
  mk_Weight : Mk K c_Weight f_Weight___init__
  na_Weight_amount : NoAttr K c_Weight "amount"
  mk_Rod : Mk K c_Rod f_Rod___init__
  na_Rod_left_arm : NoAttr K c_Rod "left_arm"
  na_Rod_left : NoAttr K c_Rod "left"
  na_Rod_right_arm : NoAttr K c_Rod "right_arm"
  na_Rod_right : NoAttr K c_Rod "right"
  na_Rod_total : NoAttr K c_Rod "total"
  a_NOUGHT : Addr
  g_NOUGHT : mg "NOUGHT" = some (.ref a_NOUGHT)
  n_NOUGHT : ∀ G, SqT K G a_NOUGHT [.int 0, .int 1]
  t_FIGURES : Tok
  g_FIGURES : mg "FIGURES" = some (.str (cS figs) t_FIGURES)
  c_MobileError : Addr
  c_NoNumber : Addr
  c_NoPlace : Addr
  c_NoText : Addr
  x_MobileError : XcOk K mg "MobileError" c_MobileError
  x_NoNumber : XcOk K mg "NoNumber" c_NoNumber
  x_NoPlace : XcOk K mg "NoPlace" c_NoPlace
  x_NoText : XcOk K mg "NoText" c_NoText
  u_MobileError_MobileError : PySem.W.subIn K (.ref c_MobileError) (.ref c_MobileError) = some true
  u_MobileError_NoNumber : PySem.W.subIn K (.ref c_MobileError) (.ref c_NoNumber) = some false
  u_MobileError_NoPlace : PySem.W.subIn K (.ref c_MobileError) (.ref c_NoPlace) = some false
  u_MobileError_NoText : PySem.W.subIn K (.ref c_MobileError) (.ref c_NoText) = some false
  u_NoNumber_MobileError : PySem.W.subIn K (.ref c_NoNumber) (.ref c_MobileError) = some true
  u_NoNumber_NoNumber : PySem.W.subIn K (.ref c_NoNumber) (.ref c_NoNumber) = some true
  u_NoNumber_NoPlace : PySem.W.subIn K (.ref c_NoNumber) (.ref c_NoPlace) = some false
  u_NoNumber_NoText : PySem.W.subIn K (.ref c_NoNumber) (.ref c_NoText) = some false
  u_NoPlace_MobileError : PySem.W.subIn K (.ref c_NoPlace) (.ref c_MobileError) = some true
  u_NoPlace_NoNumber : PySem.W.subIn K (.ref c_NoPlace) (.ref c_NoNumber) = some false
  u_NoPlace_NoPlace : PySem.W.subIn K (.ref c_NoPlace) (.ref c_NoPlace) = some true
  u_NoPlace_NoText : PySem.W.subIn K (.ref c_NoPlace) (.ref c_NoText) = some false
  u_NoText_MobileError : PySem.W.subIn K (.ref c_NoText) (.ref c_MobileError) = some true
  u_NoText_NoNumber : PySem.W.subIn K (.ref c_NoText) (.ref c_NoNumber) = some false
  u_NoText_NoPlace : PySem.W.subIn K (.ref c_NoText) (.ref c_NoPlace) = some false
  u_NoText_NoText : PySem.W.subIn K (.ref c_NoText) (.ref c_NoText) = some true
  v_MobileError : PySem.W.subIn K (.ref c_MobileError) (.type "ValueError") = some true
  v_NoNumber : PySem.W.subIn K (.ref c_NoNumber) (.type "ValueError") = some true
  v_NoPlace : PySem.W.subIn K (.ref c_NoPlace) (.type "ValueError") = some true
  v_NoText : PySem.W.subIn K (.ref c_NoText) (.type "ValueError") = some true
  nt_Weight : PySem.W.subIn K (.ref c_Weight) (.type "tuple") = some false
  nt_Rod : PySem.W.subIn K (.ref c_Rod) (.type "tuple") = some false
  z_isinstance : mg "isinstance" = none
  z_len : mg "len" = none
  z_abs : mg "abs" = none
  z_str : mg "str" = none
  z_int : mg "int" = none
  z_list : mg "list" = none
  z_sorted : mg "sorted" = none
  z_all : mg "all" = none
  z_zip : mg "zip" = none
  z_reversed : mg "reversed" = none
  z_tuple : mg "tuple" = none
  z_bool : mg "bool" = none
  z_ValueError : mg "ValueError" = none
local macro_rules | `(tactic| walk_at "hm_add") => `(tactic| first | exact rv_add | (exact rv_addS (by assumption)))
local macro_rules | `(tactic| walk_at "hm_eq") => `(tactic| first | exact rv_eqI | exact rv_eqS | exact rv_eqB | exact rv_eqR)
local macro_rules | `(tactic| walk_at "hm_ne") => `(tactic| first | exact rv_neI | exact rv_neS | exact rv_neB | exact rv_neR)
local macro_rules | `(tactic| walk_at "hm_ix") => `(tactic| first | exact rv_R0 | exact rv_R1 | exact rv_ixT 0 rfl rfl | exact rv_ixT 1 rfl rfl | exact rv_ixT 2 rfl rfl | exact rv_ixL 0 rfl rfl | exact rv_ixL 1 rfl rfl)
local macro_rules | `(tactic| walk_at "hm_isi") => `(tactic| first | exact rc_isiB ty_I (by decide +kernel) | exact rc_isiB ty_B (by decide +kernel) | exact rc_isiB ty_R (by decide +kernel) | exact rc_isiB ty_T (by decide +kernel) | exact rc_isiB ty_L (by decide +kernel) | exact rc_isiB ty_S (by decide +kernel))
local macro_rules | `(tactic| walk_at "hm_len") => `(tactic| first | exact rc_lenU rc_lenR | exact rc_lenU rc_lenT | exact rc_lenU rc_lenL | exact rc_lenU (rc_lenS (by assumption)))
/-! ### fractions -/
def SDiv : Sem' := fun ds r => ∃ a b : Nat, ds = [dI (a : Int), dI (b : Int)] ∧ r = .ok (dI ((Nat.gcd a b : Nat) : Int))
/-- one turn of the greatest divisor's loop -/
theorem gcd_turn {x y : Nat} : Nat.gcd y (x % y) = Nat.gcd x y := by rw [Nat.gcd_comm x y, Nat.gcd_rec y x, Nat.gcd_comm]
theorem rd_div {E : XS} {P : Post} {a b : Nat} {s : Option Sl} {t : TS} (h : ∀ s, Sx E t [some (.im (dI ((Nat.gcd a b : Nat) : Int))), some (.im (dI 0)), s] P) :
    Sx E (tSeq (tWhile (tTest (tOp (rI0 fun i j => .bl (decide (j < i))) (tVar 1) (tC (.int 0)))) (tSeq (tAsg (tOp rModU (tVar 0) (tVar 1)) (gName 2)) (tSeq (tAsg (tVar 1) (gName 0)) (tAsg (tVar 2) (gName 1))))) t)
      [some (.im (dI (a : Int))), some (.im (dI (b : Int))), s] P := by
  refine sx_seq (sx_while (fun m δ => ∃ x y : Nat, ∃ s, m = y ∧ Nat.gcd x y = Nat.gcd a b ∧ δ = [some (.im (dI (x : Int))), some (.im (dI (y : Int))), s]) ⟨b, a, b, s, rfl, rfl, rfl⟩ ?_)
  rintro m δ ⟨x, y, s, rfl, hg, rfl⟩
  refine ⟨_, et_test (ev_op (ev_var 1) ev_c rv_gt), fun hb => ?_, fun hb => ?_⟩
  · have hp : 0 < m := by have := of_decide_eq_true hb; omega
    refine sx_seq (sx_asg (ev_op (ev_var 0) (ev_var 1) (rv_mod (by omega))) ?_)
    refine sx_seq (sx_asg (ev_var 1) ?_)
    refine sx_asg (ev_var 2) ?_
    have e : (x : Int) % (m : Int) = ((x % m : Nat) : Int) := (Int.natCast_emod x m).symm
    exact ⟨x % m, Nat.mod_lt _ hp, m, x % m, _, rfl, gcd_turn.trans hg, by rw [e]; rfl⟩
  · have hz : m = 0 := by have := of_decide_eq_false hb; omega
    subst hz
    have e : x = Nat.gcd a b := by rw [← hg, Nat.gcd_zero_right]
    rw [e]
    exact h s
theorem ok_divisor {P : Program} {w : World} {K : PySem.W.Frag} {mg : Str → Option Value} {base : Heap} (T : Top K mg) : FnOk P w K mg base CX0 1 T.f_divisor T.fd_divisor ["one", "other"] (spD SDiv) := by
  refine fn0 T.d_divisor.F sc_divisor (fun ds r h => by obtain ⟨a, b, rfl, rfl⟩ := h; rfl) fun cdv A outer s H E ds r hr h => ?_
  obtain ⟨a, b, rfl, rfl⟩ := h
  have hu := hu_of hr
  have hu64 := hr.units
  refine ⟨_, pss_cons (ps_while PassesOwn.never (pt_cmpR op_gt (pv 1) pe_int (nomark _)) (pss_cons (ps_set (i := 2) sc_divisor.nd rfl (Or.inl rfl) (pe_op op_mod (pv 0) (pv 1)))
      (pss_cons (ps_set (i := 0) sc_divisor.nd rfl (Or.inl rfl) (pv 1))
      (pss_one (ps_set (i := 1) sc_divisor.nd rfl (Or.inl rfl) (pv 2))))))
      (pss_one (ps_ret (pv 0))), ?_⟩
  exact rd_div fun s => sx_ret (ev_var 0) rfl
def SFrac (K : PySem.W.Frag) (c : Addr) : Sem' := fun ds r => ∃ t b : Int, ds = [dI t, dI b] ∧ ((b = 0 ∧ r = .ex c) ∨ (b ≠ 0 ∧ b.natAbs < 2 ^ 8900 ∧ r = .ok (dR K (Rat.divInt t b))))
theorem nat_abs_of {b : Int} (h : 0 < b) : ((b.natAbs : Nat) : Int) = b := by omega
theorem ev_frac {E : XS} {δ : DEnv} {K : PySem.W.Frag} {t b : Int} {ta : TA} (hb : 0 < b) (h : Ea E ta δ [dI (t / ((Nat.gcd t.natAbs b.natAbs : Nat) : Int)), dI (b / ((Nat.gcd t.natAbs b.natAbs : Nat) : Int))]) : Ev E (tTup ta) δ (.ok (dR K (Rat.divInt t b))) := by
  rw [frac_num hb, frac_den hb] at h
  exact ev_tupR h
theorem gcd_divW {i t b : Int} (hb : 0 < b) (h : b.natAbs < 2 ^ 8900) : CDivW i ((Nat.gcd t.natAbs b.natAbs : Nat) : Int) := by
  have h1 : Nat.gcd t.natAbs b.natAbs ≤ b.natAbs := Nat.gcd_le_right _ (by omega)
  have h2 := gcd_pos_of (t := t) hb
  exact divW (by omega) (n := 8900) (by rw [Int.natAbs_natCast]; exact Nat.lt_of_le_of_lt h1 h) (by decide)
theorem ok_fraction {P : Program} {w : World} {K : PySem.W.Frag} {mg : Str → Option Value} {base : Heap} (T : Top K mg) : FnOk P w K mg base (L2.CX P w) 2 T.f_fraction T.fd_fraction ["top", "bottom"] (spD (SFrac K T.c_NoNumber)) := by
  refine fnX T.d_fraction.F sc_fraction (fun ds r h => by obtain ⟨t, b, rfl, h⟩ := h; rfl) fun cdv A outer s H E ds r hr h => ?_
  obtain ⟨t, b, rfl, h⟩ := h
  have hu := hu_of hr
  have hu64 := hr.units
  refine ⟨_, pss_cons (ps_if (pt_cmpR (op_eqU hu64) (pv 1) pe_int (nomark _)) (pss_one (ps_raise rfl (takes_of rfl rfl rfl rfl) (pmk T.x_NoNumber rfl))) pss_nil)
      (pss_cons (ps_if (pt_cmpR op_lt (pv 1) pe_int (nomark _)) (pss_cons (ps_set (i := 0) sc_fraction.nd rfl (Or.inl rfl) (pe_un un_neg (pv 0)))
      (pss_one (ps_set (i := 1) sc_fraction.nd rfl (Or.inl rfl) (pe_un un_neg (pv 1))))) pss_nil)
      (pss_cons (ps_set (i := 2) sc_fraction.nd rfl (Or.inl rfl) (pe_cl T.d_divisor (ok_divisor T) (hr.mono (by decide)) pass0 (pa_cons (pe_callB call_abs rfl T.z_abs (by decide +kernel) (pa_cons (pv 0) pa_nil)) (pa_cons (pv 1) pa_nil))))
      (pss_one (ps_ret (pe_tup (pa_cons (pe_op op_fdivW (pv 0) (pv 2)) (pa_cons (pe_op op_fdivW (pv 1) (pv 2)) pa_nil))))))), ?_⟩
  rcases h with ⟨rfl, rfl⟩ | ⟨hb, hs, rfl⟩
  · refine sx_seq (sx_yes (et_test (ev_op (ev_var 1) ev_c (by walk_at "hm_eq"))) (sx_raiseE rfl))
  refine sx_seq (sx_no (et_is (et_test (ev_op (ev_var 1) ev_c (by walk_at "hm_eq"))) (decide_eq_false hb)) (sx_nil ?_))
  refine sx_seq (sx_if (et_test (ev_op (ev_var 1) ev_c rv_lt)) (fun h => ?_) (fun h => ?_))
  · have hn : b < 0 := of_decide_eq_true h
    refine sx_seq (sx_asg (ev_un (ev_var 0) ru_neg) ?_)
    refine sx_asg (ev_un (ev_var 1) ru_neg) ?_
    have hp : 0 < -b := by omega
    have ea : (-b).natAbs = b.natAbs := by omega
    refine sx_seq (sx_asg (ev_call (ea_cons (ev_cb (ea_cons (ev_var 0) ea_nil) rc_abs) (ea_cons (ev_var 1) ea_nil)) ⟨(-t).natAbs, (-b).natAbs, by rw [nat_abs_of hp], rfl⟩) ?_)
    rw [← frac_neg]
    exact sx_ret (ev_frac hp (ea_cons (ev_op (ev_var 0) (ev_var 2) (rv_div (gcd_divW hp (ea ▸ hs)))) (ea_cons (ev_op (ev_var 1) (ev_var 2) (rv_div (gcd_divW hp (ea ▸ hs)))) ea_nil))) rfl
  · have hp : 0 < b := by have := of_decide_eq_false h; omega
    refine sx_nil ?_
    refine sx_seq (sx_asg (ev_call (ea_cons (ev_cb (ea_cons (ev_var 0) ea_nil) rc_abs) (ea_cons (ev_var 1) ea_nil)) ⟨t.natAbs, b.natAbs, by rw [nat_abs_of hp], rfl⟩) ?_)
    exact sx_ret (ev_frac hp (ea_cons (ev_op (ev_var 0) (ev_var 2) (rv_div (gcd_divW hp hs))) (ea_cons (ev_op (ev_var 1) (ev_var 2) (rv_div (gcd_divW hp hs))) ea_nil))) rfl
theorem two_pow_le' {a n m : Nat} (h : a < 2 ^ n) (l : n ≤ m) : a < 2 ^ m := Nat.lt_of_lt_of_le h (Nat.pow_le_pow_right (by decide) l)
def SPlus (K : PySem.W.Frag) : Sem' := fun ds r => ∃ a b : Rat, Sz 4000 a ∧ Sz 4000 b ∧ ds = [dR K a, dR K b] ∧ r = .ok (dR K (a + b))
def SMinus (K : PySem.W.Frag) : Sem' := fun ds r => ∃ a b : Rat, Sz 4000 a ∧ Sz 4000 b ∧ ds = [dR K a, dR K b] ∧ r = .ok (dR K (a - b))
def STimes (K : PySem.W.Frag) : Sem' := fun ds r => ∃ a b : Rat, Sz 4000 a ∧ Sz 4000 b ∧ ds = [dR K a, dR K b] ∧ r = .ok (dR K (a * b))
def SOver (K : PySem.W.Frag) (c : Addr) : Sem' := fun ds r => ∃ a b : Rat, Sz 4000 a ∧ Sz 4000 b ∧ ds = [dR K a, dR K b] ∧ ((b = 0 ∧ r = .ex c) ∨ (b ≠ 0 ∧ r = .ok (dR K (a / b))))
/-- a fraction, wherever it stands -/
abbrev dQ (K : PySem.W.Frag) (r : Rat) : Dn := dT K [dI r.num, dI (r.den : Int)]
theorem ev_q {E : XS} {δ : DEnv} {K : PySem.W.Frag} {te : TE} {r : Rat} (h : Ev E te δ (.ok (dR K r))) : Ev E te δ (.ok (dQ K r)) := ev_imp h fun _ _ => dR_dT
def SUnder (K : PySem.W.Frag) : Sem' := fun ds r => ∃ a b : Rat, Sz 4000 a ∧ Sz 4000 b ∧ ds = [dQ K a, dQ K b] ∧ r = .ok (dB (decide (a < b)))
theorem ok_plus {P : Program} {w : World} {K : PySem.W.Frag} {mg : Str → Option Value} {base : Heap} (T : Top K mg) : FnOk P w K mg base (L2.CX P w) 3 T.f_plus T.fd_plus ["one", "other"] (spD (SPlus K)) := by
  refine fnX T.d_plus.F sc_plus (fun ds r h => by obtain ⟨a, b, ha, hb, rfl, rfl⟩ := h; rfl) fun cdv A outer s H E ds r hr h => ?_
  obtain ⟨a, b, ha, hb, rfl, rfl⟩ := h
  have hu := hu_of hr
  have hu64 := hr.units
  refine ⟨_, pss_one (ps_ret (pe_cl T.d_fraction (ok_fraction T) (hr.mono (by decide)) (passT rfl rfl rfl rfl) (pa_cons (pe_op op_addU (pe_op op_mulU (pe_sub hu (pv 0) pe_int (fun _ _ => rfl)) (pe_sub hu (pv 1) pe_int (fun _ _ => rfl))) (pe_op op_mulU (pe_sub hu (pv 1) pe_int (fun _ _ => rfl)) (pe_sub hu (pv 0) pe_int (fun _ _ => rfl)))) (pa_cons (pe_op op_mulU (pe_sub hu (pv 0) pe_int (fun _ _ => rfl)) (pe_sub hu (pv 1) pe_int (fun _ _ => rfl))) pa_nil)))), ?_⟩
  refine sx_ret (ev_call (ea_cons (ev_op (ev_op (ev_sub (ev_var 0) ev_c (by walk_at "hm_ix")) (ev_sub (ev_var 1) ev_c (by walk_at "hm_ix")) (rv_mul (ha.mW1 hb (by decide)))) (ev_op (ev_sub (ev_var 1) ev_c (by walk_at "hm_ix")) (ev_sub (ev_var 0) ev_c (by walk_at "hm_ix")) (rv_mul (hb.mW1 ha (by decide)))) (by walk_at "hm_add")) (ea_cons (ev_op (ev_sub (ev_var 0) ev_c (by walk_at "hm_ix")) (ev_sub (ev_var 1) ev_c (by walk_at "hm_ix")) (rv_mul (ha.mW3 hb (by decide)))) ea_nil)) ⟨_, _, rfl, .inr ⟨Int.mul_ne_zero (den_ne a) (den_ne b), two_pow_le' (ha.muldd hb) (by decide), ?_⟩⟩) rfl
  rw [add_div]
theorem ok_minus {P : Program} {w : World} {K : PySem.W.Frag} {mg : Str → Option Value} {base : Heap} (T : Top K mg) : FnOk P w K mg base (L2.CX P w) 3 T.f_minus T.fd_minus ["one", "other"] (spD (SMinus K)) := by
  refine fnX T.d_minus.F sc_minus (fun ds r h => by obtain ⟨a, b, ha, hb, rfl, rfl⟩ := h; rfl) fun cdv A outer s H E ds r hr h => ?_
  obtain ⟨a, b, ha, hb, rfl, rfl⟩ := h
  have hu := hu_of hr
  have hu64 := hr.units
  refine ⟨_, pss_one (ps_ret (pe_cl T.d_fraction (ok_fraction T) (hr.mono (by decide)) (passT rfl rfl rfl rfl) (pa_cons (pe_op op_sub (pe_op op_mulU (pe_sub hu (pv 0) pe_int (fun _ _ => rfl)) (pe_sub hu (pv 1) pe_int (fun _ _ => rfl))) (pe_op op_mulU (pe_sub hu (pv 1) pe_int (fun _ _ => rfl)) (pe_sub hu (pv 0) pe_int (fun _ _ => rfl)))) (pa_cons (pe_op op_mulU (pe_sub hu (pv 0) pe_int (fun _ _ => rfl)) (pe_sub hu (pv 1) pe_int (fun _ _ => rfl))) pa_nil)))), ?_⟩
  refine sx_ret (ev_call (ea_cons (ev_op (ev_op (ev_sub (ev_var 0) ev_c (by walk_at "hm_ix")) (ev_sub (ev_var 1) ev_c (by walk_at "hm_ix")) (rv_mul (ha.mW1 hb (by decide)))) (ev_op (ev_sub (ev_var 1) ev_c (by walk_at "hm_ix")) (ev_sub (ev_var 0) ev_c (by walk_at "hm_ix")) (rv_mul (hb.mW1 ha (by decide)))) rv_sub) (ea_cons (ev_op (ev_sub (ev_var 0) ev_c (by walk_at "hm_ix")) (ev_sub (ev_var 1) ev_c (by walk_at "hm_ix")) (rv_mul (ha.mW3 hb (by decide)))) ea_nil)) ⟨_, _, rfl, .inr ⟨Int.mul_ne_zero (den_ne a) (den_ne b), two_pow_le' (ha.muldd hb) (by decide), ?_⟩⟩) rfl
  rw [sub_div]
theorem ok_times {P : Program} {w : World} {K : PySem.W.Frag} {mg : Str → Option Value} {base : Heap} (T : Top K mg) : FnOk P w K mg base (L2.CX P w) 3 T.f_times T.fd_times ["one", "other"] (spD (STimes K)) := by
  refine fnX T.d_times.F sc_times (fun ds r h => by obtain ⟨a, b, ha, hb, rfl, rfl⟩ := h; rfl) fun cdv A outer s H E ds r hr h => ?_
  obtain ⟨a, b, ha, hb, rfl, rfl⟩ := h
  have hu := hu_of hr
  have hu64 := hr.units
  refine ⟨_, pss_one (ps_ret (pe_cl T.d_fraction (ok_fraction T) (hr.mono (by decide)) (passT rfl rfl rfl rfl) (pa_cons (pe_op op_mulU (pe_sub hu (pv 0) pe_int (fun _ _ => rfl)) (pe_sub hu (pv 1) pe_int (fun _ _ => rfl))) (pa_cons (pe_op op_mulU (pe_sub hu (pv 0) pe_int (fun _ _ => rfl)) (pe_sub hu (pv 1) pe_int (fun _ _ => rfl))) pa_nil)))), ?_⟩
  refine sx_ret (ev_call (ea_cons (ev_op (ev_sub (ev_var 0) ev_c (by walk_at "hm_ix")) (ev_sub (ev_var 1) ev_c (by walk_at "hm_ix")) (rv_mul (ha.mW0 hb (by decide)))) (ea_cons (ev_op (ev_sub (ev_var 0) ev_c (by walk_at "hm_ix")) (ev_sub (ev_var 1) ev_c (by walk_at "hm_ix")) (rv_mul (ha.mW3 hb (by decide)))) ea_nil)) ⟨_, _, rfl, .inr ⟨Int.mul_ne_zero (den_ne a) (den_ne b), two_pow_le' (ha.muldd hb) (by decide), ?_⟩⟩) rfl
  rw [mul_div]
theorem ok_under {P : Program} {w : World} {K : PySem.W.Frag} {mg : Str → Option Value} {base : Heap} (T : Top K mg) : FnOk P w K mg base CX0 1 T.f_under T.fd_under ["one", "other"] (spD (SUnder K)) := by
  refine fn0 T.d_under.F sc_under (fun ds r h => by obtain ⟨a, b, ha, hb, rfl, rfl⟩ := h; rfl) fun cdv A outer s H E ds r hr h => ?_
  obtain ⟨a, b, ha, hb, rfl, rfl⟩ := h
  have hu := hu_of hr
  have hu64 := hr.units
  refine ⟨_, pss_one (ps_ret (pe_cmpR op_lt (pe_op op_mulU (pe_sub hu (pv 0) pe_int (fun _ _ => rfl)) (pe_sub hu (pv 1) pe_int (fun _ _ => rfl))) (pe_op op_mulU (pe_sub hu (pv 1) pe_int (fun _ _ => rfl)) (pe_sub hu (pv 0) pe_int (fun _ _ => rfl))) (nomark _))), ?_⟩
  refine sx_ret (ev_eq (ev_op (ev_op (ev_sub (ev_var 0) ev_c (by walk_at "hm_ix")) (ev_sub (ev_var 1) ev_c (by walk_at "hm_ix")) (rv_mul (ha.mW1 hb (by decide)))) (ev_op (ev_sub (ev_var 1) ev_c (by walk_at "hm_ix")) (ev_sub (ev_var 0) ev_c (by walk_at "hm_ix")) (rv_mul (hb.mW1 ha (by decide)))) rv_lt) ?_) rfl
  congr 1; congr 1; simp only [lt_div]
theorem ev_int {E : XS} {δ : DEnv} {K : PySem.W.Frag} {n : Int} {ta : TA} (h : Ea E ta δ [dI n, dI 1]) : Ev E (tTup ta) δ (.ok (dR K (n : Rat))) := by
  refine ev_tupR ?_
  rw [Rat.num_intCast, Rat.den_intCast]
  exact h
theorem sz_int {n : Int} {m : Nat} (h : n.natAbs < 2 ^ m) (hm : 0 < m) : Sz m (n : Rat) := ⟨by rw [Rat.num_intCast]; exact h, by rw [Rat.den_intCast]; exact Nat.one_lt_two_pow (by omega)⟩
theorem int_div (n : Int) : (n : Rat) = Rat.divInt n 1 := by
  have h := self_div (n : Rat)
  rw [Rat.num_intCast, Rat.den_intCast] at h
  exact h.symm

/-! ### weights and rods -/
abbrev dMb {K : PySem.W.Frag} {mg : Str → Option Value} (T : Top K mg) (m : Mb) : Dn := dM K T.c_Weight T.c_Rod m
theorem ev_nought {E : XS} {δ : DEnv} {K : PySem.W.Frag} {mg : Str → Option Value} (T : Top K mg) : Ev E (tC (.ref T.a_NOUGHT)) δ (.ok (dQ K 0)) := ev_imp ev_c fun G v h => by
  have h : v = .ref T.a_NOUGHT := h
  exact ⟨_, _, h, T.n_NOUGHT G, rfl, rfl, True.intro⟩
theorem sz0 : Sz 4000 0 := ⟨Nat.two_pow_pos _, Nat.one_lt_two_pow (by omega)⟩
def fW (K : PySem.W.Frag) (a : Rat) : List (Str × Dn) := [("amount", dR K a)]
def fR (K : PySem.W.Frag) (cW cR : Addr) (la : Rat) (l : Mb) (ra : Rat) (m : Mb) : List (Str × Dn) := [("left_arm", dR K la), ("left", dM K cW cR l), ("right_arm", dR K ra), ("right", dM K cW cR m), ("total", dR K (l.heft + m.heft))]
def SWt (K : PySem.W.Frag) (c : Addr) : SemI := fun ds r => ∃ a : Rat, Sz 4000 a ∧ ds = [dR K a] ∧ ((0 < a ∧ r = .inl (fW K a)) ∨ (¬ 0 < a ∧ r = .inr c))
def SRod (K : PySem.W.Frag) (cW cR c : Addr) : SemI := fun ds r => ∃ (la : Rat) (l : Mb) (ra : Rat) (m : Mb), Sz 4000 la ∧ Sz 4000 ra ∧ Sz 4000 l.heft ∧ Sz 4000 m.heft ∧ ds = [dR K la, dM K cW cR l, dR K ra, dM K cW cR m] ∧
  ((0 < la ∧ 0 < ra ∧ r = .inl (fR K cW cR la l ra m)) ∨ (¬ (0 < la ∧ 0 < ra) ∧ r = .inr c))
theorem ok_Weight___init__ {P : Program} {w : World} {K : PySem.W.Frag} {mg : Str → Option Value} {base : Heap} (T : Top K mg) : FnOk P w K mg base (L2.CX P w) 2 T.f_Weight___init__ T.fd_Weight___init__ ["self", "amount"] (spI T.c_Weight (SWt K T.c_NoNumber)) := by
  refine fnI T.d_Weight___init__.F sc_Weight___init__ (fun ds r h => by obtain ⟨x, hx, rfl, h⟩ := h; rfl) fun cdv A outer s H E a ds r hr h => ?_
  obtain ⟨x, hx, rfl, h⟩ := h
  have hu := hu_of hr
  have hu64 := hr.units
  refine ⟨_, pss_cons (ps_if (pt_not (pt_val (pe_cl T.d_under (ok_under T) (hr.mono (by decide)) pass0 (pa_cons (pe_glob (v := .ref T.a_NOUGHT) rfl T.g_NOUGHT rfl) (pa_cons (pv 1) pa_nil))))) (pss_one (ps_raise rfl (takes_of rfl rfl rfl rfl) (pmk T.x_NoNumber rfl))) pss_nil)
      (pss_one (ps_fld (pv 0) (pv 1) rfl)), ?_⟩
  rcases h with ⟨h0, rfl⟩ | ⟨h0, rfl⟩
  · refine sx_seq (sx_no (et_is (et_not (et_B (ev_call (ea_cons (ev_nought T) (ea_cons (ev_q (ev_var 1)) ea_nil)) ⟨0, x, sz0, hx, rfl, rfl⟩))) (by rw [decide_eq_true h0]; rfl)) (sx_nil ?_))
    exact sx_fld 0 rfl (ev_var 1) T.o_Weight.c T.na_Weight_amount rfl (show 0 < 1000 by decide) rfl
  · exact sx_seq (sx_yes (et_is (et_not (et_B (ev_call (ea_cons (ev_nought T) (ea_cons (ev_q (ev_var 1)) ea_nil)) ⟨0, x, sz0, hx, rfl, rfl⟩))) (by rw [decide_eq_false h0]; rfl)) (sx_raiseE rfl))
def SHeftW (K : PySem.W.Frag) (cW cR : Addr) : Sem' := fun ds r => ∃ a : Rat, ds = [dM K cW cR (.w a)] ∧ r = .ok (dR K a)
def SHeftR (K : PySem.W.Frag) (cW cR : Addr) : Sem' := fun ds r => ∃ la l ra m, ds = [dM K cW cR (.r la l ra m)] ∧ r = .ok (dR K (l.heft + m.heft))
theorem ok_Weight_heft {P : Program} {w : World} {K : PySem.W.Frag} {mg : Str → Option Value} {base : Heap} (T : Top K mg) : FnOk P w K mg base CX0 1 T.f_Weight_heft T.fd_Weight_heft ["self"] (spD (SHeftW K T.c_Weight T.c_Rod)) := by
  refine fn0 T.d_Weight_heft.F sc_Weight_heft (fun ds r h => by obtain ⟨a, rfl, rfl⟩ := h; rfl) fun cdv A outer s H E ds r hr h => ?_
  obtain ⟨a, rfl, rfl⟩ := h
  have hu := hu_of hr
  have hu64 := hr.units
  refine ⟨_, pss_one (ps_ret (pe_fld (pv 0) rfl)), ?_⟩
  exact sx_ret (ev_fld (C := T.c_Weight) (fds := fW K a) (ev_var 0) rfl T.o_Weight.c T.na_Weight_amount) rfl
theorem ok_Rod_heft {P : Program} {w : World} {K : PySem.W.Frag} {mg : Str → Option Value} {base : Heap} (T : Top K mg) : FnOk P w K mg base CX0 1 T.f_Rod_heft T.fd_Rod_heft ["self"] (spD (SHeftR K T.c_Weight T.c_Rod)) := by
  refine fn0 T.d_Rod_heft.F sc_Rod_heft (fun ds r h => by obtain ⟨la, l, ra, m, rfl, rfl⟩ := h; rfl) fun cdv A outer s H E ds r hr h => ?_
  obtain ⟨la, l, ra, m, rfl, rfl⟩ := h
  have hu := hu_of hr
  have hu64 := hr.units
  refine ⟨_, pss_one (ps_ret (pe_fld (pv 0) rfl)), ?_⟩
  exact sx_ret (ev_fld (C := T.c_Rod) (fds := fR K T.c_Weight T.c_Rod la l ra m) (ev_var 0) rfl T.o_Rod.c T.na_Rod_total) rfl
theorem ev_heft {E : XS} {δ : DEnv} {te : TE} {E1 E2 : XK} {K : PySem.W.Frag} {mg : Str → Option Value} (T : Top K mg) {m : Mb} (h : Ev E te δ (.ok (dMb T m))) :
    Ev E (tAlt (tMeth T.c_Weight "heft" (spD (SHeftW K T.c_Weight T.c_Rod)) [] E1 te tNil) (tMeth T.c_Rod "heft" (spD (SHeftR K T.c_Weight T.c_Rod)) [] E2 te tNil)) δ (.ok (dR K m.heft)) := by
  cases m with
  | w a => exact ev_alt1 (ev_meth h (isC (fds := fW K a) _ _ rfl) ea_nil ⟨a, rfl, rfl⟩)
  | r la l ra m => exact ev_alt2 (ev_meth h (isC (fds := fR K T.c_Weight T.c_Rod la l ra m) _ _ rfl) ea_nil ⟨la, l, ra, m, rfl, rfl⟩)
theorem ok_Rod___init__ {P : Program} {w : World} {K : PySem.W.Frag} {mg : Str → Option Value} {base : Heap} (T : Top K mg) : FnOk P w K mg base (L2.CX P w) 4 T.f_Rod___init__ T.fd_Rod___init__ ["self", "left_arm", "left", "right_arm", "right"] (spI T.c_Rod (SRod K T.c_Weight T.c_Rod T.c_NoNumber)) := by
  refine fnI T.d_Rod___init__.F sc_Rod___init__ (fun ds r h => by obtain ⟨la, l, ra, m, h1, h2, h3, h4, rfl, h⟩ := h; rfl) fun cdv A outer s H E a ds r hr h => ?_
  obtain ⟨la, l, ra, m, h1, h2, h3, h4, rfl, h⟩ := h
  have hu := hu_of hr
  have hu64 := hr.units
  refine ⟨_, pss_cons (ps_if (PW.pt (pw_or (pt_not (pt_val (pe_cl T.d_under (ok_under T) (hr.mono (by decide)) pass0 (pa_cons (pe_glob (v := .ref T.a_NOUGHT) rfl T.g_NOUGHT rfl) (pa_cons (pv 1) pa_nil))))) (pw_or1 (pt_not (pt_val (pe_cl T.d_under (ok_under T) (hr.mono (by decide)) pass0 (pa_cons (pe_glob (v := .ref T.a_NOUGHT) rfl T.g_NOUGHT rfl) (pa_cons (pv 3) pa_nil)))))))) (pss_one (ps_raise rfl (takes_of rfl rfl rfl rfl) (pmk T.x_NoNumber rfl))) pss_nil)
      (pss_cons (ps_fld (pv 0) (pv 1) rfl)
      (pss_cons (ps_fld (pv 0) (pv 2) rfl)
      (pss_cons (ps_fld (pv 0) (pv 3) rfl)
      (pss_cons (ps_fld (pv 0) (pv 4) rfl)
      (pss_one (ps_fld (pv 0) (pe_cl T.d_plus (ok_plus T) (hr.mono (by decide)) (passT rfl rfl rfl rfl) (pa_cons (pe_alt (pe_meth0 (pv 2) T.o_Weight.c T.k_Weight_heft (ok_Weight_heft T) (hr.mono (by decide)) T.d_Weight_heft.b .nil pass0) (pe_meth0 (pv 2) T.o_Rod.c T.k_Rod_heft (ok_Rod_heft T) (hr.mono (by decide)) T.d_Rod_heft.b .nil pass0)) (pa_cons (pe_alt (pe_meth0 (pv 4) T.o_Weight.c T.k_Weight_heft (ok_Weight_heft T) (hr.mono (by decide)) T.d_Weight_heft.b .nil pass0) (pe_meth0 (pv 4) T.o_Rod.c T.k_Rod_heft (ok_Rod_heft T) (hr.mono (by decide)) T.d_Rod_heft.b .nil pass0)) pa_nil))) rfl)))))), ?_⟩
  have u1 := ev_call (E := fun _ => E) (δ := entryI T.c_Rod a n_Rod___init__ [dR K la, dMb T l, dR K ra, dMb T m]) (E' := E0) (S := SUnder K) (ea_cons (ev_nought T) (ea_cons (ev_q (ev_var 1)) ea_nil)) ⟨0, la, sz0, h1, rfl, rfl⟩
  have u2 := ev_call (E := fun _ => E) (δ := entryI T.c_Rod a n_Rod___init__ [dR K la, dMb T l, dR K ra, dMb T m]) (E' := E0) (S := SUnder K) (ea_cons (ev_nought T) (ea_cons (ev_q (ev_var 3)) ea_nil)) ⟨0, ra, sz0, h2, rfl, rfl⟩
  rcases h with ⟨p1, p2, rfl⟩ | ⟨h0, rfl⟩
  · refine sx_seq (sx_no (et_is (et_or (et_not (et_B u1)) (fun h => (et_not (et_B u2)))) (by rw [decide_eq_true p1, decide_eq_true p2]; rfl)) (sx_nil ?_))
    refine sx_seq (sx_fld 0 rfl (ev_var 1) T.o_Rod.c T.na_Rod_left_arm rfl (show 0 < 1000 by decide) ?_)
    refine sx_seq (sx_fld 0 rfl (ev_var 2) T.o_Rod.c T.na_Rod_left rfl (show 1 < 1000 by decide) ?_)
    refine sx_seq (sx_fld 0 rfl (ev_var 3) T.o_Rod.c T.na_Rod_right_arm rfl (show 2 < 1000 by decide) ?_)
    refine sx_seq (sx_fld 0 rfl (ev_var 4) T.o_Rod.c T.na_Rod_right rfl (show 3 < 1000 by decide) ?_)
    exact sx_fld 0 rfl (ev_call (ea_cons (ev_heft T (ev_var 2)) (ea_cons (ev_heft T (ev_var 4)) ea_nil)) ⟨_, _, h3, h4, rfl, rfl⟩) T.o_Rod.c T.na_Rod_total rfl (show 4 < 1000 by decide) rfl
  · refine sx_seq (sx_yes (et_is (et_or (et_not (et_B u1)) (fun h => (et_not (et_B u2)))) ?_) (sx_raiseE rfl))
    by_cases p1 : 0 < la
    · rw [decide_eq_true p1, decide_eq_false fun p2 => h0 ⟨p1, p2⟩]; rfl
    · rw [decide_eq_false p1]; rfl
theorem ev_mkW {E : XS} {δ : DEnv} {ta : TA} {E1 : XK} {K : PySem.W.Frag} {mg : Str → Option Value} (T : Top K mg) {a : Rat} (h : Ea E ta δ [dR K a]) (hs : Sz 4000 a) (h0 : 0 < a) : Ev E (tMake T.c_Weight (spI T.c_Weight (SWt K T.c_NoNumber)) [] E1 ta) δ (.ok (dMb T (.w a))) :=
  ev_make h ⟨a, hs, rfl, .inl ⟨h0, rfl⟩⟩
theorem ev_mkR {E : XS} {δ : DEnv} {ta : TA} {E1 : XK} {K : PySem.W.Frag} {mg : Str → Option Value} (T : Top K mg) {la ra : Rat} {l m : Mb} (h : Ea E ta δ [dR K la, dMb T l, dR K ra, dMb T m]) (h1 : Sz 4000 la) (h2 : Sz 4000 ra) (h3 : Sz 4000 l.heft) (h4 : Sz 4000 m.heft) (p1 : 0 < la) (p2 : 0 < ra) :
    Ev E (tMake T.c_Rod (spI T.c_Rod (SRod K T.c_Weight T.c_Rod T.c_NoNumber)) [] E1 ta) δ (.ok (dMb T (.r la l ra m))) := ev_make h ⟨la, l, ra, m, h1, h2, h3, h4, rfl, .inl ⟨p1, p2, rfl⟩⟩
theorem em_mkW {E : XS} {δ : DEnv} {ta : TA} {E1 : XK} {K : PySem.W.Frag} {mg : Str → Option Value} (T : Top K mg) {a : Rat} (h : Ema E ta δ [dR K a]) (hs : Sz 4000 a) (h0 : 0 < a) : Em E (tMake T.c_Weight (spI T.c_Weight (SWt K T.c_NoNumber)) [] E1 ta) δ (dMb T (.w a)) :=
  em_make h ⟨a, hs, rfl, .inl ⟨h0, rfl⟩⟩
theorem em_mkR {E : XS} {δ : DEnv} {ta : TA} {E1 : XK} {K : PySem.W.Frag} {mg : Str → Option Value} (T : Top K mg) {la ra : Rat} {l m : Mb} (h : Ema E ta δ [dR K la, dMb T l, dR K ra, dMb T m]) (h1 : Sz 4000 la) (h2 : Sz 4000 ra) (h3 : Sz 4000 l.heft) (h4 : Sz 4000 m.heft) (p1 : 0 < la) (p2 : 0 < ra) :
    Em E (tMake T.c_Rod (spI T.c_Rod (SRod K T.c_Weight T.c_Rod T.c_NoNumber)) [] E1 ta) δ (dMb T (.r la l ra m)) := em_make h ⟨la, l, ra, m, h1, h2, h3, h4, rfl, .inl ⟨p1, p2, rfl⟩⟩
/-! ### what hangs at a place -/
def AtRes (K : PySem.W.Frag) (cW cR c : Addr) : Option Mb → Res → Prop
  | some s, r => r = .ok (dM K cW cR s)
  | none, r => r = .ex c
def SAtW (K : PySem.W.Frag) (cW cR c : Addr) : Sem' := fun ds r => ∃ (a : Rat) (p : List Nat), p.length ≤ 100000 ∧ ds = [dM K cW cR (.w a), dC p] ∧ AtRes K cW cR c ((Mb.w a).get p) r
def SAtR (K : PySem.W.Frag) (cW cR c : Addr) (n : Nat) : Sem' := fun ds r => ∃ (la : Rat) (l : Mb) (ra : Rat) (m : Mb) (p : List Nat), (Mb.r la l ra m).dep ≤ n ∧ p.length ≤ 100000 ∧ ds = [dM K cW cR (.r la l ra m), dC p] ∧ AtRes K cW cR c ((Mb.r la l ra m).get p) r
theorem ok_Hung_at {P : Program} {w : World} {K : PySem.W.Frag} {mg : Str → Option Value} {base : Heap} (T : Top K mg) : FnOk P w K mg base (L2.CX P w) 1 T.f_Hung_at T.fd_Hung_at ["self", "place"] (spD (SAtW K T.c_Weight T.c_Rod T.c_NoPlace)) := by
  refine fnX T.d_Hung_at.F sc_Hung_at (fun ds r h => by obtain ⟨a, p, hp, rfl, h⟩ := h; rfl) fun cdv A outer s H E ds r hr h => ?_
  obtain ⟨a, p, hp, rfl, h⟩ := h
  have hu := hu_of hr
  have hu64 := hr.units
  refine ⟨_, pss_cons (ps_if (pt_cmpR (op_neU hu64) (pv 1) pe_str (nomark _)) (pss_one (ps_raise rfl (takes_of rfl rfl rfl rfl) (pmk T.x_NoPlace rfl))) pss_nil)
      (pss_one (ps_ret (pv 0))), ?_⟩
  cases p with
  | nil =>
    have h : r = .ok (dMb T (.w a)) := h
    subst h
    refine sx_seq (sx_no (et_is (et_test (ev_op (ev_var 1) (ev_str [] rfl) (by walk_at "hm_ne"))) rfl) (sx_nil ?_))
    exact sx_ret (ev_var 0) rfl
  | cons c p =>
    have h : r = .ex T.c_NoPlace := h
    subst h
    exact sx_seq (sx_yes (et_is (et_test (ev_op (ev_var 1) (ev_str [] rfl) (by walk_at "hm_ne"))) (by simp)) (sx_raiseE rfl))
section
variable {E : XS} {δ : DEnv} {te : TE} {ta : TA} {E1 E2 : XK} {K : PySem.W.Frag} {mg : Str → Option Value} {n : Nat} {m s : Mb} {p : List Nat}
theorem ev_at (T : Top K mg) (h : Ev E te δ (.ok (dMb T m))) (ha : Ea E ta δ [dC p]) (hm : m.dep ≤ n) (hp : p.length ≤ 100000) (hg : m.get p = some s) :
    Ev E (tAlt (tMeth T.c_Weight "at" (spD (SAtW K T.c_Weight T.c_Rod T.c_NoPlace)) [] E1 te ta) (tMeth T.c_Rod "at" (spD (SAtR K T.c_Weight T.c_Rod T.c_NoPlace n)) [] E2 te ta)) δ (.ok (dMb T s)) := by
  cases m with
  | w a => exact ev_alt1 (ev_meth h (isC (fds := fW K a) _ _ rfl) ha ⟨a, p, hp, rfl, by rw [hg]; rfl⟩)
  | r la l ra m => exact ev_alt2 (ev_meth h (isC (fds := fR K T.c_Weight T.c_Rod la l ra m) _ _ rfl) ha ⟨la, l, ra, m, p, hm, hp, rfl, by rw [hg]; rfl⟩)
theorem ex_at (T : Top K mg) (h : Ev (fun _ => E1) te δ (.ok (dMb T m))) (ha : Ea (fun _ => E1) ta δ [dC p]) (hm : m.dep ≤ n) (hp : p.length ≤ 100000) (hg : m.get p = none) :
    Ev (fun _ => E1) (tAlt (tMeth T.c_Weight "at" (spD (SAtW K T.c_Weight T.c_Rod T.c_NoPlace)) [] E1 te ta) (tMeth T.c_Rod "at" (spD (SAtR K T.c_Weight T.c_Rod T.c_NoPlace n)) [] E1 te ta)) δ (.ex T.c_NoPlace) := by
  cases m with
  | w a => exact ev_alt1 (ex_meth h (isC (fds := fW K a) _ _ rfl) ha ⟨a, p, hp, rfl, by rw [hg]; rfl⟩)
  | r la l ra m => exact ev_alt2 (ex_meth h (isC (fds := fR K T.c_Weight T.c_Rod la l ra m) _ _ rfl) ha ⟨la, l, ra, m, p, hm, hp, rfl, by rw [hg]; rfl⟩)
theorem ex_atS (T : Top K mg) (h : Ev E te δ (.ok (dMb T m))) (ha : Ea E ta δ [dC p]) (hm : m.dep ≤ n) (hp : p.length ≤ 100000) (hg : m.get p = none) :
    Ev E (tAlt (tMethS T.c_Weight "at" (spD (SAtW K T.c_Weight T.c_Rod T.c_NoPlace)) E te ta) (tMethS T.c_Rod "at" (spD (SAtR K T.c_Weight T.c_Rod T.c_NoPlace n)) E te ta)) δ (.ex T.c_NoPlace) := by
  cases m with
  | w a => exact ev_alt1 (ex_methS h (isC (fds := fW K a) _ _ rfl) ha ⟨a, p, hp, rfl, by rw [hg]; rfl⟩)
  | r la l ra m => exact ev_alt2 (ex_methS h (isC (fds := fR K T.c_Weight T.c_Rod la l ra m) _ _ rfl) ha ⟨la, l, ra, m, p, hm, hp, rfl, by rw [hg]; rfl⟩)
end
theorem st_Rod_at {P : Program} {w : World} {K : PySem.W.Frag} {mg : Str → Option Value} {base : Heap} (T : Top K mg) (n : Nat) (ih : FnOk P w K mg base (L2.CX P w) (n + 2) T.f_Rod_at T.fd_Rod_at ["self", "place"] (spD ((SAtR K T.c_Weight T.c_Rod T.c_NoPlace) n))) : FnOk P w K mg base (L2.CX P w) ((n + 1) + 2) T.f_Rod_at T.fd_Rod_at ["self", "place"] (spD ((SAtR K T.c_Weight T.c_Rod T.c_NoPlace) (n + 1))) := by
  have e : n + 1 + 2 = (n + 2) + 1 := by omega
  rw [e]
  refine fnX T.d_Rod_at.F sc_Rod_at (fun ds r h => by obtain ⟨la, l, ra, m, p, hd, hp, rfl, h⟩ := h; rfl) fun cdv A outer s H E ds r hr h => ?_
  obtain ⟨la, l, ra, m, p, hd, hp, rfl, h⟩ := h
  have hu := hu_of hr
  have hu64 := hr.units
  refine ⟨_, pss_cons (ps_if (pt_cmpR (op_eqU hu64) (pv 1) pe_str (nomark _)) (pss_one (ps_ret (pv 0))) pss_nil)
      (pss_cons (ps_if (pt_cmpR (op_eqU hu64) (pe_sub hu (pv 1) pe_int (fun _ _ => rfl)) pe_str (nomark _)) (pss_one (ps_ret (pe_alt (pe_meth (pe_fld (pv 0) rfl) T.o_Weight.c T.k_Weight_at (ok_Hung_at T) (hr.mono (by omega)) T.d_Hung_at.b .nil (passT rfl rfl rfl rfl) (pa_cons (pe_slice sl_U (pv 1) (po_some pe_int) po_none) pa_nil)) (pe_meth (pe_fld (pv 0) rfl) T.o_Rod.c T.k_Rod_at ih (hr.mono (by omega)) T.d_Rod_at.b .nil (passT rfl rfl rfl rfl) (pa_cons (pe_slice sl_U (pv 1) (po_some pe_int) po_none) pa_nil))))) pss_nil)
      (pss_cons (ps_if (pt_cmpR (op_eqU hu64) (pe_sub hu (pv 1) pe_int (fun _ _ => rfl)) pe_str (nomark _)) (pss_one (ps_ret (pe_alt (pe_meth (pe_fld (pv 0) rfl) T.o_Weight.c T.k_Weight_at (ok_Hung_at T) (hr.mono (by omega)) T.d_Hung_at.b .nil (passT rfl rfl rfl rfl) (pa_cons (pe_slice sl_U (pv 1) (po_some pe_int) po_none) pa_nil)) (pe_meth (pe_fld (pv 0) rfl) T.o_Rod.c T.k_Rod_at ih (hr.mono (by omega)) T.d_Rod_at.b .nil (passT rfl rfl rfl rfl) (pa_cons (pe_slice sl_U (pv 1) (po_some pe_int) po_none) pa_nil))))) pss_nil)
      (pss_one (ps_raise rfl (takes_of rfl rfl rfl rfl) (pmk T.x_NoPlace rfl))))), ?_⟩
  have hl : l.dep ≤ n := by simp only [Mb.dep] at hd; omega
  have hm : m.dep ≤ n := by simp only [Mb.dep] at hd; omega
  have f0 : ∀ {f : Str} {d : Dn} {δ : DEnv}, NoAttr K T.c_Rod f → (fR K T.c_Weight T.c_Rod la l ra m).lookup f = some d → δ[0]? = some (some (.im (dMb T (.r la l ra m)))) → Ev (fun _ => E) (tFld K (tVar 0) f) δ (.ok d) := fun hn hf h => ev_fld (C := T.c_Rod) (fds := fR K T.c_Weight T.c_Rod la l ra m) (ev_var 0 h) hf T.o_Rod.c hn
  cases p with
  | nil =>
    have h : r = .ok (dMb T (.r la l ra m)) := h
    subst h
    exact sx_seq (sx_yes (et_is (et_test (ev_op (ev_var 1) (ev_str [] rfl) (by walk_at "hm_eq"))) rfl) (sx_ret (ev_var 0) rfl))
  | cons c p =>
    have hp' : p.length ≤ 100000 := by rw [List.length_cons] at hp; omega
    refine sx_seq (sx_no (et_is (et_test (ev_op (ev_var 1) (ev_str [] rfl) (by walk_at "hm_eq"))) (by simp)) (sx_nil ?_))
    have hc : Rv (rIx K) (dC (c :: p)) (dI 0) (dC [c]) := rv_ixS 0 rfl hp rfl
    have hsl : ∀ {δ : DEnv}, δ[1]? = some (some (.im (dC (c :: p)))) → Ev (fun _ => E) (tSl (rSlU K) (tVar 1) (tPart (tC (.int 1))) tNoPart) δ (.ok (dC p)) := fun h => by
      have := ev_slS (K := K) (ev_var (E := fun _ => E) 1 h) (oo_some (n := 1) ev_c) oo_none hp
      rwa [cut_tail] at this
    by_cases h1 : c = 108
    · subst h1
      refine sx_seq (sx_yes (et_is (et_test (ev_op (ev_sub (ev_var 1) ev_c hc) (ev_str [108] rfl) (by walk_at "hm_eq"))) rfl) ?_)
      rw [Mb.get_l] at h
      cases e : l.get p with
      | some s =>
        rw [e] at h
        have h : r = .ok (dMb T s) := h
        subst h
        exact sx_ret (ev_at T (f0 T.na_Rod_left rfl rfl) (ea_cons (hsl rfl) ea_nil) hl hp' e) rfl
      | none =>
        rw [e] at h
        have h : r = .ex T.c_NoPlace := h
        subst h
        exact sx_retX (ex_at T (f0 T.na_Rod_left rfl rfl) (ea_cons (hsl rfl) ea_nil) hl hp' e) rfl
    · refine sx_seq (sx_no (et_is (et_test (ev_op (ev_sub (ev_var 1) ev_c hc) (ev_str [108] rfl) (by walk_at "hm_eq"))) (by simpa using h1)) (sx_nil ?_))
      by_cases h2 : c = 114
      · subst h2
        refine sx_seq (sx_yes (et_is (et_test (ev_op (ev_sub (ev_var 1) ev_c hc) (ev_str [114] rfl) (by walk_at "hm_eq"))) rfl) ?_)
        rw [Mb.get_r] at h
        cases e : m.get p with
        | some s =>
          rw [e] at h
          have h : r = .ok (dMb T s) := h
          subst h
          exact sx_ret (ev_at T (f0 T.na_Rod_right rfl rfl) (ea_cons (hsl rfl) ea_nil) hm hp' e) rfl
        | none =>
          rw [e] at h
          have h : r = .ex T.c_NoPlace := h
          subst h
          exact sx_retX (ex_at T (f0 T.na_Rod_right rfl rfl) (ea_cons (hsl rfl) ea_nil) hm hp' e) rfl
      · refine sx_seq (sx_no (et_is (et_test (ev_op (ev_sub (ev_var 1) ev_c hc) (ev_str [114] rfl) (by walk_at "hm_eq"))) (by simpa using h2)) (sx_nil ?_))
        rw [Mb.get_x h1 h2] at h
        have h : r = .ex T.c_NoPlace := h
        subst h
        exact sx_raiseE rfl
theorem ok_Rod_at {P : Program} {w : World} {K : PySem.W.Frag} {mg : Str → Option Value} {base : Heap} (T : Top K mg) : ∀ n : Nat, FnOk P w K mg base (L2.CX P w) (n + 2) T.f_Rod_at T.fd_Rod_at ["self", "place"] (spD ((SAtR K T.c_Weight T.c_Rod T.c_NoPlace) n))
  | 0 => fn_vac fun ds r h => by obtain ⟨la, l, ra, m, p, hd, hp, rfl, h⟩ := h; first | omega | (simp only [Mb.dep] at *; omega)
  | n + 1 => st_Rod_at T n (ok_Rod_at T n)

/-! ### the law's helpers -/
/-! ### the law's helpers -/
def cellAt (ns : List Int) (k : Nat) : Int := ns.getD k 0
def SCell (K : PySem.W.Frag) : Sem' := fun ds r => ∃ (ns : List Int) (k : Nat), ns.length ≤ 63 ∧ ds = [dL K (ns.map fun i => dI i), dI (k : Int)] ∧ r = .ok (dI (cellAt ns k))
theorem ok__law_cell_at {P : Program} {w : World} {K : PySem.W.Frag} {mg : Str → Option Value} {base : Heap} (T : Top K mg) : FnOk P w K mg base CX0 1 T.f__law_cell_at T.fd__law_cell_at ["_law_script", "_law_k"] (spD (SCell K)) := by
  refine fn0 T.d__law_cell_at.F sc__law_cell_at (fun ds r h => by obtain ⟨ns, k, hl, rfl, rfl⟩ := h; rfl) fun cdv A outer s H E ds r hr h => ?_
  obtain ⟨ns, k, hl, rfl, rfl⟩ := h
  have hu := hu_of hr
  have hu64 := hr.units
  refine ⟨_, pss_cons (ps_if (pt_cmpR op_lt (pv 1) (pe_callB call_lenV rfl T.z_len PySem.boot_len (pa_cons (pv 0) pa_nil)) (nomark _)) (pss_one (ps_ret (pe_sub hu (pv 0) (pv 1) (fun _ _ => rfl)))) pss_nil)
      (pss_one (ps_ret pe_int)), ?_⟩
  refine sx_seq (sx_if (et_test (ev_op (ev_var 1) (ev_cb (ea_cons (ev_var 0) ea_nil) (by walk_at "hm_len")) rv_lt)) (fun h => ?_) (fun h => ?_))
  · have h := of_decide_eq_true h
    rw [List.length_map] at h
    have hk : k < ns.length := by omega
    refine sx_ret (ev_sub (ev_var 0) (ev_var 1) (rv_ixL k rfl ?_)) rfl
    rw [List.getElem?_map, List.getElem?_eq_getElem hk]
    show some (dI ns[k]) = some (dI (ns.getD k 0))
    rw [List.getD_eq_getElem?_getD, List.getElem?_eq_getElem hk]
    rfl
  · have h := of_decide_eq_false h
    rw [List.length_map] at h
    refine sx_nil ?_
    have e : cellAt ns k = 0 := by
      unfold cellAt
      rw [List.getD_eq_getElem?_getD, List.getElem?_eq_none (by omega)]
      rfl
    rw [e]
    exact sx_ret ev_c rfl
def SWhole : Sem' := fun ds r => ∃ i : Int, ds = [dI i] ∧ r = .ok (dB true)
theorem ok__law_whole {P : Program} {w : World} {K : PySem.W.Frag} {mg : Str → Option Value} {base : Heap} (T : Top K mg) : FnOk P w K mg base CX0 1 T.f__law_whole T.fd__law_whole ["_law_found"] (spD SWhole) := by
  refine fn0 T.d__law_whole.F sc__law_whole (fun ds r h => by obtain ⟨i, rfl, rfl⟩ := h; rfl) fun cdv A outer s H E ds r hr h => ?_
  obtain ⟨i, rfl, rfl⟩ := h
  have hu := hu_of hr
  have hu64 := hr.units
  refine ⟨_, pss_one (ps_ret (pe_and (pe_callB call_isiU rfl T.z_isinstance (by decide +kernel) (pa_cons (pv 0) (pa_cons (pe_bltn (v := .ty "int") (u := .type "int") rfl T.z_int (by decide +kernel) rfl) pa_nil))) (pe_one (pe_not (pe_callB call_isiU rfl T.z_isinstance (by decide +kernel) (pa_cons (pv 0) (pa_cons (pe_bltn (v := .ty "bool") (u := .type "bool") rfl T.z_bool (by decide +kernel) rfl) pa_nil))))))), ?_⟩
  exact sx_ret (ev_andV (a := true) (b := !false) (ev_cb (ea_cons (ev_var 0) (ea_cons ev_c ea_nil)) (by walk_at "hm_isi")) (fun h => (ev_notV (a := false) (ev_cb (ea_cons (ev_var 0) (ea_cons ev_c ea_nil)) (by walk_at "hm_isi"))))) rfl

def SSame (K : PySem.W.Frag) : Sem' := fun ds r => ∃ q q' : Rat, ds = [dR K q, dR K q'] ∧ r = .ok (dB (decide (q = q')))
theorem ok__law_same {P : Program} {w : World} {K : PySem.W.Frag} {mg : Str → Option Value} {base : Heap} (T : Top K mg) : FnOk P w K mg base CX0 2 T.f__law_same T.fd__law_same ["_law_found", "_law_due"] (spD (SSame K)) := by
  refine fn0 T.d__law_same.F sc__law_same (fun ds r h => by obtain ⟨q, q', rfl, rfl⟩ := h; rfl) fun cdv A outer s H E ds r hr h => ?_
  obtain ⟨q, q', rfl, rfl⟩ := h
  have hu := hu_of hr
  have hu64 := hr.units
  refine ⟨_, pss_cons (ps_if (PW.pt (pw_or (pt_not (pt_val (pe_callB call_isiU rfl T.z_isinstance (by decide +kernel) (pa_cons (pv 0) (pa_cons (pe_bltn (v := .ty "tuple") (u := .type "tuple") rfl T.z_tuple (by decide +kernel) rfl) pa_nil))))) (pw_or1 (pt_cmpR (op_neU hu64) (pe_callB call_lenV rfl T.z_len PySem.boot_len (pa_cons (pv 0) pa_nil)) pe_int (nomark _))))) (pss_one (ps_ret pe_bl)) pss_nil)
      (pss_one (ps_ret (pe_and (pe_cl T.d__law_whole (ok__law_whole T) (hr.mono (by decide)) pass0 (pa_cons (pe_sub hu (pv 0) pe_int (fun _ _ => rfl)) pa_nil)) (pe_and (pe_cl T.d__law_whole (ok__law_whole T) (hr.mono (by decide)) pass0 (pa_cons (pe_sub hu (pv 0) pe_int (fun _ _ => rfl)) pa_nil)) (pe_one (pe_cmpR (op_eqU hu64) (pv 0) (pv 1) (nomark _))))))), ?_⟩
  refine sx_seq (sx_no (et_or (a := false) (b := false) (et_not (b := true) (et_B (ev_cb (ea_cons (ev_var 0) (ea_cons ev_c ea_nil)) (by walk_at "hm_isi")))) (fun h => (et_test (ev_op (ev_cb (ea_cons (ev_var 0) ea_nil) (by walk_at "hm_len")) ev_c (by walk_at "hm_ne"))))) (sx_nil ?_))
  exact sx_ret (ev_eq (ev_andV (a := true) (ev_call (ea_cons (ev_sub (ev_var 0) ev_c (by walk_at "hm_ix")) ea_nil) ⟨_, rfl, rfl⟩) (fun h => (ev_andV (a := true) (ev_call (ea_cons (ev_sub (ev_var 0) ev_c (by walk_at "hm_ix")) ea_nil) ⟨_, rfl, rfl⟩) (fun h => (ev_op (ev_var 0) (ev_var 1) (by walk_at "hm_eq")))))) (by simp)) rfl
def SLow (K : PySem.W.Frag) : Sem' := fun ds r => ∃ t b : Int, ds = [dI t, dI b] ∧ 0 < b ∧ b.natAbs < 2 ^ 8900 ∧ r = .ok (dR K (Rat.divInt t b))
theorem ok__law_lowest {P : Program} {w : World} {K : PySem.W.Frag} {mg : Str → Option Value} {base : Heap} (T : Top K mg) : FnOk P w K mg base CX0 1 T.f__law_lowest T.fd__law_lowest ["_law_top", "_law_bottom"] (spD (SLow K)) := by
  refine fn0 T.d__law_lowest.F sc__law_lowest (fun ds r h => by obtain ⟨t, b, rfl, hb, hs, rfl⟩ := h; rfl) fun cdv A outer s H E ds r hr h => ?_
  obtain ⟨t, b, rfl, hb, hs, rfl⟩ := h
  have hu := hu_of hr
  have hu64 := hr.units
  refine ⟨_, pss_cons (ps_set (i := 2) sc__law_lowest.nd rfl (Or.inl rfl) (pe_callB call_abs rfl T.z_abs (by decide +kernel) (pa_cons (pv 0) pa_nil)))
      (pss_cons (ps_set (i := 3) sc__law_lowest.nd rfl (Or.inl rfl) (pv 1))
      (pss_cons (ps_while PassesOwn.never (pt_cmpR op_gt (pv 3) pe_int (nomark _)) (pss_cons (ps_set (i := 4) sc__law_lowest.nd rfl (Or.inl rfl) (pe_op op_mod (pv 2) (pv 3)))
      (pss_cons (ps_set (i := 2) sc__law_lowest.nd rfl (Or.inl rfl) (pv 3))
      (pss_one (ps_set (i := 3) sc__law_lowest.nd rfl (Or.inl rfl) (pv 4))))))
      (pss_one (ps_ret (pe_tup (pa_cons (pe_op op_fdivW (pv 0) (pv 2)) (pa_cons (pe_op op_fdivW (pv 1) (pv 2)) pa_nil))))))), ?_⟩
  refine sx_seq (sx_asg (ev_cb (ea_cons (ev_var 0) ea_nil) rc_abs) ?_)
  refine sx_seq (sx_asg (ev_var 1) ?_)
  refine sx_seq (sx_while (fun m δ => ∃ x y : Nat, ∃ s, m = y ∧ Nat.gcd x y = Nat.gcd t.natAbs b.natAbs ∧ δ = [some (.im (dI t)), some (.im (dI b)), some (.im (dI (x : Int))), some (.im (dI (y : Int))), s]) ⟨b.natAbs, t.natAbs, b.natAbs, none, rfl, rfl, by rw [nat_abs_of hb]; rfl⟩ ?_)
  rintro m δ ⟨x, y, s, rfl, hg, rfl⟩
  refine ⟨_, et_test (ev_op (ev_var 3) ev_c rv_gt), fun h => ?_, fun h => ?_⟩
  · have hp : 0 < m := by have := of_decide_eq_true h; omega
    refine sx_seq (sx_asg (ev_op (ev_var 2) (ev_var 3) (rv_mod (by omega))) ?_)
    refine sx_seq (sx_asg (ev_var 3) ?_)
    refine sx_asg (ev_var 4) ?_
    have e : (x : Int) % (m : Int) = ((x % m : Nat) : Int) := (Int.natCast_emod x m).symm
    exact ⟨x % m, Nat.mod_lt _ hp, m, x % m, _, rfl, gcd_turn.trans hg, by rw [e]; rfl⟩
  · have hz : m = 0 := by have := of_decide_eq_false h; omega
    subst hz
    have e : x = Nat.gcd t.natAbs b.natAbs := by rw [← hg, Nat.gcd_zero_right]
    subst e
    exact sx_ret (ev_frac hb (ea_cons (ev_op (ev_var 0) (ev_var 2) (rv_div (gcd_divW hb hs))) (ea_cons (ev_op (ev_var 1) (ev_var 2) (rv_div (gcd_divW hb hs))) ea_nil))) rfl
def SSum (K : PySem.W.Frag) : Sem' := fun ds r => ∃ a b : Rat, Sz 4000 a ∧ Sz 4000 b ∧ ds = [dR K a, dR K b] ∧ r = .ok (dR K (a + b))
def SLess (K : PySem.W.Frag) : Sem' := fun ds r => ∃ a b : Rat, Sz 4000 a ∧ Sz 4000 b ∧ ds = [dR K a, dR K b] ∧ r = .ok (dR K (a - b))
/-- a fraction, or a pair of whole numbers that may not be in lowest terms -/
inductive Fr where
  | of (b : Rat)
  | raw (t u : Int)
instance : Coe Rat Fr := ⟨Fr.of⟩
def Fr.Sz (n : Nat) : Fr → Prop
  | .of b => HM.Sz n b
  | .raw t u => t.natAbs < 2 ^ n ∧ 0 < u ∧ u.natAbs < 2 ^ n
def dFr (K : PySem.W.Frag) : Fr → Dn
  | .of b => dR K b
  | .raw t u => dT K [dI t, dI u]
def Fr.v : Fr → Rat
  | .of b => b
  | .raw t u => Rat.divInt t u
def SProd (K : PySem.W.Frag) : Sem' := fun ds r => ∃ (a : Rat) (b : Fr), Sz 4000 a ∧ b.Sz 4000 ∧ ds = [dR K a, dFr K b] ∧ r = .ok (dR K (a * b.v))
def SQuo (K : PySem.W.Frag) : Sem' := fun ds r => ∃ a b : Rat, Sz 4000 a ∧ Sz 4000 b ∧ 0 < b ∧ ds = [dR K a, dR K b] ∧ r = .ok (dR K (a / b))
theorem dd_pos (a b : Rat) : (0 : Int) < (a.den : Int) * (b.den : Int) := Int.mul_pos (den_pos' a) (den_pos' b)
theorem ok__law_sum {P : Program} {w : World} {K : PySem.W.Frag} {mg : Str → Option Value} {base : Heap} (T : Top K mg) : FnOk P w K mg base CX0 2 T.f__law_sum T.fd__law_sum ["_law_one", "_law_other"] (spD (SSum K)) := by
  refine fn0 T.d__law_sum.F sc__law_sum (fun ds r h => by obtain ⟨a, b, ha, hb, rfl, rfl⟩ := h; rfl) fun cdv A outer s H E ds r hr h => ?_
  obtain ⟨a, b, ha, hb, rfl, rfl⟩ := h
  have hu := hu_of hr
  have hu64 := hr.units
  refine ⟨_, pss_one (ps_ret (pe_cl T.d__law_lowest (ok__law_lowest T) (hr.mono (by decide)) pass0 (pa_cons (pe_op op_addU (pe_op op_mulU (pe_sub hu (pv 0) pe_int (fun _ _ => rfl)) (pe_sub hu (pv 1) pe_int (fun _ _ => rfl))) (pe_op op_mulU (pe_sub hu (pv 1) pe_int (fun _ _ => rfl)) (pe_sub hu (pv 0) pe_int (fun _ _ => rfl)))) (pa_cons (pe_op op_mulU (pe_sub hu (pv 0) pe_int (fun _ _ => rfl)) (pe_sub hu (pv 1) pe_int (fun _ _ => rfl))) pa_nil)))), ?_⟩
  refine sx_ret (ev_call (ea_cons (ev_op (ev_op (ev_sub (ev_var 0) ev_c (by walk_at "hm_ix")) (ev_sub (ev_var 1) ev_c (by walk_at "hm_ix")) (rv_mul (ha.mW1 hb (by decide)))) (ev_op (ev_sub (ev_var 1) ev_c (by walk_at "hm_ix")) (ev_sub (ev_var 0) ev_c (by walk_at "hm_ix")) (rv_mul (hb.mW1 ha (by decide)))) (by walk_at "hm_add")) (ea_cons (ev_op (ev_sub (ev_var 0) ev_c (by walk_at "hm_ix")) (ev_sub (ev_var 1) ev_c (by walk_at "hm_ix")) (rv_mul (ha.mW3 hb (by decide)))) ea_nil)) ⟨_, _, rfl, dd_pos a b, two_pow_le' (ha.muldd hb) (by decide), ?_⟩) rfl
  rw [add_div]
theorem Sz.neg {n : Nat} {r : Rat} (h : Sz n r) : Sz n (-r) := ⟨by rw [Rat.neg_num, Int.natAbs_neg]; exact h.1, by rw [Rat.neg_den]; exact h.2⟩
theorem ok__law_less {P : Program} {w : World} {K : PySem.W.Frag} {mg : Str → Option Value} {base : Heap} (T : Top K mg) : FnOk P w K mg base CX0 3 T.f__law_less T.fd__law_less ["_law_one", "_law_other"] (spD (SLess K)) := by
  refine fn0 T.d__law_less.F sc__law_less (fun ds r h => by obtain ⟨a, b, ha, hb, rfl, rfl⟩ := h; rfl) fun cdv A outer s H E ds r hr h => ?_
  obtain ⟨a, b, ha, hb, rfl, rfl⟩ := h
  have hu := hu_of hr
  have hu64 := hr.units
  refine ⟨_, pss_one (ps_ret (pe_cl T.d__law_sum (ok__law_sum T) (hr.mono (by decide)) pass0 (pa_cons (pv 0) (pa_cons (pe_tup (pa_cons (pe_un un_neg (pe_sub hu (pv 1) pe_int (fun _ _ => rfl))) (pa_cons (pe_sub hu (pv 1) pe_int (fun _ _ => rfl)) pa_nil))) pa_nil)))), ?_⟩
  have e : a - b = a + -b := by grind
  rw [e]
  exact sx_ret (ev_call (ea_cons (ev_var 0) (ea_cons (ev_negR (ev_var 1) (ev_var 1)) ea_nil)) ⟨a, -b, ha, hb.neg, rfl, rfl⟩) rfl
theorem ok__law_product {P : Program} {w : World} {K : PySem.W.Frag} {mg : Str → Option Value} {base : Heap} (T : Top K mg) : FnOk P w K mg base CX0 2 T.f__law_product T.fd__law_product ["_law_one", "_law_other"] (spD (SProd K)) := by
  refine fn0 T.d__law_product.F sc__law_product (fun ds r h => by obtain ⟨a, b, ha, hb, rfl, rfl⟩ := h; rfl) fun cdv A outer s H E ds r hr h => ?_
  obtain ⟨a, b, ha, hb, rfl, rfl⟩ := h
  have hu := hu_of hr
  have hu64 := hr.units
  refine ⟨_, pss_one (ps_ret (pe_cl T.d__law_lowest (ok__law_lowest T) (hr.mono (by decide)) pass0 (pa_cons (pe_op op_mulU (pe_sub hu (pv 0) pe_int (fun _ _ => rfl)) (pe_sub hu (pv 1) pe_int (fun _ _ => rfl))) (pa_cons (pe_op op_mulU (pe_sub hu (pv 0) pe_int (fun _ _ => rfl)) (pe_sub hu (pv 1) pe_int (fun _ _ => rfl))) pa_nil)))), ?_⟩
  cases b with
  | of b =>
    have hb : HM.Sz 4000 b := hb
    refine sx_ret (ev_call (ea_cons (ev_op (ev_sub (ev_var 0) ev_c (by walk_at "hm_ix")) (ev_sub (ev_var (d := dR K b) 1) ev_c (by walk_at "hm_ix")) (rv_mul (ha.mW0 hb (by decide)))) (ea_cons (ev_op (ev_sub (ev_var 0) ev_c (by walk_at "hm_ix")) (ev_sub (ev_var (d := dR K b) 1) ev_c (by walk_at "hm_ix")) (rv_mul (ha.mW3 hb (by decide)))) ea_nil)) ⟨_, _, rfl, dd_pos a b, two_pow_le' (ha.muldd hb) (by decide), ?_⟩) rfl
    rw [mul_div]; rfl
  | raw t u =>
    obtain ⟨ht, h0, hu'⟩ := hb
    refine sx_ret (ev_call (ea_cons (ev_op (ev_sub (ev_var 0) ev_c (by walk_at "hm_ix")) (ev_sub (ev_var (d := dT K [dI t, dI u]) 1) ev_c (rv_ixT 0 rfl rfl)) (rv_mul (mulW ha.1 ht (by decide)))) (ea_cons (ev_op (ev_sub (ev_var 0) ev_c (by walk_at "hm_ix")) (ev_sub (ev_var (d := dT K [dI t, dI u]) 1) ev_c (rv_ixT 1 rfl rfl)) (rv_mul (mulW ha.dn hu' (by decide)))) ea_nil)) ⟨_, _, rfl, Int.mul_pos (den_pos' a) h0, two_pow_le' (m := 8900) (by rw [Int.natAbs_mul]; exact pow_mul_lt ha.dn hu') (by decide), ?_⟩) rfl
    have e : Rat.divInt (a.num * t) ((a.den : Int) * u) = a * Rat.divInt t u := by
      conv => rhs; rw [← self_div a]
      rw [Rat.divInt_mul_divInt]
    rw [e]; rfl
theorem ok__law_quotient {P : Program} {w : World} {K : PySem.W.Frag} {mg : Str → Option Value} {base : Heap} (T : Top K mg) : FnOk P w K mg base CX0 2 T.f__law_quotient T.fd__law_quotient ["_law_one", "_law_other"] (spD (SQuo K)) := by
  refine fn0 T.d__law_quotient.F sc__law_quotient (fun ds r h => by obtain ⟨a, b, ha, hb, h0, rfl, rfl⟩ := h; rfl) fun cdv A outer s H E ds r hr h => ?_
  obtain ⟨a, b, ha, hb, h0, rfl, rfl⟩ := h
  have hu := hu_of hr
  have hu64 := hr.units
  refine ⟨_, pss_one (ps_ret (pe_cl T.d__law_lowest (ok__law_lowest T) (hr.mono (by decide)) pass0 (pa_cons (pe_op op_mulU (pe_sub hu (pv 0) pe_int (fun _ _ => rfl)) (pe_sub hu (pv 1) pe_int (fun _ _ => rfl))) (pa_cons (pe_op op_mulU (pe_sub hu (pv 0) pe_int (fun _ _ => rfl)) (pe_sub hu (pv 1) pe_int (fun _ _ => rfl))) pa_nil)))), ?_⟩
  have hn : 0 < b.num := HM.Rat.num_pos_of h0
  refine sx_ret (ev_call (ea_cons (ev_op (ev_sub (ev_var 0) ev_c (by walk_at "hm_ix")) (ev_sub (ev_var 1) ev_c (by walk_at "hm_ix")) (rv_mul (ha.mW1 hb (by decide)))) (ea_cons (ev_op (ev_sub (ev_var 0) ev_c (by walk_at "hm_ix")) (ev_sub (ev_var 1) ev_c (by walk_at "hm_ix")) (rv_mul (ha.mW2 hb (by decide)))) ea_nil)) ⟨_, _, rfl, Int.mul_pos (den_pos' a) hn, two_pow_le' (ha.muldn hb) (by decide), ?_⟩) rfl
  rw [quo_div]
def SMix : Sem' := fun ds r => ∃ c f : Int, (-(2 ^ 64) < f ∧ f < 2 ^ 64) ∧ ds = [dI c, dI f] ∧ r = .ok (dZ 0 2147483647)
theorem ok__law_mixed {P : Program} {w : World} {K : PySem.W.Frag} {mg : Str → Option Value} {base : Heap} (T : Top K mg) : FnOk P w K mg base CX0 1 T.f__law_mixed T.fd__law_mixed ["_law_cell", "_law_factor"] (spD SMix) := by
  refine fn0 T.d__law_mixed.F sc__law_mixed (fun ds r h => by obtain ⟨c, f, hf, rfl, rfl⟩ := h; rfl) fun cdv A outer s H E ds r hr h => ?_
  obtain ⟨c, f, hf, rfl, rfl⟩ := h
  have hu := hu_of hr
  have hu64 := hr.units
  refine ⟨_, pss_one (ps_ret (pe_op op_mod (pe_op op_mulU (pe_op op_addU (pv 0) (pe_op op_mod (pv 1) pe_int)) (pv 1)) pe_int)), ?_⟩
  refine sx_ret (ev_ex ((c + f % 97) * f % 2147483647) ⟨by omega, by omega⟩ (ev_op (ev_op (ev_op (ev_var 0) (ev_op (ev_var 1) ev_c (rv_mod (by decide))) (by walk_at "hm_add")) (ev_var 1) (rv_mulS (.inr hf))) ev_c (rv_mod (by decide)))) rfl
/-! ### amounts and arms -/
def big (k : Int) : Bool := decide (k = 0 ∨ k = 3)
theorem div_pos' {t b : Int} (ht : 0 < t) (hb : 0 < b) : 0 < Rat.divInt t b := HM.Rat.divInt_pos_of ht hb
/-- an amount: in sixtieths -/
def PAm (a : Rat) : Prop := 0 < a ∧ Q 60 210 a
theorem q60_div {t b : Int} {V : Nat} (ht : t.natAbs < 2 ^ V) (hb : 1 ≤ b ∧ b ≤ 6) : Q 60 V (Rat.divInt t b) := by
  rcases (by omega : b = 1 ∨ b = 2 ∨ b = 3 ∨ b = 4 ∨ b = 5 ∨ b = 6) with h | h | h | h | h | h <;> subst h
  · exact Q.div 60 (by decide) (by decide) ht (by decide)
  · exact Q.div 30 (by decide) (by decide) ht (by decide)
  · exact Q.div 20 (by decide) (by decide) ht (by decide)
  · exact Q.div 15 (by decide) (by decide) ht (by decide)
  · exact Q.div 12 (by decide) (by decide) ht (by decide)
  · exact Q.div 10 (by decide) (by decide) ht (by decide)
theorem pam_div {t b : Int} (ht : 0 < t) (ht' : t ≤ 10 ^ 60) (hb : 1 ≤ b ∧ b ≤ 6) : PAm (Rat.divInt t b) := ⟨div_pos' ht (by omega), q60_div (by
  have : (10 : Int) ^ 60 < 2 ^ 210 := by decide
  omega) hb⟩
def SAmt (K : PySem.W.Frag) : Sem' := fun ds r => ∃ c k : Int, ds = [dI c, dI k] ∧ r = .ok (dEx PAm (dR K))
theorem ok__law_amount {P : Program} {w : World} {K : PySem.W.Frag} {mg : Str → Option Value} {base : Heap} (T : Top K mg) : FnOk P w K mg base CX0 3 T.f__law_amount T.fd__law_amount ["_law_cell", "_law_kind"] (spD (SAmt K)) := by
  refine fn0 T.d__law_amount.F sc__law_amount (fun ds r h => by obtain ⟨c, k, rfl, rfl⟩ := h; rfl) fun cdv A outer s H E ds r hr h => ?_
  obtain ⟨c, k, rfl, rfl⟩ := h
  have hu := hu_of hr
  have hu64 := hr.units
  refine ⟨_, pss_cons (ps_set (i := 2) sc__law_amount.nd rfl (Or.inl rfl) (pe_cl T.d__law_mixed (ok__law_mixed T) (hr.mono (by decide)) pass0 (pa_cons (pv 0) (pa_cons pe_int pa_nil))))
      (pss_cons (ps_if (pt_cmpR (op_eqU hu64) (pv 1) pe_int (nomark _)) (pss_one (ps_ret (pe_tup (pa_cons (pe_op op_addU pe_int (pe_op op_mod (pv 2) pe_int)) (pa_cons pe_int pa_nil))))) pss_nil)
      (pss_one (ps_ret (pe_cl T.d__law_lowest (ok__law_lowest T) (hr.mono (by decide)) pass0 (pa_cons (pe_op op_addU pe_int (pe_op op_mod (pv 0) (pe_op op_pow pe_int pe_int))) (pa_cons (pe_op op_addU pe_int (pe_op op_mod (pv 2) pe_int)) pa_nil)))))), ?_⟩
  refine sx_seq (sx_asgE (ev_call (ea_cons (ev_var 0) (ea_cons ev_c ea_nil)) ⟨_, _, by decide, rfl, rfl⟩) fun i hi => ?_)
  refine sx_seq (sx_if (et_test (ev_op (ev_var 1) ev_c (by walk_at "hm_eq"))) (fun h => ?_) (fun h => ?_))
  · refine sx_ret (ev_ex ((1 + i % 3 : Int) : Rat) ?_ (ev_int (ea_cons (ev_op ev_c (ev_op (ev_var 2) ev_c (rv_mod (by decide))) (by walk_at "hm_add")) (ea_cons ev_c ea_nil)))) rfl
    rw [int_div]
    have : (3 : Int) ≤ 10 ^ 60 := by decide
    exact pam_div (by omega) (by omega) (by decide)
  · refine sx_nil ?_
    have hp : (0 : Int) < 10 ^ 60 := by decide
    refine sx_ret (ev_ex _ ?_ (ev_call (ea_cons (ev_op ev_c (ev_op (ev_var 0) (ev_op ev_c ev_c (rv_pow ⟨by decide, by decide, by decide⟩)) (rv_mod hp)) (by walk_at "hm_add")) (ea_cons (ev_op ev_c (ev_op (ev_var 2) ev_c (rv_mod (by decide))) (by walk_at "hm_add")) ea_nil)) ⟨_, _, rfl, by omega, ?_, rfl⟩)) rfl
    · have h1 := Int.emod_nonneg c (show (10 : Int) ^ 60 ≠ 0 by decide)
      have h2 := Int.emod_lt_of_pos c hp
      show PAm (Rat.divInt (1 + c % 10 ^ 60) (1 + i % 6))
      exact pam_div (by omega) (by omega) (by omega)
    · exact Nat.lt_of_lt_of_le (show (1 + i % 6).natAbs < 2 ^ 10 by omega) (Nat.pow_le_pow_right (by decide) (by decide))


/-- the common denominator behind n rods -/
def dn (n : Nat) : Nat := 60 * 840 ^ n
theorem dn_pos (n : Nat) : 0 < dn n := Nat.mul_pos (by decide) (Nat.pow_pos (by decide))
theorem dn_succ (n : Nat) : dn (n + 1) = dn n * 840 := by unfold dn; rw [Nat.pow_succ, Nat.mul_assoc]
theorem dn_lt {n N d : Nat} (h : n ≤ N) (hN : dn N < 2 ^ d) : dn n < 2 ^ d := Nat.lt_of_le_of_lt (Nat.mul_le_mul_left _ (Nat.pow_le_pow_right (by decide) h)) hN
/-- weights over D below 2 ^ V, arms over A, a rod below 2 ^ W long -/
structure Bd (D V A W : Nat) (m : Mb) : Prop where
  pos : m.Pos
  wt : ∀ q a, m.rowAt q = some (.one a) → Q D V a
  arm : ∀ q la ra, m.rowAt q = some (.two la ra) → Q A W la ∧ Q A W ra ∧ Q A W (la + ra)
theorem row_app {m s : Mb} {p q : List Nat} (h : m.get p = some s) : m.rowAt (p ++ q) = s.rowAt q := by
  unfold Mb.rowAt; rw [Mb.get_app, h]; rfl
theorem Bd.sub {D V A W : Nat} {m s : Mb} {p : List Nat} (h : Bd D V A W m) (e : m.get p = some s) : Bd D V A W s :=
  ⟨Mb.get_pos h.pos e, fun q a z => h.wt (p ++ q) a (by rw [row_app e]; exact z), fun q la ra z => h.arm (p ++ q) la ra (by rw [row_app e]; exact z)⟩
theorem Bd.up {D V A W V' c a : Nat} {m : Mb} (h : Bd D V A W m) (hV : V ≤ V') (hc : 0 < c) (ha : 0 < a) : Bd (D * c) V' (A * a) W m :=
  ⟨h.pos, fun q x z => ((h.wt q x z).mono hV).up hc, fun q x y z => ⟨(h.arm q x y z).1.up ha, (h.arm q x y z).2.1.up ha, (h.arm q x y z).2.2.up ha⟩⟩
theorem heftQ {D V : Nat} {m : Mb} (h : ∀ q a, m.rowAt q = some (.one a) → Q D V a) : Q D (V + m.dep) m.heft := by
  induction m with
  | w a => exact h [] a rfl
  | r la l ra n ihl ihn =>
    have h1 := ihl fun q a e => h (108 :: q) a (by unfold Mb.rowAt; rw [Mb.get_l]; exact e)
    have h2 := ihn fun q a e => h (114 :: q) a (by unfold Mb.rowAt; rw [Mb.get_r]; exact e)
    have e : (Mb.r la l ra n).dep = max l.dep n.dep + 1 := rfl
    rw [e]
    exact (h1.mono (show V + l.dep ≤ V + max l.dep n.dep by omega)).add (h2.mono (show V + n.dep ≤ V + max l.dep n.dep by omega))
theorem Bd.heft {D V A W : Nat} {m : Mb} (h : Bd D V A W m) (hd : m.dep ≤ 63) : Q D (V + 63) m.heft := (heftQ h.wt).mono (by omega)
theorem Bd.reW {D V A W : Nat} {m : Mb} {p : List Nat} {a b : Rat} (h : Bd D V A W m) (hg : m.get p = some (.w a)) (hb : 0 < b) (qb : Q D V b) : Bd D V A W (m.put p (.w b)) := by
  refine ⟨Mb.pos_put hg h.pos hb, fun q x z => ?_, fun q x y z => ?_⟩
  · rw [re_w hg] at z
    split at z
    · cases z; exact qb
    · exact h.wt q x z
  · rw [re_w hg] at z
    split at z
    · cases z
    · exact h.arm q x y z
theorem Bd.reR {D V A W : Nat} {m l n : Mb} {p : List Nat} {la ra la' ra' : Rat} (h : Bd D V A W m) (hg : m.get p = some (.r la l ra n)) (h1 : 0 < la') (h2 : 0 < ra') (q1 : Q A W la') (q2 : Q A W ra') (q3 : Q A W (la' + ra')) : Bd D V A W (m.put p (.r la' l ra' n)) := by
  obtain ⟨_, _, pl, pn⟩ := Mb.get_pos h.pos hg
  refine ⟨Mb.pos_put hg h.pos ⟨h1, h2, pl, pn⟩, fun q x z => ?_, fun q x y z => ?_⟩
  · rw [re_r hg] at z
    split at z
    · cases z
    · exact h.wt q x z
  · rw [re_r hg] at z
    split at z
    · cases z; exact ⟨q1, q2, q3⟩
    · exact h.arm q x y z
theorem Bd.two {D V A W : Nat} {l n : Mb} {la ra : Rat} (h : Bd D V A W l) (g : Bd D V A W n) (h1 : 0 < la) (h2 : 0 < ra) (q1 : Q A W la) (q2 : Q A W ra) (q3 : Q A W (la + ra)) : Bd D V A W (.r la l ra n) := by
  have key : ∀ q z, (Mb.r la l ra n).rowAt q = some z → z = .two la ra ∨ (∃ q', l.rowAt q' = some z) ∨ (∃ q', n.rowAt q' = some z) := fun q z e => by
    unfold Mb.rowAt at e
    cases q with
    | nil => rw [Mb.get_nil] at e; cases e; exact .inl rfl
    | cons c q =>
      by_cases e1 : c = 108
      · subst e1; rw [Mb.get_l] at e; exact .inr (.inl ⟨q, e⟩)
      · by_cases e2 : c = 114
        · subst e2; rw [Mb.get_r] at e; exact .inr (.inr ⟨q, e⟩)
        · rw [Mb.get_x e1 e2] at e; cases e
  refine ⟨⟨h1, h2, h.pos, g.pos⟩, fun q x z => ?_, fun q x y z => ?_⟩
  · rcases key q _ z with e | ⟨q', e⟩ | ⟨q', e⟩
    · cases e
    · exact h.wt q' x e
    · exact g.wt q' x e
  · rcases key q _ z with e | ⟨q', e⟩ | ⟨q', e⟩
    · cases e; exact ⟨q1, q2, q3⟩
    · exact h.arm q' x y e
    · exact g.arm q' x y e
/-! ### what has grown, is a mobile that is not too big -/
structure Gd (n : Nat) (m : Mb) : Prop where
  bd : Bd (dn n) 210 12 41 m
  cnt : m.cnt = n + 1
  dep : m.dep ≤ n
theorem Gd.pos {n : Nat} {m : Mb} (g : Gd n m) : m.Pos := g.bd.pos
theorem Gd.start {a : Rat} (h : PAm a) : Gd 0 (.w a) := by
  refine ⟨⟨h.1, fun q b e => ?_, fun q x y e => ?_⟩, rfl, Nat.le_refl _⟩
  · cases q with
    | nil => cases e; exact h.2
    | cons c q => cases e
  · cases q <;> cases e
theorem Gd.grow {n : Nat} {m : Mb} {p : List Nat} {a la x ra y : Rat} (g : Gd n m) (h : m.get p = some (.w a)) (h1 : 0 < la) (h2 : 0 < ra) (s1 : Q 12 40 la) (s2 : Q 12 40 ra) (hx : 0 < x) (hy : 0 < y) (qx : Q (dn (n + 1)) 210 x) (qy : Q (dn (n + 1)) 210 y) :
    Gd (n + 1) (m.put p (.r la (.w x) ra (.w y))) := by
  have hd := Mb.get_dep h
  have b1 := g.bd.up (V' := 210) (c := 840) (a := 1) (Nat.le_refl _) (by decide) (by decide)
  rw [← dn_succ, Nat.mul_one] at b1
  refine ⟨⟨Mb.pos_put h g.pos ⟨h1, h2, hx, hy⟩, fun q b e => ?_, fun q u v e => ?_⟩, ?_, ?_⟩
  · rw [Mb.rowAt_put h] at e
    split at e
    · cases e; exact qy
    · split at e
      · cases e; exact qx
      · split at e
        · cases e
        · exact b1.wt q b e
  · rw [Mb.rowAt_put h] at e
    split at e
    · cases e
    · split at e
      · cases e
      · split at e
        · cases e; exact ⟨s1.mono (by decide), s2.mono (by decide), s1.add s2⟩
        · exact b1.arm q u v e
  · have := Mb.cnt_put (x := .r la (.w x) ra (.w y)) h
    have c := g.cnt
    simp only [Mb.cnt] at this
    omega
  · have d1 := Mb.dep_put (x := .r la (.w x) ra (.w y)) h
    have d2 := g.dep
    have e1 : (Mb.r la (.w x) ra (.w y)).dep = 1 := rfl
    have e2 : (Mb.w a).dep = 0 := rfl
    rw [e1] at d1
    rw [e2] at hd
    omega
/-- a mobile that is good to be asked -/
structure Mok (S : Nat) (m : Mb) : Prop where
  pos : m.Pos
  arm : ∀ q la l ra s, m.get q = some (.r la l ra s) → Sz 1000 la ∧ Sz 1000 ra
  hft : ∀ q s, m.get q = some s → Sz S s.heft
  cnt : m.cnt ≤ 64
  dep : m.dep ≤ 63
theorem Bd.ok {D V A W d a S : Nat} {m : Mb} (h : Bd D V A W m) (hD : D < 2 ^ d) (hA : A < 2 ^ a) (hc : m.cnt ≤ 64) (hd : m.dep ≤ 63) (hS : d + V + 63 ≤ S) (hW : a + W ≤ 1000) : Mok S m :=
  ⟨h.pos, fun q la l ra s e => ⟨(h.arm q la ra (row_r.mpr ⟨l, s, e⟩)).1.szm hA hW, (h.arm q la ra (row_r.mpr ⟨l, s, e⟩)).2.1.szm hA hW⟩,
    fun q s e => ((h.sub e).heft (by have := Mb.get_dep e; omega)).szm hD (by omega), hc, hd⟩
theorem dn61 {n : Nat} (h : n ≤ 61) : dn n < 2 ^ 600 := dn_lt h (by decide +kernel)
theorem Gd.ok {n : Nat} {m : Mb} (g : Gd n m) (hn : n ≤ 61) : Mok 1000 m := g.bd.ok (d := 600) (a := 4) (dn61 hn) (by decide) (by have := g.cnt; omega) (by have := g.dep; omega) (by decide) (by decide)
theorem Mok.sub {S : Nat} {m s : Mb} {q : List Nat} (h : Mok S m) (e : m.get q = some s) : Mok S s :=
  ⟨Mb.get_pos h.pos e, fun q' la l ra t e' => h.arm (q ++ q') la l ra t (by rw [Mb.get_app, e]; exact e'), fun q' t e' => h.hft (q ++ q') t (by rw [Mb.get_app, e]; exact e'), Nat.le_trans (Mb.get_cnt e) h.cnt, by have := Mb.get_dep e; have := h.dep; omega⟩
/-- hung at both ends of one rod more -/
theorem Mok.twice {S : Nat} {m : Mb} {la ra : Rat} (h : Mok S m) (hc : m.cnt ≤ 32) (hd : m.dep ≤ 62) (h1 : 0 < la) (h2 : 0 < ra) (s1 : Sz 44 la) (s2 : Sz 44 ra) : Mok (S + 2) (.r la m ra m) := by
  refine ⟨⟨h1, h2, h.pos, h.pos⟩, fun q la' l ra' s e => ?_, fun q s e => ?_, by simp only [Mb.cnt]; omega, by simp only [Mb.dep]; omega⟩
  · cases q with
    | nil => cases e; exact ⟨s1.mono (by decide), s2.mono (by decide)⟩
    | cons c q =>
      by_cases e1 : c = 108
      · subst e1; rw [Mb.get_l] at e; exact h.arm q _ _ _ _ e
      · by_cases e2 : c = 114
        · subst e2; rw [Mb.get_r] at e; exact h.arm q _ _ _ _ e
        · rw [Mb.get_x e1 e2] at e; cases e
  · cases q with
    | nil =>
      cases e
      have q := h.hft [] m (Mb.get_nil m)
      have e2 : m.heft + m.heft = m.heft * 2 := by grind
      show Sz (S + 2) (m.heft + m.heft)
      rw [e2]
      exact q.mul (show Sz 2 (2 : Rat) from ⟨by decide, by decide⟩)
    | cons c q =>
      by_cases e1 : c = 108
      · subst e1; rw [Mb.get_l] at e; exact (h.hft q _ e).mono (by omega)
      · by_cases e2 : c = 114
        · subst e2; rw [Mb.get_r] at e; exact (h.hft q _ e).mono (by omega)
        · rw [Mb.get_x e1 e2] at e; cases e
theorem cnt_dep {m : Mb} : m.dep + 1 ≤ m.cnt := by
  induction m with
  | w a => exact Nat.le_refl _
  | r la l ra m ihl ihm =>
    have := l.cnt_pos
    have := m.cnt_pos
    simp only [Mb.dep, Mb.cnt]
    omega
theorem Mok.mono {S S' : Nat} {m : Mb} (h : Mok S m) (l : S ≤ S') : Mok S' m := ⟨h.pos, h.arm, fun q s e => (h.hft q s e).mono l, h.cnt, h.dep⟩

/-! ### whose instance a thing is -/
def isWt : Mb → Bool
  | .w _ => true
  | .r .. => false
section
variable {K : PySem.W.Frag} {mg : Str → Option Value}
theorem rc_isHung (T : Top K mg) {m : Mb} : Rc (rIsiU K) [dMb T m, dV (.ref T.c_Hung)] (dB true) := by
  cases m with
  | w a => exact rc_isi (ty_O (fds := fW K a) T.o_Weight) (.own _) (kit_o T.o_Weight T.o_Hung T.w_Weight_Hung)
  | r la l ra m => exact rc_isi (ty_O (fds := fR K T.c_Weight T.c_Rod la l ra m) T.o_Rod) (.own _) (kit_o T.o_Rod T.o_Hung T.w_Rod_Hung)
theorem rc_isWeight (T : Top K mg) {m : Mb} : Rc (rIsiU K) [dMb T m, dV (.ref T.c_Weight)] (dB (isWt m)) := by
  cases m with
  | w a => exact rc_isi (ty_O (fds := fW K a) T.o_Weight) (.own _) (kit_o T.o_Weight T.o_Weight T.w_Weight_Weight)
  | r la l ra m => exact rc_isi (ty_O (fds := fR K T.c_Weight T.c_Rod la l ra m) T.o_Rod) (.own _) (kit_o T.o_Rod T.o_Weight T.w_Rod_Weight)
theorem rc_isRod (T : Top K mg) {m : Mb} : Rc (rIsiU K) [dMb T m, dV (.ref T.c_Rod)] (dB (!isWt m)) := by
  cases m with
  | w a => exact rc_isi (ty_O (fds := fW K a) T.o_Weight) (.own _) (kit_o T.o_Weight T.o_Rod T.w_Weight_Rod)
  | r la l ra m => exact rc_isi (ty_O (fds := fR K T.c_Weight T.c_Rod la l ra m) T.o_Rod) (.own _) (kit_o T.o_Rod T.o_Rod T.w_Rod_Rod)
section
variable {E : XS} {δ : DEnv} {te : TE} {la ra a : Rat} {l m : Mb}
theorem ev_amount (T : Top K mg) (h : Ev E te δ (.ok (dMb T (.w a)))) : Ev E (tFld K te "amount") δ (.ok (dR K a)) := ev_fld (C := T.c_Weight) (fds := fW K a) h rfl T.o_Weight.c T.na_Weight_amount
theorem ev_larm (T : Top K mg) (h : Ev E te δ (.ok (dMb T (.r la l ra m)))) : Ev E (tFld K te "left_arm") δ (.ok (dR K la)) := ev_fld (C := T.c_Rod) (fds := fR K T.c_Weight T.c_Rod la l ra m) h rfl T.o_Rod.c T.na_Rod_left_arm
theorem ev_rarm (T : Top K mg) (h : Ev E te δ (.ok (dMb T (.r la l ra m)))) : Ev E (tFld K te "right_arm") δ (.ok (dR K ra)) := ev_fld (C := T.c_Rod) (fds := fR K T.c_Weight T.c_Rod la l ra m) h rfl T.o_Rod.c T.na_Rod_right_arm
theorem ev_left (T : Top K mg) (h : Ev E te δ (.ok (dMb T (.r la l ra m)))) : Ev E (tFld K te "left") δ (.ok (dMb T l)) := ev_fld (C := T.c_Rod) (fds := fR K T.c_Weight T.c_Rod la l ra m) h rfl T.o_Rod.c T.na_Rod_left
theorem ev_right (T : Top K mg) (h : Ev E te δ (.ok (dMb T (.r la l ra m)))) : Ev E (tFld K te "right") δ (.ok (dMb T m)) := ev_fld (C := T.c_Rod) (fds := fR K T.c_Weight T.c_Rod la l ra m) h rfl T.o_Rod.c T.na_Rod_right
end
end

/-! ### growth -/
def PAr (kd : Bool) (ab : Rat × Rat) : Prop := 0 < ab.1 ∧ 0 < ab.2 ∧ Sz 44 ab.1 ∧ Sz 44 ab.2 ∧ Q 12 40 ab.1 ∧ Q 12 40 ab.2 ∧ (kd = false → ∃ i j : Int, ab.1 * 840 = (ab.1 + ab.2) * (i : Rat) ∧ ab.2 * 840 = (ab.1 + ab.2) * (j : Rat))
theorem q12_div {t b : Int} (ht : t.natAbs < 2 ^ 40) (hb : 1 ≤ b ∧ b ≤ 4) : Q 12 40 (Rat.divInt t b) := by
  rcases (by omega : b = 1 ∨ b = 2 ∨ b = 3 ∨ b = 4) with h | h | h | h <;> subst h
  · exact Q.div 12 (by decide) (by decide) ht (by decide)
  · exact Q.div 6 (by decide) (by decide) ht (by decide)
  · exact Q.div 4 (by decide) (by decide) ht (by decide)
  · exact Q.div 3 (by decide) (by decide) ht (by decide)
theorem par_mk {kd : Bool} {t b u c : Int} (h1 : 0 < t) (h2 : 1 ≤ b ∧ b ≤ 4) (h3 : 0 < u) (h4 : 1 ≤ c ∧ c ≤ 4) (t4 : t.natAbs < 2 ^ 40) (u4 : u.natAbs < 2 ^ 40) (hk : kd = false → t ≤ 4 ∧ u ≤ 4 ∧ b = c) : PAr kd (Rat.divInt t b, Rat.divInt u c) := by
  have q1 := q12_div t4 h2
  have q2 := q12_div u4 h4
  refine ⟨div_pos' h1 (by omega), div_pos' h3 (by omega), q1.szm (d := 4) (by decide) (by decide), q2.szm (d := 4) (by decide) (by decide), q1, q2, fun z => ?_⟩
  obtain ⟨t4, u4, rfl⟩ := hk z
  have key : ∀ x : Int, ∃ i : Int, x * 840 = (t + u) * i := fun x => by
    rcases (by omega : t + u = 2 ∨ t + u = 3 ∨ t + u = 4 ∨ t + u = 5 ∨ t + u = 6 ∨ t + u = 7 ∨ t + u = 8) with e | e | e | e | e | e | e <;> rw [e]
    · exact ⟨x * 420, by omega⟩
    · exact ⟨x * 280, by omega⟩
    · exact ⟨x * 210, by omega⟩
    · exact ⟨x * 168, by omega⟩
    · exact ⟨x * 140, by omega⟩
    · exact ⟨x * 120, by omega⟩
    · exact ⟨x * 105, by omega⟩
  obtain ⟨i, hi⟩ := key t
  obtain ⟨j, hj⟩ := key u
  have hi' : (t : Rat) * 840 = ((t : Rat) + (u : Rat)) * (i : Rat) := by
    have : ((t * 840 : Int) : Rat) = (((t + u) * i : Int) : Rat) := by rw [hi]
    rw [Rat.intCast_mul, Rat.intCast_mul, Rat.intCast_add] at this
    exact this
  have hj' : (u : Rat) * 840 = ((t : Rat) + (u : Rat)) * (j : Rat) := by
    have : ((u * 840 : Int) : Rat) = (((t + u) * j : Int) : Rat) := by rw [hj]
    rw [Rat.intCast_mul, Rat.intCast_mul, Rat.intCast_add] at this
    exact this
  have hb : (b : Rat) ≠ 0 := by
    intro z
    have : (b : Rat) = ((0 : Int) : Rat) := z
    have := Rat.intCast_inj.mp this
    omega
  refine ⟨i, j, ?_, ?_⟩
  · show Rat.divInt t b * 840 = (Rat.divInt t b + Rat.divInt u b) * (i : Rat)
    rw [Rat.divInt_eq_div, Rat.divInt_eq_div]
    grind
  · show Rat.divInt u b * 840 = (Rat.divInt t b + Rat.divInt u b) * (j : Rat)
    rw [Rat.divInt_eq_div, Rat.divInt_eq_div]
    grind
def dPair (K : PySem.W.Frag) (ab : Rat × Rat) : Dn := dT K [dR K ab.1, dR K ab.2]
def SArm (K : PySem.W.Frag) : Sem' := fun ds r => ∃ c k : Int, ds = [dI c, dI k] ∧ r = .ok (dEx (PAr (big k)) (dPair K))
theorem sz_small {t b : Int} {n : Nat} (hb : b ≠ 0) (h1 : t.natAbs < 2 ^ n) (h2 : b.natAbs < 2 ^ n) : Sz n (Rat.divInt t b) := Sz.div hb h1 h2
theorem ev_mix {E : XS} {δ : DEnv} {E' : XK} {ta tb : TE} {c f : Int} (h1 : Ev E ta δ (.ok (dI c))) (h2 : Ev E tb δ (.ok (dI f))) (hf : -(2 ^ 64) < f ∧ f < 2 ^ 64) : Ev E (tCall (spD SMix) [] E' (tCons ta (tCons tb tNil))) δ (.ok (dZ 0 2147483647)) := ev_call (ea_cons h1 (ea_cons h2 ea_nil)) ⟨_, _, hf, rfl, rfl⟩
theorem ok__law_arms {P : Program} {w : World} {K : PySem.W.Frag} {mg : Str → Option Value} {base : Heap} (T : Top K mg) : FnOk P w K mg base CX0 3 T.f__law_arms T.fd__law_arms ["_law_cell", "_law_kind"] (spD (SArm K)) := by
  refine fn0 T.d__law_arms.F sc__law_arms (fun ds r h => by obtain ⟨c, k, rfl, rfl⟩ := h; rfl) fun cdv A outer s H E ds r hr h => ?_
  obtain ⟨c, k, rfl, rfl⟩ := h
  have hu := hu_of hr
  have hu64 := hr.units
  refine ⟨_, pss_cons (ps_set (i := 2) sc__law_arms.nd rfl (Or.inl rfl) (pe_cl T.d__law_mixed (ok__law_mixed T) (hr.mono (by decide)) pass0 (pa_cons (pv 0) (pa_cons pe_int pa_nil))))
      (pss_cons (ps_set (i := 3) sc__law_arms.nd rfl (Or.inl rfl) (pe_cl T.d__law_mixed (ok__law_mixed T) (hr.mono (by decide)) pass0 (pa_cons (pv 0) (pa_cons pe_int pa_nil))))
      (pss_cons (ps_if (pt_cmpR (op_eqU hu64) (pv 1) pe_int (nomark _)) (pss_one (ps_ret (pe_tup (pa_cons (pe_cl T.d__law_lowest (ok__law_lowest T) (hr.mono (by decide)) pass0 (pa_cons (pe_op op_addU pe_int (pv 2)) (pa_cons (pe_op op_addU pe_int (pe_op op_mod (pv 3) pe_int)) pa_nil))) (pa_cons (pe_cl T.d__law_lowest (ok__law_lowest T) (hr.mono (by decide)) pass0 (pa_cons (pe_op op_addU pe_int (pv 3)) (pa_cons (pe_op op_addU pe_int (pe_op op_mod (pv 2) pe_int)) pa_nil))) pa_nil))))) pss_nil)
      (pss_cons (ps_if (pt_cmpR (op_eqU hu64) (pv 1) pe_int (nomark _)) (pss_one (ps_ret (pe_tup (pa_cons (pe_tup (pa_cons (pe_op op_addU pe_int (pe_op op_mod (pv 2) pe_int)) (pa_cons pe_int pa_nil))) (pa_cons (pe_tup (pa_cons (pe_op op_addU pe_int (pe_op op_mod (pv 3) pe_int)) (pa_cons pe_int pa_nil))) pa_nil))))) pss_nil)
      (pss_cons (ps_set (i := 4) sc__law_arms.nd rfl (Or.inl rfl) (pe_op op_addU pe_int (pe_op op_mod (pe_op op_fdivW (pv 3) pe_int) pe_int)))
      (pss_one (ps_ret (pe_tup (pa_cons (pe_cl T.d__law_lowest (ok__law_lowest T) (hr.mono (by decide)) pass0 (pa_cons (pe_op op_addU pe_int (pe_op op_mod (pv 2) pe_int)) (pa_cons (pv 4) pa_nil))) (pa_cons (pe_cl T.d__law_lowest (ok__law_lowest T) (hr.mono (by decide)) pass0 (pa_cons (pe_op op_addU pe_int (pe_op op_mod (pv 3) pe_int)) (pa_cons (pv 4) pa_nil))) pa_nil))))))))), ?_⟩
  refine sx_seq (sx_asgE (ev_mix (ev_var 0) ev_c (by decide)) fun i hi => ?_)
  refine sx_seq (sx_asgE (ev_mix (ev_var 0) ev_c (by decide)) fun j hj => ?_)
  have b40 : (2 : Nat) ^ 40 = 1099511627776 := rfl
  have big' : ∀ b : Int, 0 < b → b < 10 → b.natAbs < 2 ^ 8900 := fun b h1 h2 => Nat.lt_of_lt_of_le (show b.natAbs < 2 ^ 4 by omega) (Nat.pow_le_pow_right (by decide) (by decide))
  refine sx_seq (sx_if (et_test (ev_op (ev_var 1) ev_c (by walk_at "hm_eq"))) (fun h => ?_) (fun h => ?_))
  · have h := of_decide_eq_true h
    refine sx_ret (ev_ex (Rat.divInt (1 + i) (1 + j % 3), Rat.divInt (1 + j) (1 + i % 4)) ?_ (ev_tup (ea_cons (ev_call (ea_cons (ev_op ev_c (ev_var 2) (by walk_at "hm_add")) (ea_cons (ev_op ev_c (ev_op (ev_var 3) ev_c (rv_mod (by decide))) (by walk_at "hm_add")) ea_nil)) ⟨_, _, rfl, by omega, big' _ (by omega) (by omega), rfl⟩) (ea_cons (ev_call (ea_cons (ev_op ev_c (ev_var 3) (by walk_at "hm_add")) (ea_cons (ev_op ev_c (ev_op (ev_var 2) ev_c (rv_mod (by decide))) (by walk_at "hm_add")) ea_nil)) ⟨_, _, rfl, by omega, big' _ (by omega) (by omega), rfl⟩) ea_nil)) (show 2 ≤ 1000 by decide))) rfl
    refine par_mk (by omega) (by omega) (by omega) (by omega) (by omega) (by omega) fun z => ?_
    rw [show big k = true from decide_eq_true (.inl h)] at z
    cases z
  refine sx_nil ?_
  have h0 := of_decide_eq_false h
  refine sx_seq (sx_if (et_test (ev_op (ev_var 1) ev_c (by walk_at "hm_eq"))) (fun h => ?_) (fun h => ?_))
  · have h := of_decide_eq_true h
    refine sx_ret (ev_ex (((1 + i % 3 : Int) : Rat), ((1 + j % 3 : Int) : Rat)) ?_ (ev_tup (ea_cons (ev_int (ea_cons (ev_op ev_c (ev_op (ev_var 2) ev_c (rv_mod (by decide))) (by walk_at "hm_add")) (ea_cons ev_c ea_nil))) (ea_cons (ev_int (ea_cons (ev_op ev_c (ev_op (ev_var 3) ev_c (rv_mod (by decide))) (by walk_at "hm_add")) (ea_cons ev_c ea_nil))) ea_nil)) (show 2 ≤ 1000 by decide))) rfl
    rw [int_div, int_div]
    exact par_mk (by omega) (by omega) (by omega) (by omega) (by omega) (by omega) fun z => ⟨by omega, by omega, rfl⟩
  refine sx_nil ?_
  refine sx_seq (sx_asg (ev_op ev_c (ev_op (ev_op (ev_var 3) ev_c (rv_div ⟨by decide, by decide +kernel⟩)) ev_c (rv_mod (by decide))) (by walk_at "hm_add")) ?_)
  refine sx_ret (ev_ex (Rat.divInt (1 + i % 4) (1 + j / 4 % 3), Rat.divInt (1 + j % 4) (1 + j / 4 % 3)) ?_ (ev_tup (ea_cons (ev_call (ea_cons (ev_op ev_c (ev_op (ev_var 2) ev_c (rv_mod (by decide))) (by walk_at "hm_add")) (ea_cons (ev_var 4) ea_nil)) ⟨_, _, rfl, by omega, big' _ (by omega) (by omega), rfl⟩) (ea_cons (ev_call (ea_cons (ev_op ev_c (ev_op (ev_var 3) ev_c (rv_mod (by decide))) (by walk_at "hm_add")) (ea_cons (ev_var 4) ea_nil)) ⟨_, _, rfl, by omega, big' _ (by omega) (by omega), rfl⟩) ea_nil)) (show 2 ≤ 1000 by decide))) rfl
  exact par_mk (by omega) (by omega) (by omega) (by omega) (by omega) (by omega) fun z => ⟨by omega, by omega, rfl⟩
/-- a weight hangs there -/
def WAt (m : Mb) (p : List Nat) : Prop := ∃ a, m.get p = some (.w a)
def isW (m : Mb) (p : List Nat) : Bool := match m.get p with
  | some (.w _) => true
  | _ => false
theorem isW_iff {m : Mb} {p : List Nat} : isW m p = true ↔ WAt m p := by
  unfold isW WAt
  split
  · rename_i a h; rw [h]; simp
  · rename_i h
    constructor
    · intro z; cases z
    · rintro ⟨a, e⟩; exact absurd e (h a)
abbrev wpl (m : Mb) : List (List Nat) := m.plc.filter (isW m)
theorem mem_wpl {m : Mb} {p : List Nat} : p ∈ wpl m ↔ WAt m p := by
  rw [List.mem_filter, isW_iff, Mb.mem_plc]
  constructor
  · exact fun h => h.2
  · rintro ⟨a, e⟩; exact ⟨by rw [e]; rfl, a, e⟩
abbrev dWp (m : Mb) : Dn := dEx (WAt m) dC
theorem et_isW {E : XS} {δ : DEnv} {K : PySem.W.Frag} {m : Mb} {p : List Nat} {ta tb : TE} (h1 : Ev E ta δ (.ok (dRw K m))) (h2 : Ev E tb δ (.ok (dC p))) (hp : (m.get p).isSome = true) :
    Et E (tTest (tOp (rEqU K) (tCB (rLenV K) (tCons (tSubU K ta tb) tNil)) (tC (.int 1)))) δ (isW m p) := by
  cases e : m.get p with
  | none => rw [e] at hp; cases hp
  | some s =>
    cases s with
    | w a =>
      refine et_is (et_test (ev_op (ev_cb (ea_cons (ev_getD h1 h2 (mφ_w e)) ea_nil) (rc_lenU rc_lenT)) ev_c rv_eqI)) ?_
      rw [isW_iff.mpr ⟨a, e⟩]; rfl
    | r la l ra n =>
      refine et_is (et_test (ev_op (ev_cb (ea_cons (ev_getD h1 h2 (mφ_r e)) ea_nil) (rc_lenU rc_lenT)) ev_c rv_eqI)) ?_
      have : isW m p = false := by unfold isW; rw [e]
      rw [this]; rfl
theorem plc_small {m : Mb} (h : m.cnt ≤ 1000) : m.plc.length ≤ 10000 := by have := m.plc_len; omega
def SSpot (K : PySem.W.Frag) : Sem' := fun ds r => ∃ (m : Mb) (c sh : Int) (nw : List Nat), m.cnt ≤ 1000 ∧ WAt m nw ∧ ds = [dRw K m, dI c, dI sh, dC nw] ∧ r = .ok (dWp m)
theorem ok__law_spot {P : Program} {w : World} {K : PySem.W.Frag} {mg : Str → Option Value} {base : Heap} (T : Top K mg) : FnOk P w K mg base CX0 2 T.f__law_spot T.fd__law_spot ["_law_rows", "_law_cell", "_law_shape", "_law_newest"] (spD (SSpot K)) := by
  refine fn0 T.d__law_spot.F sc__law_spot (fun ds r h => by obtain ⟨m, c, sh, nw, hc, hw, rfl, rfl⟩ := h; rfl) fun cdv A outer s H E ds r hr h => ?_
  obtain ⟨m, c, sh, nw, hc, hw, rfl, rfl⟩ := h
  have hu := hu_of hr
  have hu64 := hr.units
  refine ⟨_, pss_cons (ps_setLc (i := 4) (own := [("_law_place", 5)]) (g := gName 5) rfl sc__law_spot.nd rfl rfl (sw_true rfl rfl rfl (by decide +kernel)) (pi_list (pe_callB (call_sortedDO rfl) rfl T.z_sorted (by decide +kernel) (pa_cons (pv 0) pa_nil))) (blkOk_by (own := [("_law_place", 5)]) (N := n__law_spot) (sc := defScope s__law_spot) (by decide +kernel)) (fun _ _ _ _ _ => pg_name (i := 5) sc__law_spot.nd rfl (Or.inl rfl)) (fun _ _ _ _ _ => pts_one (pt_cmpR (r := rEqU K) (op_eqU hu64) (pe_callB (r := rLenV K) call_lenV rfl T.z_len PySem.boot_len (pa_cons (pe_subK K rfl hu (pv 0) (pv 5) (fun _ _ => rfl)) pa_nil)) pe_int (nomark _))) (fun _ _ _ _ _ => (pv 5)))
      (pss_cons (ps_if (pt_cmpR (op_eqU hu64) (pv 2) pe_int (nomark _)) (pss_one (ps_ret (pe_sub hu (pv 4) pe_int (fun _ _ => rfl)))) pss_nil)
      (pss_cons (ps_if (pt_cmpR (op_eqU hu64) (pv 2) pe_int (nomark _)) (pss_one (ps_ret (pe_sub hu (pv 4) (pe_un un_neg pe_int) (fun _ _ => rfl)))) pss_nil)
      (pss_cons (ps_if (pt_cmpR (op_eqU hu64) (pv 2) pe_int (nomark _)) (pss_one (ps_ret (pv 3))) pss_nil)
      (pss_one (ps_ret (pe_sub hu (pv 4) (pe_op op_mod (pe_op op_fdivW (pe_cl T.d__law_mixed (ok__law_mixed T) (hr.mono (by decide)) pass0 (pa_cons (pv 1) (pa_cons pe_int pa_nil))) pe_int) (pe_callB call_lenV rfl T.z_len PySem.boot_len (pa_cons (pv 4) pa_nil))) (fun _ _ => rfl))))))), ?_⟩
  have hl := plc_small hc
  refine sx_seq (sx_asgO (eo_lcL m.plc (fun p => dC p) (isW m) (fun p => dC p) (ev_pubL (eo_cb (ea_cons (ev_var 0) ea_nil) (ro_sortedF m.plc (fun p => mφ_some) m.plc_sorted (by omega)))) hl (fun p hp => et_isW (ev_var 0) (ev_var 5) (Mb.mem_plc.mp hp)) (fun p hp hb => ev_var 5)) ?_)
  refine sx_pubL (K := K) 4 rfl ?_
  have key : ∀ (j : Nat) (p : List Nat), (wpl m)[j]? = some p → WAt m p ∧ ((wpl m).map fun p => dC p)[j]? = some (dC p) := fun j p h => ⟨mem_wpl.mp (List.mem_of_getElem? h), by rw [List.getElem?_map, h]; rfl⟩
  have hne : 0 < (wpl m).length := List.length_pos_of_mem (mem_wpl.mpr hw)
  refine sx_seq (sx_if (et_test (ev_op (ev_var 2) ev_c (by walk_at "hm_eq"))) (fun h => ?_) (fun h => ?_))
  · obtain ⟨k1, k2⟩ := key 0 _ (List.getElem?_eq_getElem hne)
    exact sx_ret (ev_ex _ k1 (ev_sub (ev_var 4) ev_c (rv_ixL 0 rfl k2))) rfl
  refine sx_nil ?_
  refine sx_seq (sx_if (et_test (ev_op (ev_var 2) ev_c (by walk_at "hm_eq"))) (fun h => ?_) (fun h => ?_))
  · have e := List.getElem?_eq_getElem (show (wpl m).length - 1 < (wpl m).length by omega)
    obtain ⟨k1, k2⟩ := key _ _ e
    refine sx_ret (ev_ex _ k1 (ev_sub (ev_var 4) (ev_un ev_c ru_neg) (rv_ixLI (at_last ?_)))) rfl
    rw [List.getLast?_eq_getElem?, List.length_map]
    exact k2
  refine sx_nil ?_
  refine sx_seq (sx_if (et_test (ev_op (ev_var 2) ev_c (by walk_at "hm_eq"))) (fun h => ?_) (fun h => ?_))
  · exact sx_ret (ev_ex _ hw (ev_var 3)) rfl
  refine sx_nil ?_
  have hlen : ((((wpl m).map fun p => dC p).length : Nat) : Int) = ((wpl m).length : Int) := by rw [List.length_map]
  refine sx_ret (ev_sub (ev_var 4) (ev_op (ev_op (ev_mix (ev_var 1) ev_c (by decide)) ev_c (rv_ex1 fun i hi => rv_exI (dd := dI) (p := fun i : Int => 0 ≤ i ∧ i < 2147483647) (i / 16) ⟨by omega, by omega⟩ (rv_div ⟨by decide, by decide +kernel⟩))) (ev_cb (ea_cons (ev_var 4) ea_nil) (by walk_at "hm_len")) (rv_ex1 fun i hi => rv_exI (dd := dI) (p := fun i : Int => 0 ≤ i ∧ i < ((wpl m).length : Int)) (i % ((((wpl m).map fun p => dC p).length : Nat) : Int)) ⟨Int.emod_nonneg _ (by omega), by rw [hlen]; exact Int.emod_lt_of_pos _ (by omega)⟩ (rv_mod (by omega)))) (rv_ex2 fun i hi => ?_)) rfl
  have e := List.getElem?_eq_getElem (show i.toNat < (wpl m).length by omega)
  obtain ⟨k1, k2⟩ := key _ _ e
  exact rv_exI _ k1 (rv_ixL i.toNat (by omega) k2)

/-! ### lists of places -/
def okL (L : List (List Nat)) : Prop := ∀ p, p ∈ L → okC p = true

/-! ### rows grown -/
/-- what a store leaves -/
def pψ (φ : List Nat → Option Dn) (p : List Nat) (d : Dn) : List Nat → Option Dn := fun q => if q = p then some d else φ q
theorem pψ_dom {φ : List Nat → Option Dn} {p : List Nat} {d : Dn} {L : List (List Nat)} (hp : p ∈ L) (h : ∀ q, (φ q).isSome = true → q ∈ L) : ∀ q, (pψ φ p d q).isSome = true → q ∈ L := fun q hq => by
  unfold pψ at hq
  by_cases e : q = p
  · rw [e]; exact hp
  · rw [if_neg e] at hq; exact h q hq
theorem mφ_put {K : PySem.W.Frag} {m : Mb} {p : List Nat} {a la x ra y : Rat} (h : m.get p = some (.w a)) : mφ K (m.put p (.r la (.w x) ra (.w y))) = pψ (pψ (pψ (mφ K m) p (dT K [dR K la, dR K ra])) (p ++ [108]) (dT K [dR K x])) (p ++ [114]) (dT K [dR K y]) := by
  funext q
  unfold mφ pψ
  rw [Mb.rowAt_put h]
  by_cases h1 : q = p ++ [114]
  · rw [if_pos h1, if_pos h1]; rfl
  · rw [if_neg h1, if_neg h1]
    by_cases h2 : q = p ++ [108]
    · rw [if_pos h2, if_pos h2]; rfl
    · rw [if_neg h2, if_neg h2]
      by_cases h3 : q = p
      · rw [if_pos h3, if_pos h3]; rfl
      · rw [if_neg h3, if_neg h3]
theorem pψ_same {φ : List Nat → Option Dn} {p : List Nat} {d e : Dn} : pψ (pψ φ p d) p e = pψ φ p e := by
  funext q; unfold pψ; by_cases h : q = p <;> simp [h]
theorem pψ_swap {φ : List Nat → Option Dn} {p q : List Nat} {d e : Dn} (h : p ≠ q) : pψ (pψ φ p d) q e = pψ (pψ φ q e) p d := by
  funext s; unfold pψ
  by_cases h1 : s = p
  · subst h1; simp [h]
  · by_cases h2 : s = q
    · subst h2; simp [h1]
    · simp [h1, h2]
theorem lr_ne (p : List Nat) : p ++ [108] ≠ p ++ [114] := fun h => by have := List.append_cancel_left h; cases this
def oGr (K : PySem.W.Frag) (n : Nat) : On := oEx (fun m => ∃ n', n' ≤ n ∧ Gd n' m) (oRw K)
theorem arms_id {a la ra : Rat} (h1 : 0 < la) (h2 : 0 < ra) : a * ra / (la + ra) + a * la / (la + ra) = a := by
  have : la + ra ≠ 0 := by grind
  grind
theorem rat_quo_pos {a b : Rat} (h1 : 0 < a) (h2 : 0 < b) : 0 < a / b := by
  rw [Rat.div_def]
  exact Rat.mul_pos h1 (Rat.inv_pos.mpr h2)
def SGrown (K : PySem.W.Frag) : Sem' := fun ds r => ∃ (ns : List Int) (k sh : Int), ns.length ≤ 63 ∧ ds = [dL K (ns.map fun i => dI i), dI k, dI sh] ∧ r = .own (oGr K 61)
theorem oFn_one {K : PySem.W.Frag} {a : Rat} : (fun q : List Nat => if q = [] then some (dT K [dR K a]) else none) = mφ K (.w a) := by
  funext q
  cases q with
  | nil => rfl
  | cons c q => rfl
theorem ok__law_grown {P : Program} {w : World} {K : PySem.W.Frag} {mg : Str → Option Value} {base : Heap} (T : Top K mg) : FnOk P w K mg base CX0 4 T.f__law_grown T.fd__law_grown ["_law_script", "_law_kind", "_law_shape"] (spD (SGrown K)) := by
  refine fn0 T.d__law_grown.F sc__law_grown (fun ds r h => by obtain ⟨ns, k, sh, hl, rfl, rfl⟩ := h; rfl) fun cdv A outer s H E ds r hr h => ?_
  obtain ⟨ns, k, sh, hl, rfl, rfl⟩ := h
  have hu := hu_of hr
  have hu64 := hr.units
  refine ⟨_, pss_cons (ps_set (i := 3) sc__law_grown.nd rfl (Or.inl rfl) (pe_disp (pps_cons pe_str (pe_tup (pa_cons (pe_cl T.d__law_amount (ok__law_amount T) (hr.mono (by decide)) pass0 (pa_cons (pe_cl T.d__law_cell_at (ok__law_cell_at T) (hr.mono (by decide)) pass0 (pa_cons (pv 0) (pa_cons pe_int pa_nil))) (pa_cons (pv 1) pa_nil))) pa_nil)) pps_nil) rfl rfl (by simp) (by decide)))
      (pss_cons (ps_set (i := 4) sc__law_grown.nd rfl (Or.inl rfl) pe_str)
      (pss_cons (ps_for PassesOwn.never rfl (pi_list (pe_slice sl_U (pv 0) (po_some pe_int) (po_some pe_int))) (pg_name (i := 5) sc__law_grown.nd rfl (Or.inl rfl)) (pss_cons (ps_set (i := 6) sc__law_grown.nd rfl (Or.inl rfl) (pe_cl T.d__law_spot (ok__law_spot T) (hr.mono (by decide)) pass0 (pa_cons (pv 3) (pa_cons (pv 5) (pa_cons (pv 2) (pa_cons (pv 4) pa_nil))))))
      (pss_cons (ps_set (i := 7) sc__law_grown.nd rfl (Or.inl rfl) (pe_sub hu (pe_sub hu (pv 3) (pv 6) (fun _ _ => rfl)) pe_int (fun _ _ => rfl)))
      (pss_cons (ps_set (i := 8) sc__law_grown.nd rfl (Or.inl rfl) (pe_cl T.d__law_arms (ok__law_arms T) (hr.mono (by decide)) pass0 (pa_cons (pv 5) (pa_cons (pv 1) pa_nil))))
      (pss_cons (ps_set (i := 4) sc__law_grown.nd rfl (Or.inl rfl) (pe_op op_addU (pv 6) (pe_sub hu pe_str (pe_op op_mod (pe_op op_fdivW (pe_cl T.d__law_mixed (ok__law_mixed T) (hr.mono (by decide)) pass0 (pa_cons (pv 5) (pa_cons pe_int pa_nil))) pe_int) pe_int) (fun _ _ => rfl))))
      (pss_cons (ps_dput hu (pv 3) (pv 6) (pv 8) rfl)
      (pss_cons (ps_dput hu (pv 3) (pe_op op_addU (pv 6) pe_str) (pe_tup (pa_cons (pv 7) pa_nil)) rfl)
      (pss_cons (ps_dput hu (pv 3) (pe_op op_addU (pv 6) pe_str) (pe_tup (pa_cons (pv 7) pa_nil)) rfl)
      (pss_one (ps_if (PW.pt (pw_or (pt_cmpR (op_eqU hu64) (pv 1) pe_int (nomark _)) (pw_or1 (pt_cmpR (op_eqU hu64) (pv 1) pe_int (nomark _))))) (pss_one (ps_dput hu (pv 3) (pv 4) (pe_tup (pa_cons (pe_cl T.d__law_amount (ok__law_amount T) (hr.mono (by decide)) pass0 (pa_cons (pv 5) (pa_cons (pv 1) pa_nil))) pa_nil)) rfl)) (pss_cons (ps_set (i := 9) sc__law_grown.nd rfl (Or.inl rfl) (pe_cl T.d__law_sum (ok__law_sum T) (hr.mono (by decide)) pass0 (pa_cons (pe_sub hu (pv 8) pe_int (fun _ _ => rfl)) (pa_cons (pe_sub hu (pv 8) pe_int (fun _ _ => rfl)) pa_nil))))
      (pss_cons (ps_dput hu (pv 3) (pe_op op_addU (pv 6) pe_str) (pe_tup (pa_cons (pe_cl T.d__law_quotient (ok__law_quotient T) (hr.mono (by decide)) pass0 (pa_cons (pe_cl T.d__law_product (ok__law_product T) (hr.mono (by decide)) pass0 (pa_cons (pv 7) (pa_cons (pe_sub hu (pv 8) pe_int (fun _ _ => rfl)) pa_nil))) (pa_cons (pv 9) pa_nil))) pa_nil)) rfl)
      (pss_one (ps_dput hu (pv 3) (pe_op op_addU (pv 6) pe_str) (pe_tup (pa_cons (pe_cl T.d__law_quotient (ok__law_quotient T) (hr.mono (by decide)) pass0 (pa_cons (pe_cl T.d__law_product (ok__law_product T) (hr.mono (by decide)) pass0 (pa_cons (pv 7) (pa_cons (pe_sub hu (pv 8) pe_int (fun _ _ => rfl)) pa_nil))) (pa_cons (pv 9) pa_nil))) pa_nil)) rfl))))))))))))))
      (pss_one (ps_ret (pv 3))))), ?_⟩
  refine sx_seq (sx_asgOE (eo_disp1E (ev_str [] rfl) (ev_tup1E (K := K) (ev_call (ea_cons (ev_call (ea_cons (ev_var 0) (ea_cons ev_c ea_nil)) ⟨ns, 1, hl, rfl, rfl⟩) (ea_cons (ev_var 1) ea_nil)) ⟨_, _, rfl, rfl⟩))) fun a ha => ?_)
  rw [oFn_one]
  refine sx_seq (sx_asg (ev_str [] rfl) ?_)
  have hcl : (cutL (ns.map fun i => dI i) (some 2) (some 65)).length ≤ 61 := by
    rw [show (some (2 : Int)) = some ((2 : Nat) : Int) from rfl, show (some (65 : Int)) = some ((65 : Nat) : Int) from rfl, cut_mid]
    simp only [List.length_take, List.length_drop, List.length_map]
    omega
  have hci : ∀ (n : Nat) d, (cutL (ns.map fun i => dI i) (some 2) (some 65))[n]? = some d → ∃ c : Int, d = dI c := fun n d h => by
    rw [show (some (2 : Int)) = some ((2 : Nat) : Int) from rfl, show (some (65 : Int)) = some ((65 : Nat) : Int) from rfl, cut_mid] at h
    obtain ⟨c, _, e⟩ := List.mem_map.mp (List.mem_of_mem_drop (List.mem_of_mem_take (List.mem_of_getElem? h)))
    exact ⟨c, e.symm⟩
  refine sx_mid (fun δ => ∃ n m nw s5 s6 s7 s8 s9, n ≤ 61 ∧ Gd n m ∧ WAt m nw ∧ δ = [some (.im (dL K (ns.map fun i => dI i))), some (.im (dI k)), some (.im (dI sh)), some (.ow (oRw K m)), some (.im (dC nw)), s5, s6, s7, s8, s9]) ?_ ?_
  · refine sx_forL (ev_pubL (eo_slL (ev_var 0) (oo_some ev_c) (oo_some ev_c))) (fun n δ => ∃ m nw s5 s6 s7 s8 s9, n ≤ 61 ∧ Gd n m ∧ WAt m nw ∧ δ = [some (.im (dL K (ns.map fun i => dI i))), some (.im (dI k)), some (.im (dI sh)), some (.ow (oRw K m)), some (.im (dC nw)), s5, s6, s7, s8, s9]) ⟨.w a, [], none, none, none, none, none, by decide, Gd.start ha, ⟨a, rfl⟩, rfl⟩ ?_ ?_
    rotate_left
    · rintro δ' ⟨m, nw, s5, s6, s7, s8, s9, h1, h2, h3, h4⟩
      exact ⟨_, m, nw, s5, s6, s7, s8, s9, h1, h2, h3, h4⟩
    rintro n δ' d en ⟨m, nw, s5, s6, s7, s8, s9, hn, g, hw, rfl⟩
    have hn1 : n + 1 ≤ 61 := by have := (List.getElem?_eq_some_iff.mp en).1; omega
    obtain ⟨c, rfl⟩ := hci n d en
    refine sx_seq (sx_asgE (ev_lendX (d := dWp m) 3 rfl (fun _ _ _ z => z) (ev_call (ea_cons (ev_var 3) (ea_cons (ev_var 5) (ea_cons (ev_var 2) (ea_cons (ev_var 4) ea_nil)))) ⟨m, c, sh, nw, by have := g.cnt; omega, hw, rfl, rfl⟩)) fun p hp => ?_)
    obtain ⟨a, hp⟩ := hp
    refine sx_seq (sx_asg (ev_sub (ev_getO 3 rfl (ev_var 6) (mφ_w hp)) ev_c (rv_ixT 0 rfl rfl)) ?_)
    refine sx_seq (sx_asgE (ev_call (ea_cons (ev_var 5) (ea_cons (ev_var 1) ea_nil)) ⟨_, _, rfl, rfl⟩) fun ab hab => ?_)
    obtain ⟨la, ra⟩ := ab
    obtain ⟨l0, r0, lz, rz, lq, rq, lr3⟩ := hab
    have lp : p.length + [108].length ≤ 100000 := by
      have := Mb.get_dep hp
      have := g.dep
      simp only [List.length_singleton]
      omega
    have lp' : p.length + [114].length ≤ 100000 := lp
    refine sx_seq (sx_asgE (p := fun q => q = p ++ [108] ∨ q = p ++ [114]) (dd := dC) (ev_op (ev_var 6) (ev_sub (z := dEx (fun c => c = 108 ∨ c = 114) fun c => dC [c]) (ev_str [108, 114] rfl) (ev_op (ev_op (ev_mix (ev_var 5) ev_c (by decide)) ev_c (rv_ex1 fun i hi => rv_exI (dd := dI) (p := fun i : Int => 0 ≤ i) (i / 32) (show 0 ≤ i / 32 by omega) (rv_div ⟨by decide, by decide +kernel⟩))) ev_c (rv_ex1 fun i hi => rv_exI (dd := dI) (p := fun i : Int => i = 0 ∨ i = 1) (i % 2) (show i % 2 = 0 ∨ i % 2 = 1 by omega) (rv_mod (by decide)))) (rv_ex2 fun i hi => ?_)) (rv_ex2 fun c hc => ?_)) fun nw' hnw => ?_)
    · rcases hi with rfl | rfl
      · exact rv_exI 108 (.inl rfl) (rv_ixS 0 rfl (by decide) rfl)
      · exact rv_exI 114 (.inr rfl) (rv_ixS 1 rfl (by decide) rfl)
    · rcases hc with rfl | rfl
      · exact rv_exI (p ++ [108]) (.inl rfl) (rv_addS lp)
      · exact rv_exI (p ++ [114]) (.inr rfl) (rv_addS lp')
    have hL : ∀ q, (mφ K m q).isSome = true → q ∈ (p ++ [114]) :: (p ++ [108]) :: m.plc := fun q hq => List.mem_cons_of_mem _ (List.mem_cons_of_mem _ (mφ_some.mpr hq))
    have mp : p ∈ (p ++ [114]) :: (p ++ [108]) :: m.plc := List.mem_cons_of_mem _ (List.mem_cons_of_mem _ ((mφ_some (K := K)).mpr (by rw [mφ_w hp]; rfl)))
    have ml : p ++ [108] ∈ (p ++ [114]) :: (p ++ [108]) :: m.plc := List.mem_cons_of_mem _ List.mem_cons_self
    have mr : p ++ [114] ∈ (p ++ [114]) :: (p ++ [108]) :: m.plc := List.mem_cons_self
    have hLl : ((p ++ [114]) :: (p ++ [108]) :: m.plc).length ≤ 100000 := by
      have := m.plc_len
      have := g.cnt
      simp only [List.length_cons]
      omega
    have kl : ∀ {δ : DEnv}, δ[6]? = some (some (.im (dC p))) → Ev (fun _ => E) (tOp rAddU (tVar 6) (tC (.str "l"))) δ (.ok (dC (p ++ [108]))) := fun h => ev_op (ev_var 6 h) (ev_str [108] rfl) (rv_addS lp)
    have kr : ∀ {δ : DEnv}, δ[6]? = some (some (.im (dC p))) → Ev (fun _ => E) (tOp rAddU (tVar 6) (tC (.str "r"))) δ (.ok (dC (p ++ [114]))) := fun h => ev_op (ev_var 6 h) (ev_str [114] rfl) (rv_addS lp')
    refine sx_seq (sx_dput 3 rfl (ev_var 8) (ev_var 6) _ hL hLl ?_)
    refine sx_seq (sx_dput (φ := pψ (mφ K m) p (dPair K (la, ra))) 3 rfl (ev_tup (K := K) (ea_cons (ev_var 7) ea_nil) (show 1 ≤ 1000 by decide)) (kl rfl) _ (pψ_dom mp hL) hLl ?_)
    refine sx_seq (sx_dput (φ := pψ (pψ (mφ K m) p (dPair K (la, ra))) (p ++ [108]) (dT K [dR K a])) 3 rfl (ev_tup (K := K) (ea_cons (ev_var 7) ea_nil) (show 1 ≤ 1000 by decide)) (kr rfl) _ (pψ_dom ml (pψ_dom mp hL)) hLl ?_)
    have hL3 : ∀ q, (pψ (pψ (pψ (mφ K m) p (dPair K (la, ra))) (p ++ [108]) (dT K [dR K a])) (p ++ [114]) (dT K [dR K a]) q).isSome = true → q ∈ (p ++ [114]) :: (p ++ [108]) :: m.plc := pψ_dom mr (pψ_dom ml (pψ_dom mp hL))
    have a0 : 0 < a := Mb.get_pos g.pos hp
    refine sx_if (b := big k) (et_is (et_or (et_test (ev_op (ev_var 1) ev_c (by walk_at "hm_eq"))) (fun h => (et_test (ev_op (ev_var 1) ev_c (by walk_at "hm_eq"))))) (by unfold big; rw [Bool.decide_or])) (fun h => ?_) (fun h => ?_)
    · refine sx_dputE (φ := pψ (pψ (pψ (mφ K m) p (dPair K (la, ra))) (p ++ [108]) (dT K [dR K a])) (p ++ [114]) (dT K [dR K a])) 3 rfl (ev_tup1E (K := K) (ev_call (ea_cons (ev_var 5) (ea_cons (ev_var 1) ea_nil)) ⟨_, _, rfl, rfl⟩)) (ev_var 4) _ hL3 hLl fun x hx => ?_
      have aa : Q (dn (n + 1)) 210 a := by rw [dn_succ]; exact (g.bd.wt p a (row_w.mpr hp)).up (by decide)
      have qx : Q (dn (n + 1)) 210 x := hx.2.up (Nat.pow_pos (by decide))
      rcases hnw with rfl | rfl
      · refine ⟨m.put p (.r la (.w x) ra (.w a)), p ++ [108], some (.im (dI c)), some (.im (dC p)), some (.im (dR K a)), some (.im (dPair K (la, ra))), s9, hn1, g.grow hp l0 r0 lq rq hx.1 a0 qx aa, ⟨x, by rw [Mb.get_put hp]; rfl⟩, ?_⟩
        have e : mφ K (m.put p (.r la (.w x) ra (.w a))) = pψ (pψ (pψ (pψ (mφ K m) p (dPair K (la, ra))) (p ++ [108]) (dT K [dR K a])) (p ++ [114]) (dT K [dR K a])) (p ++ [108]) (dT K [dR K x]) := by
          rw [mφ_put hp, pψ_swap (lr_ne p).symm, pψ_same]; rfl
        unfold oRw
        rw [e]; rfl
      · refine ⟨m.put p (.r la (.w a) ra (.w x)), p ++ [114], some (.im (dI c)), some (.im (dC p)), some (.im (dR K a)), some (.im (dPair K (la, ra))), s9, hn1, g.grow hp l0 r0 lq rq a0 hx.1 aa qx, ⟨x, by rw [Mb.get_put hp]; rfl⟩, ?_⟩
        have e : mφ K (m.put p (.r la (.w a) ra (.w x))) = pψ (pψ (pψ (pψ (mφ K m) p (dPair K (la, ra))) (p ++ [108]) (dT K [dR K a])) (p ++ [114]) (dT K [dR K a])) (p ++ [114]) (dT K [dR K x]) := by
          rw [mφ_put hp, pψ_same]; rfl
        unfold oRw
        rw [e]; rfl
    · have qa := g.bd.wt p a (row_w.mpr hp)
      have za : Sz 810 a := qa.szm (dn61 (by omega)) (by decide)
      obtain ⟨i1, j1, hi1, hj1⟩ := lr3 h
      have hi1 : la * 840 = (la + ra) * (i1 : Rat) := hi1
      have hj1 : ra * 840 = (la + ra) * (j1 : Rat) := hj1
      have zs : Sz 89 (la + ra) := lz.add rz
      have s0 : 0 < la + ra := by grind
      have zl : Sz 854 (a * la) := za.mul lz
      have zr : Sz 854 (a * ra) := za.mul rz
      have aa : Q (dn (n + 1)) 210 a := by rw [dn_succ]; exact qa.up (by decide)
      have part : ∀ (u : Rat) (i : Int), 0 < u → u ≤ la + ra → u * 840 = (la + ra) * (i : Rat) → Q (dn (n + 1)) 210 (a * u / (la + ra)) := fun u i u0 u1 hi => by
        have s1 : la + ra ≠ 0 := by grind
        refine aa.le ?_ (Rat.le_of_lt (rat_quo_pos (Rat.mul_pos a0 u0) s0)) ?_
        · obtain ⟨k, hk⟩ := qa.int
          refine ⟨k * i, ?_⟩
          have e1 : ((dn (n + 1) : Nat) : Rat) = ((dn n : Nat) : Rat) * 840 := by
            rw [dn_succ]; exact Rat.natCast_mul _ _
          rw [e1, Rat.intCast_mul, ← hk]
          grind
        · have e2 : a - a * u / (la + ra) = a * (la + ra - u) / (la + ra) := by grind
          have e3 : 0 ≤ a * (la + ra - u) / (la + ra) := by
            rw [Rat.div_def]
            exact Rat.mul_nonneg (Rat.mul_nonneg (Rat.le_of_lt a0) (by grind)) (Rat.le_of_lt (Rat.inv_pos.mpr s0))
          grind
      have big4 : ∀ {j : Nat} {y : Rat}, Sz j y → j ≤ 4000 → Sz 4000 y := fun z l => z.mono l
      refine sx_seq (sx_asg (ev_call (ea_cons (ev_sub (ev_var 8) ev_c (rv_ixT 0 rfl rfl)) (ea_cons (ev_sub (ev_var 8) ev_c (rv_ixT 1 rfl rfl)) ea_nil)) ⟨la, ra, lz.mono (by decide), rz.mono (by decide), rfl, rfl⟩) ?_)
      refine sx_seq (sx_dput (φ := pψ (pψ (pψ (mφ K m) p (dPair K (la, ra))) (p ++ [108]) (dT K [dR K a])) (p ++ [114]) (dT K [dR K a])) 3 rfl (ev_tup (K := K) (ea_cons (ev_call (ea_cons (ev_call (ea_cons (ev_var 7) (ea_cons (ev_sub (ev_var 8) ev_c (rv_ixT 1 rfl rfl)) ea_nil)) ⟨a, ra, big4 za (by omega), rz.mono (by decide), rfl, rfl⟩) (ea_cons (ev_var 9) ea_nil)) ⟨a * ra, la + ra, big4 zr (by omega), zs.mono (by decide), s0, rfl, rfl⟩) ea_nil) (show 1 ≤ 1000 by decide)) (kl rfl) _ hL3 hLl ?_)
      refine sx_dput (φ := pψ (pψ (pψ (pψ (mφ K m) p (dPair K (la, ra))) (p ++ [108]) (dT K [dR K a])) (p ++ [114]) (dT K [dR K a])) (p ++ [108]) (dT K [dR K (a * ra / (la + ra))])) 3 rfl (ev_tup (K := K) (ea_cons (ev_call (ea_cons (ev_call (ea_cons (ev_var 7) (ea_cons (ev_sub (ev_var 8) ev_c (rv_ixT 0 rfl rfl)) ea_nil)) ⟨a, la, big4 za (by omega), lz.mono (by decide), rfl, rfl⟩) (ea_cons (ev_var 9) ea_nil)) ⟨a * la, la + ra, big4 zl (by omega), zs.mono (by decide), s0, rfl, rfl⟩) ea_nil) (show 1 ≤ 1000 by decide)) (kr rfl) _ (pψ_dom ml hL3) hLl ?_
      refine ⟨m.put p (.r la (.w (a * ra / (la + ra))) ra (.w (a * la / (la + ra)))), nw', some (.im (dI c)), some (.im (dC p)), some (.im (dR K a)), some (.im (dPair K (la, ra))), some (.im (dR K (la + ra))), hn1, g.grow hp l0 r0 lq rq (rat_quo_pos (Rat.mul_pos a0 r0) s0) (rat_quo_pos (Rat.mul_pos a0 l0) s0) (part ra j1 r0 (by grind) hj1) (part la i1 l0 (by grind) hi1), ?_, ?_⟩
      · rcases hnw with rfl | rfl
        · exact ⟨_, by rw [Mb.get_put hp]; rfl⟩
        · exact ⟨_, by rw [Mb.get_put hp]; rfl⟩
      · have e : mφ K (m.put p (.r la (.w (a * ra / (la + ra))) ra (.w (a * la / (la + ra))))) = pψ (pψ (pψ (pψ (pψ (mφ K m) p (dPair K (la, ra))) (p ++ [108]) (dT K [dR K a])) (p ++ [114]) (dT K [dR K a])) (p ++ [108]) (dT K [dR K (a * ra / (la + ra))])) (p ++ [114]) (dT K [dR K (a * la / (la + ra))]) := by
          rw [mφ_put hp, pψ_swap (φ := pψ (pψ (mφ K m) p (dPair K (la, ra))) (p ++ [108]) (dT K [dR K a])) (lr_ne p).symm, pψ_same, pψ_same]; rfl
        unfold oRw
        rw [e]; rfl
  rintro _ ⟨n, m, nw, s5, s6, s7, s8, s9, hn, g, hw, rfl⟩
  exact sx_retVE (c := oRw K) (p := fun m => ∃ n', n' ≤ 61 ∧ Gd n' m) 3 m ⟨n, hn, g⟩ rfl rfl

/-! ### rods' and weights' places -/
theorem mφ_reW {K : PySem.W.Frag} {m : Mb} {p : List Nat} {a b : Rat} (h : m.get p = some (.w a)) : mφ K (m.put p (.w b)) = pψ (mφ K m) p (dT K [dR K b]) := by
  funext q
  unfold mφ pψ
  rw [re_w h]
  by_cases h1 : q = p
  · rw [if_pos h1, if_pos h1]; rfl
  · rw [if_neg h1, if_neg h1]
theorem mφ_reR {K : PySem.W.Frag} {m l n : Mb} {p : List Nat} {la ra la' ra' : Rat} (h : m.get p = some (.r la l ra n)) : mφ K (m.put p (.r la' l ra' n)) = pψ (mφ K m) p (dT K [dR K la', dR K ra']) := by
  funext q
  unfold mφ pψ
  rw [re_r h]
  by_cases h1 : q = p
  · rw [if_pos h1, if_pos h1]; rfl
  · rw [if_neg h1, if_neg h1]
/-- a rod hangs there -/
def RAt (m : Mb) (p : List Nat) : Prop := ∃ la ra, m.rowAt p = some (.two la ra)
def isR (m : Mb) (p : List Nat) : Bool := match m.get p with
  | some (.r ..) => true
  | _ => false
theorem isR_iff {m : Mb} {p : List Nat} : isR m p = true ↔ RAt m p := by
  unfold isR RAt
  constructor
  · intro h
    split at h
    · rename_i la l ra n e; exact ⟨la, ra, row_r.mpr ⟨l, n, e⟩⟩
    · cases h
  · rintro ⟨la, ra, e⟩
    obtain ⟨l, n, e⟩ := row_r.mp e
    rw [e]
abbrev rpl (m : Mb) : List (List Nat) := m.plc.filter (isR m)
theorem mem_rpl {m : Mb} {p : List Nat} : p ∈ rpl m ↔ RAt m p := by
  rw [List.mem_filter, isR_iff, Mb.mem_plc]
  constructor
  · exact fun h => h.2
  · intro h
    obtain ⟨la, ra, e⟩ := h
    obtain ⟨l, n, e'⟩ := row_r.mp e
    exact ⟨by rw [e']; rfl, la, ra, e⟩
theorem et_isR {E : XS} {δ : DEnv} {K : PySem.W.Frag} {m : Mb} {p : List Nat} {ta tb : TE} (h1 : Ev E ta δ (.ok (dRw K m))) (h2 : Ev E tb δ (.ok (dC p))) (hp : (m.get p).isSome = true) :
    Et E (tTest (tOp (rEqU K) (tCB (rLenV K) (tCons (tSubU K ta tb) tNil)) (tC (.int 2)))) δ (isR m p) := by
  cases e : m.get p with
  | none => rw [e] at hp; cases hp
  | some s =>
    cases s with
    | w a =>
      refine et_is (et_test (ev_op (ev_cb (ea_cons (ev_getD h1 h2 (mφ_w e)) ea_nil) (rc_lenU rc_lenT)) ev_c rv_eqI)) ?_
      have : isR m p = false := by unfold isR; rw [e]
      rw [this]; rfl
    | r la l ra n =>
      refine et_is (et_test (ev_op (ev_cb (ea_cons (ev_getD h1 h2 (mφ_r e)) ea_nil) (rc_lenU rc_lenT)) ev_c rv_eqI)) ?_
      have : isR m p = true := by unfold isR; rw [e]
      rw [this]; rfl
theorem okL_sub {m : Mb} {f : List Nat → Bool} : okL (m.plc.filter f) := fun p hp => Mb.okC_get (Mb.mem_plc.mp (List.mem_filter.mp hp).1)
theorem okL_nil : okL [] := fun p hp => absurd hp List.not_mem_nil
theorem some_w (m : Mb) : ∃ t, WAt m t := by
  induction m with
  | w a => exact ⟨[], a, rfl⟩
  | r la l ra n ihl _ =>
    obtain ⟨t, a, e⟩ := ihl
    exact ⟨108 :: t, a, by rw [Mb.get_l]; exact e⟩

/-! ### strings tied elsewhere -/
theorem by_frac {y : Int} (h : 2 ≤ y ∧ y ≤ 7) : ((Rat.divInt (y - 1) y).num = y - 1 ∧ ((Rat.divInt (y - 1) y).den : Int) = y) ∧ (Rat.divInt 1 y).num = 1 ∧ ((Rat.divInt 1 y).den : Int) = y := by
  rcases (by omega : y = 2 ∨ y = 3 ∨ y = 4 ∨ y = 5 ∨ y = 6 ∨ y = 7) with h | h | h | h | h | h <;> subst h <;> decide
/-- what may come of it -/
structure Tp (m : Mb) : Prop where
  bd : ∃ n, n ≤ 61 ∧ Bd (dn n * 420) 213 (12 * (420 * 420)) 41 m
  cnt : m.cnt ≤ 62
  dep : m.dep ≤ 61
theorem Tp.bd2 {m : Mb} (h : Tp m) : ∃ D, D < 2 ^ 609 ∧ Bd D 213 (12 * (420 * 420)) 41 m := by
  obtain ⟨n, hn, b⟩ := h.bd
  refine ⟨_, ?_, b⟩
  calc dn n * 420 < 2 ^ 600 * 420 := Nat.mul_lt_mul_of_pos_right (dn61 hn) (by decide)
    _ < 2 ^ 609 := by decide
theorem Tp.ok {m : Mb} (h : Tp m) : Mok 900 m := by
  obtain ⟨D, hD, b⟩ := h.bd2
  exact b.ok hD (a := 22) (by decide) (by have := h.cnt; omega) (by have := h.dep; omega) (by decide) (by decide)
theorem q420_one {y : Int} (h : 2 ≤ y ∧ y ≤ 7) : Q 420 1 (Rat.divInt 1 y) := by
  rcases (by omega : y = 2 ∨ y = 3 ∨ y = 4 ∨ y = 5 ∨ y = 6 ∨ y = 7) with h | h | h | h | h | h <;> subst h
  · exact Q.div 210 (by decide) (by decide) (by decide) (by decide)
  · exact Q.div 140 (by decide) (by decide) (by decide) (by decide)
  · exact Q.div 105 (by decide) (by decide) (by decide) (by decide)
  · exact Q.div 84 (by decide) (by decide) (by decide) (by decide)
  · exact Q.div 70 (by decide) (by decide) (by decide) (by decide)
  · exact Q.div 60 (by decide) (by decide) (by decide) (by decide)
theorem q_int {y : Int} {V : Nat} (h : y.natAbs < 2 ^ V) : Q 1 V (y : Rat) := by
  rw [int_div]
  exact Q.div 1 (by decide) (by decide) h (by decide)
theorem by_sum {y : Int} (h : 2 ≤ y ∧ y ≤ 7) : Rat.divInt (y - 1) y = 1 - Rat.divInt 1 y := by
  have hb : (y : Rat) ≠ 0 := by
    intro z
    have : (y : Rat) = ((0 : Int) : Rat) := z
    have := Rat.intCast_inj.mp this
    omega
  rw [Rat.divInt_eq_div, Rat.divInt_eq_div, Rat.intCast_sub]
  have e1 : ((1 : Int) : Rat) = 1 := rfl
  rw [e1]
  grind
def STip (K : PySem.W.Frag) : SemT := fun c ds c' => ∃ k : Int, c = oGr K 61 ∧ ds = [dI k, dZ 0 2147483647] ∧ c' = oEx Tp (oRw K)
theorem ok__law_tipped {P : Program} {w : World} {K : PySem.W.Frag} {mg : Str → Option Value} {base : Heap} (T : Top K mg) : FnOk P w K mg base CX0 3 T.f__law_tipped T.fd__law_tipped ["_law_rows", "_law_kind", "_law_number_here"] (spT (STip K)) := by
  refine fnT T.d__law_tipped.F sc__law_tipped (fun c ds c2 h => by obtain ⟨k, rfl, rfl, rfl⟩ := h; rfl) fun cdv A outer s H E c ds c2 hr h => ?_
  obtain ⟨k, rfl, rfl, rfl⟩ := h
  have hu := hu_of hr
  have hu64 := hr.units
  refine ⟨_, pss_cons (ps_set (i := 3) sc__law_tipped.nd rfl (Or.inl rfl) (pe_op op_addU pe_int (pe_op op_mod (pv 2) pe_int)))
      (pss_cons (ps_if (pt_cmpR (op_eqU hu64) (pv 1) pe_int (nomark _)) (pss_cons (ps_setLc (i := 4) (own := [("_law_place", 8)]) (g := gName 8) rfl sc__law_tipped.nd rfl rfl (sw_true rfl rfl rfl (by decide +kernel)) (pi_list (pe_callB (call_sortedDO rfl) rfl T.z_sorted (by decide +kernel) (pa_cons (pv 0) pa_nil))) (blkOk_by (own := [("_law_place", 8)]) (N := n__law_tipped) (sc := defScope s__law_tipped) (by decide +kernel)) (fun _ _ _ _ _ => pg_name (i := 8) sc__law_tipped.nd rfl (Or.inl rfl)) (fun _ _ _ _ _ => pts_one (pt_cmpR (r := rEqU K) (op_eqU hu64) (pe_callB (r := rLenV K) call_lenV rfl T.z_len PySem.boot_len (pa_cons (pe_subK K rfl hu (pv 0) (pv 8) (fun _ _ => rfl)) pa_nil)) pe_int (nomark _))) (fun _ _ _ _ _ => (pv 8)))
      (pss_cons (ps_set (i := 5) sc__law_tipped.nd rfl (Or.inl rfl) (pe_sub hu (pv 4) (pe_op op_mod (pe_op op_fdivW (pv 2) pe_int) (pe_callB call_lenV rfl T.z_len PySem.boot_len (pa_cons (pv 4) pa_nil))) (fun _ _ => rfl)))
      (pss_one (ps_dput hu (pv 0) (pv 5) (pe_tup (pa_cons (pe_cl T.d__law_product (ok__law_product T) (hr.mono (by decide)) pass0 (pa_cons (pe_sub hu (pe_sub hu (pv 0) (pv 5) (fun _ _ => rfl)) pe_int (fun _ _ => rfl)) (pa_cons (pe_sub hu (pe_lst (pa_cons (pe_tup (pa_cons (pv 3) (pa_cons pe_int pa_nil))) (pa_cons (pe_tup (pa_cons pe_int (pa_cons (pv 3) pa_nil))) pa_nil))) (pe_op op_mod (pe_op op_fdivW (pv 2) pe_int) pe_int) (fun _ _ => rfl)) pa_nil))) pa_nil)) rfl)))) pss_nil)
      (pss_cons (ps_setLc (i := 6) (own := [("_law_place", 8)]) (g := gName 8) rfl sc__law_tipped.nd rfl rfl (sw_true rfl rfl rfl (by decide +kernel)) (pi_list (pe_callB (call_sortedDO rfl) rfl T.z_sorted (by decide +kernel) (pa_cons (pv 0) pa_nil))) (blkOk_by (own := [("_law_place", 8)]) (N := n__law_tipped) (sc := defScope s__law_tipped) (by decide +kernel)) (fun _ _ _ _ _ => pg_name (i := 8) sc__law_tipped.nd rfl (Or.inl rfl)) (fun _ _ _ _ _ => pts_one (pt_cmpR (r := rEqU K) (op_eqU hu64) (pe_callB (r := rLenV K) call_lenV rfl T.z_len PySem.boot_len (pa_cons (pe_subK K rfl hu (pv 0) (pv 8) (fun _ _ => rfl)) pa_nil)) pe_int (nomark _))) (fun _ _ _ _ _ => (pv 8)))
      (pss_cons (ps_if (PW.pt (pw_and (pt_cmpR (op_eqU hu64) (pv 1) pe_int (nomark _)) (pw_and1 (pt_cmpR (op_neU hu64) (pv 6) (pe_lst pa_nil) (nomark _))))) (pss_one (ps_for PassesOwn.never rfl (pi_list (pe_lst (pa_cons (pe_sub hu (pv 6) (pe_op op_mod (pe_op op_fdivW (pv 2) pe_int) (pe_callB call_lenV rfl T.z_len PySem.boot_len (pa_cons (pv 6) pa_nil))) (fun _ _ => rfl)) (pa_cons (pe_sub hu (pv 6) (pe_op op_mod (pe_op op_fdivW (pv 2) pe_int) (pe_callB call_lenV rfl T.z_len PySem.boot_len (pa_cons (pv 6) pa_nil))) (fun _ _ => rfl)) pa_nil)))) (pg_name (i := 5) sc__law_tipped.nd rfl (Or.inl rfl)) (pss_cons (ps_set (i := 7) sc__law_tipped.nd rfl (Or.inl rfl) (pe_sub hu (pv 0) (pv 5) (fun _ _ => rfl)))
      (pss_one (ps_dput hu (pv 0) (pv 5) (pe_tup (pa_cons (pe_cl T.d__law_sum (ok__law_sum T) (hr.mono (by decide)) pass0 (pa_cons (pe_sub hu (pv 7) pe_int (fun _ _ => rfl)) (pa_cons (pe_cl T.d__law_product (ok__law_product T) (hr.mono (by decide)) pass0 (pa_cons (pe_sub hu (pv 7) pe_int (fun _ _ => rfl)) (pa_cons (pe_tup (pa_cons (pe_op op_sub (pv 3) pe_int) (pa_cons (pv 3) pa_nil))) pa_nil))) pa_nil))) (pa_cons (pe_cl T.d__law_product (ok__law_product T) (hr.mono (by decide)) pass0 (pa_cons (pe_sub hu (pv 7) pe_int (fun _ _ => rfl)) (pa_cons (pe_tup (pa_cons pe_int (pa_cons (pv 3) pa_nil))) pa_nil))) pa_nil))) rfl))))) pss_nil)
      (pss_one (ps_ret (pv 0)))))), ?_⟩
  refine sx_openO 0 rfl fun m ⟨n, hn, g⟩ => ?_
  refine sx_open 2 rfl fun num hnum => ?_
  refine sx_seq (sx_asg (ev_op ev_c (ev_op (ev_var 2) ev_c (rv_mod (by decide))) (by walk_at "hm_add")) ?_)
  have hy : 2 ≤ 2 + num % 6 ∧ 2 + num % 6 ≤ 7 := by omega
  generalize 2 + num % 6 = y at hy ⊢
  obtain ⟨f1, f2⟩ := by_frac hy
  have zf : Sz 3 (Rat.divInt (y - 1) y) := sz_small (by omega) (by omega) (by omega)
  have zg : Sz 3 (Rat.divInt 1 y) := sz_small (by omega) (by omega) (by omega)
  have pf : 0 < Rat.divInt (y - 1) y := div_pos' (by omega) (by omega)
  have pg : 0 < Rat.divInt 1 y := div_pos' (by omega) (by omega)
  have hk := g.ok hn
  have gc := g.cnt
  have gd := g.dep
  have b1 : Bd (dn n * 420) 210 (12 * 420) 41 m := g.bd.up (Nat.le_refl _) (by decide) (by decide)
  have hpl := plc_small (m := m) (by have := hk.cnt; omega)
  refine sx_mid (fun δ => ∃ m s4 s5, Tp m ∧ (k = 4 → ∃ n, n ≤ 61 ∧ Bd (dn n * 420) 213 12 41 m) ∧ δ = [some (.ow (oRw K m)), some (.im (dI k)), some (.im (dI num)), some (.im (dI y)), s4, s5, none, none, none]) ?_ ?_
  · refine sx_if (et_test (ev_op (ev_var 1) ev_c (by walk_at "hm_eq"))) (fun h => ?_) (fun h => ?_)
    rotate_left
    · exact sx_nil ⟨m, none, none, ⟨⟨n, hn, by have := g.bd.up (V' := 213) (c := 420) (a := 420 * 420) (by decide) (by decide) (by decide); exact this⟩, by omega, by omega⟩, fun _ => ⟨n, hn, by have := g.bd.up (V' := 213) (c := 420) (a := 1) (by decide) (by decide) (by decide); exact this⟩, rfl⟩
    have h := of_decide_eq_true h
    refine sx_seq (sx_asgO (eo_lendX 0 rfl oLC_free (eo_lcL m.plc (fun p => dC p) (isW m) (fun p => dC p) (ev_pubL (eo_cb (ea_cons (ev_var 0) ea_nil) (ro_sortedF m.plc (fun p => mφ_some) m.plc_sorted (by omega)))) hpl (fun p hp => et_isW (ev_var 0) (ev_var 8) (Mb.mem_plc.mp hp)) (fun p hp hb => ev_var 8))) ?_)
    refine sx_pubL (K := K) 4 rfl ?_
    have hne : 0 < (wpl m).length := by
      obtain ⟨t, e⟩ := some_w m
      exact List.length_pos_of_mem (mem_wpl.mpr e)
    have hlw : ((((wpl m).map fun p => dC p).length : Nat) : Int) = ((wpl m).length : Int) := by rw [List.length_map]
    refine sx_seq (sx_asgE (p := WAt m) (dd := dC) (ev_sub (ev_var 4) (ev_op (ev_op (ev_var 2) ev_c (rv_div ⟨by decide, by decide +kernel⟩)) (ev_cb (ea_cons (ev_var 4) ea_nil) (by walk_at "hm_len")) (rv_mod (by rw [hlw]; omega))) ?_) fun w hw => ?_)
    · have i0 := Int.emod_nonneg (num / 6) (show ((((wpl m).map fun p => dC p).length : Nat) : Int) ≠ 0 by rw [hlw]; omega)
      have i1 := Int.emod_lt_of_pos (num / 6) (show (0 : Int) < ((((wpl m).map fun p => dC p).length : Nat) : Int) by rw [hlw]; omega)
      generalize num / 6 % ((((wpl m).map fun p => dC p).length : Nat) : Int) = j at i0 i1 ⊢
      rw [hlw] at i1
      have e := List.getElem?_eq_getElem (show j.toNat < (wpl m).length by omega)
      exact rv_exI _ (mem_wpl.mp (List.mem_of_getElem? e)) (rv_ixL j.toNat (by omega) (by rw [List.getElem?_map, e]; rfl))
    obtain ⟨a, hw⟩ := hw
    have a0 : 0 < a := Mb.get_pos hk.pos hw
    have sa : Sz 1000 a := hk.hft _ _ hw
    have qa := g.bd.wt w a (row_w.mpr hw)
    have hdw := Mb.get_dep hw
    have hL : ∀ q, (mφ K m q).isSome = true → q ∈ m.plc := fun q hq => mφ_some.mpr hq
    have fin : ∀ b, 0 < b → Q (dn n * 420) 213 b → ∃ m' s4 s5, Tp m' ∧ (k = 4 → ∃ n, n ≤ 61 ∧ Bd (dn n * 420) 213 12 41 m') ∧ ([some (.ow (oFn fun q => if q = w then some (dT K [dR K b]) else mφ K m q)), some (.im (dI k)), some (.im (dI num)), some (.im (dI y)), some (.im (dL K ((wpl m).map fun p => dC p))), some (.im (dC w)), none, none, none] : DEnv) = [some (.ow (oRw K m')), some (.im (dI k)), some (.im (dI num)), some (.im (dI y)), s4, s5, none, none, none] := fun b b0 sb =>
      ⟨m.put w (.w b), some (.im (dL K ((wpl m).map fun p => dC p))), some (.im (dC w)), ⟨⟨n, hn, (g.bd.up (V' := 213) (c := 420) (a := 420 * 420) (by decide) (by decide) (by decide)).reW hw b0 sb⟩, by have := Mb.cnt_put (x := .w b) hw; simp only [Mb.cnt] at this; omega, by have := Mb.dep_put (x := .w b) hw; have e2 : (Mb.w b).dep = 0 := rfl; omega⟩, fun z => absurd (h.symm.trans z) (by decide), by unfold oRw; rw [mφ_reW hw]; rfl⟩
    rcases (by omega : num / 1000 % 2 = 0 ∨ num / 1000 % 2 = 1) with e | e
    · refine sx_dput 0 rfl (ev_tup (K := K) (ea_cons (ev_call (ea_cons (ev_sub (ev_getO 0 rfl (ev_var 5) (mφ_w hw)) ev_c (rv_ixT 0 rfl rfl)) (ea_cons (ev_sub (ev_lst (K := K) (ea_cons (ev_int (K := K) (ea_cons (ev_var 3) (ea_cons ev_c ea_nil))) (ea_cons (ev_tupR (K := K) (r := Rat.divInt 1 y) (by rw [f2.1, f2.2]; exact ea_cons ev_c (ea_cons (ev_var 3) ea_nil))) ea_nil)) (show 2 ≤ 1000 by decide)) (ev_op (ev_op (ev_var 2) ev_c (rv_div ⟨by decide, by decide +kernel⟩)) ev_c (rv_mod (by decide))) (by rw [e]; exact rv_ixL 0 rfl rfl)) ea_nil)) ⟨a, Fr.of (y : Rat), sa.mono (by decide), (sz_int (m := 3) (by omega) (by decide)).mono (by decide), rfl, rfl⟩) ea_nil) (show 1 ≤ 1000 by decide)) (ev_var 5) _ hL (by omega) ?_
      exact fin (a * (y : Rat)) (Rat.mul_pos a0 (by rw [int_div]; exact div_pos' (by omega) (by decide))) (by have := (qa.mul (q_int (y := y) (V := 3) (by omega))).up (c := 420) (by decide); rw [Nat.mul_one] at this; exact this)
    · refine sx_dput 0 rfl (ev_tup (K := K) (ea_cons (ev_call (ea_cons (ev_sub (ev_getO 0 rfl (ev_var 5) (mφ_w hw)) ev_c (rv_ixT 0 rfl rfl)) (ea_cons (ev_sub (ev_lst (K := K) (ea_cons (ev_int (K := K) (ea_cons (ev_var 3) (ea_cons ev_c ea_nil))) (ea_cons (ev_tupR (K := K) (r := Rat.divInt 1 y) (by rw [f2.1, f2.2]; exact ea_cons ev_c (ea_cons (ev_var 3) ea_nil))) ea_nil)) (show 2 ≤ 1000 by decide)) (ev_op (ev_op (ev_var 2) ev_c (rv_div ⟨by decide, by decide +kernel⟩)) ev_c (rv_mod (by decide))) (by rw [e]; exact rv_ixL 1 rfl rfl)) ea_nil)) ⟨a, Fr.of (Rat.divInt 1 y), sa.mono (by decide), zg.mono (by decide), rfl, rfl⟩) ea_nil) (show 1 ≤ 1000 by decide)) (ev_var 5) _ hL (by omega) ?_
      exact fin (a * Rat.divInt 1 y) (Rat.mul_pos a0 pg) ((qa.mul (q420_one hy)).mono (by decide))
  clear hpl b1 gd gc hk g
  rintro _ ⟨m, s4, s5, ht, ha, rfl⟩
  have hk := ht.ok
  have hpl := plc_small (m := m) (by have := hk.cnt; omega)
  refine sx_seq (sx_asgO (eo_lendX 0 rfl oLC_free (eo_lcL m.plc (fun p => dC p) (isR m) (fun p => dC p) (ev_pubL (eo_cb (ea_cons (ev_var 0) ea_nil) (ro_sortedF m.plc (fun p => mφ_some) m.plc_sorted (by omega)))) hpl (fun p hp => et_isR (ev_var 0) (ev_var 8) (Mb.mem_plc.mp hp)) (fun p hp hb => ev_var 8))) ?_)
  refine sx_pubL (K := K) 6 rfl ?_
  refine sx_mid (fun δ => ∃ m s1 s2 s3 s4 s5 s6 s7 s8, Tp m ∧ δ = [some (.ow (oRw K m)), s1, s2, s3, s4, s5, s6, s7, s8]) ?_ ?_
  rotate_left
  · rintro _ ⟨m, s1, s2, s3, s4, s5, s6, s7, s8, hk, rfl⟩
    exact sx_retVE (c := oRw K) (p := Tp) 0 m hk rfl rfl
  refine sx_if (et_and (et_test (ev_op (ev_var 1) ev_c (by walk_at "hm_eq"))) (fun h => (et_test (ev_op (ev_var 6) (ev_lst (K := K) ea_nil (by decide)) (rv_neLC (M := []) okL_sub okL_nil))))) (fun h => ?_) (fun h => ?_)
  rotate_left
  · exact sx_nil ⟨m, _, _, _, _, _, _, _, _, ht, rfl⟩
  rw [Bool.and_eq_true] at h
  have k4 := of_decide_eq_true h.1
  obtain ⟨N, hN, ha⟩ := ha k4
  have htc := ht.cnt
  have htd := ht.dep
  have hne : 0 < (rpl m).length := by
    have := h.2
    rw [Bool.not_eq_true', decide_eq_false_iff_not] at this
    exact List.length_pos_iff.mpr this
  have hlw : ((((rpl m).map fun p => dC p).length : Nat) : Int) = ((rpl m).length : Int) := by rw [List.length_map]
  have pick : ∀ i : Int, Rv (rIx K) (dL K ((rpl m).map fun p => dC p)) (dI (i % ((((rpl m).map fun p => dC p).length : Nat) : Int))) (dEx (RAt m) dC) := fun i => by
    have i0 := Int.emod_nonneg i (show ((((rpl m).map fun p => dC p).length : Nat) : Int) ≠ 0 by rw [hlw]; omega)
    have i1 := Int.emod_lt_of_pos i (show (0 : Int) < ((((rpl m).map fun p => dC p).length : Nat) : Int) by rw [hlw]; omega)
    generalize i % ((((rpl m).map fun p => dC p).length : Nat) : Int) = j at i0 i1 ⊢
    rw [hlw] at i1
    have e := List.getElem?_eq_getElem (show j.toNat < (rpl m).length by omega)
    exact rv_exI _ (mem_rpl.mp (List.mem_of_getElem? e)) (rv_ixL j.toNat (by omega) (by rw [List.getElem?_map, e]; rfl))
  have hm0 : (0 : Int) < ((((rpl m).map fun p => dC p).length : Nat) : Int) := by rw [hlw]; omega
  refine sx_forL (ds := [dEx (RAt m) dC, dEx (RAt m) dC]) (ev_lst (K := K) (ea_cons (ev_sub (ev_var 6) (ev_op (ev_op (ev_var 2) ev_c (rv_div ⟨by decide, by decide +kernel⟩)) (ev_cb (ea_cons (ev_var 6) ea_nil) (by walk_at "hm_len")) (rv_mod hm0)) (pick _)) (ea_cons (ev_sub (ev_var 6) (ev_op (ev_op (ev_var 2) ev_c (rv_div ⟨by decide, by decide +kernel⟩)) (ev_cb (ea_cons (ev_var 6) ea_nil) (by walk_at "hm_len")) (rv_mod hm0)) (pick _)) ea_nil)) (show 2 ≤ 1000 by decide))
    (fun n δ => ∃ m' s5 s7 s8, Bd (dn N * 420) 213 (12 * 420 ^ n) 41 m' ∧ m'.cnt = m.cnt ∧ m'.dep ≤ m.dep ∧ (∀ q, RAt m q → RAt m' q) ∧ δ = [some (.ow (oRw K m')), some (.im (dI k)), some (.im (dI num)), some (.im (dI y)), s4, s5, some (.im (dL K ((rpl m).map fun p => dC p))), s7, s8]) ⟨m, _, _, _, by rw [Nat.pow_zero, Nat.mul_one]; exact ha, rfl, Nat.le_refl _, fun _ z => z, rfl⟩ ?_ ?_
  rotate_left
  · rintro δ' ⟨m', s5, s7, s8, hk', c', d', _, rfl⟩
    exact ⟨m', _, _, _, _, _, _, _, _, ⟨⟨N, hN, hk'⟩, by omega, by omega⟩, rfl⟩
  rintro n δ' d en ⟨m', s5, s7, s8, hk', hc', hd', hr', rfl⟩
  have hn2 : n < 2 := (List.getElem?_eq_some_iff.mp en).1
  have hd : d = dEx (RAt m) dC := by
    have := List.mem_of_getElem? en
    simpa using this
  subst hd
  refine sx_open 5 rfl fun p hp => ?_
  obtain ⟨la, ra, hp⟩ := hr' p hp
  obtain ⟨z1, z2, z3⟩ := hk'.arm p la ra hp
  have hA : 12 * 420 ^ n < 2 ^ 20 := by
    rcases (by omega : n = 0 ∨ n = 1) with e | e <;> subst e <;> decide
  obtain ⟨l, r, hp⟩ := row_r.mp hp
  obtain ⟨p1, p2, _⟩ := Mb.get_pos hk'.pos hp
  have z1' : Sz 90 la := z1.szm hA (by decide)
  have z2' : Sz 90 ra := z2.szm hA (by decide)
  have hpl' := plc_small (m := m') (by omega)
  refine sx_seq (sx_asg (ev_getO 0 rfl (ev_var 5) (mφ_r hp)) ?_)
  refine sx_dput 0 rfl (ev_tup (K := K) (ea_cons (ev_call (ea_cons (ev_sub (ev_var 7) ev_c (rv_ixT 0 rfl rfl)) (ea_cons (ev_call (ea_cons (ev_sub (ev_var 7) ev_c (rv_ixT 1 rfl rfl)) (ea_cons (ev_tupR (K := K) (r := Rat.divInt (y - 1) y) (by rw [f1.1, f1.2]; exact ea_cons (ev_op (ev_var 3) ev_c rv_sub) (ea_cons (ev_var 3) ea_nil))) ea_nil)) ⟨ra, Fr.of (Rat.divInt (y - 1) y), z2'.mono (by decide), zf.mono (by decide), rfl, rfl⟩) ea_nil)) ⟨la, _, z1'.mono (by decide), (z2'.mul zf).mono (by decide), rfl, rfl⟩) (ea_cons (ev_call (ea_cons (ev_sub (ev_var 7) ev_c (rv_ixT 1 rfl rfl)) (ea_cons (ev_tupR (K := K) (r := Rat.divInt 1 y) (by rw [f2.1, f2.2]; exact ea_cons ev_c (ea_cons (ev_var 3) ea_nil))) ea_nil)) ⟨ra, Fr.of (Rat.divInt 1 y), z2'.mono (by decide), zg.mono (by decide), rfl, rfl⟩) ea_nil)) (show 2 ≤ 1000 by decide)) (ev_var 5) _ (fun q hq => mφ_some.mpr hq) (show m'.plc.length ≤ 100000 by omega) ?_
  have q1 : 0 < la + ra * Rat.divInt (y - 1) y := by
    have := Rat.mul_pos p2 pf
    grind
  have q2 : 0 < ra * Rat.divInt 1 y := Rat.mul_pos p2 pg
  have es : la + ra * Rat.divInt (y - 1) y + ra * Rat.divInt 1 y = la + ra := by rw [by_sum hy]; grind
  have eA : 12 * 420 ^ (n + 1) = 12 * 420 ^ n * 420 := by rw [Nat.pow_succ, Nat.mul_assoc]
  have w3 : Q (12 * 420 ^ (n + 1)) 41 (la + ra) := by rw [eA]; exact z3.up (by decide)
  have w2 : Q (12 * 420 ^ (n + 1)) 41 (ra * Rat.divInt 1 y) := by
    refine w3.le ?_ (Rat.le_of_lt q2) (by grind)
    rw [eA]
    exact (z2.mul (q420_one hy)).int
  have w1 : Q (12 * 420 ^ (n + 1)) 41 (la + ra * Rat.divInt (y - 1) y) := by
    refine w3.le ?_ (Rat.le_of_lt q1) (by grind)
    obtain ⟨k1, e1⟩ := w3.int
    obtain ⟨k2, e2⟩ := w2.int
    refine ⟨k1 - k2, ?_⟩
    rw [Rat.intCast_sub, ← e1, ← e2, ← es]
    grind
  have bb := hk'.up (V' := 213) (c := 1) (a := 420) (Nat.le_refl _) (by decide) (by decide)
  rw [Nat.mul_one, ← eA] at bb
  have cc := Mb.cnt_put (x := .r (la + ra * Rat.divInt (y - 1) y) l (ra * Rat.divInt 1 y) r) hp
  have dd := Mb.dep_put (x := .r (la + ra * Rat.divInt (y - 1) y) l (ra * Rat.divInt 1 y) r) hp
  have dp := Mb.get_dep hp
  have ec : (Mb.r (la + ra * Rat.divInt (y - 1) y) l (ra * Rat.divInt 1 y) r).cnt = (Mb.r la l ra r).cnt := rfl
  have ed : (Mb.r (la + ra * Rat.divInt (y - 1) y) l (ra * Rat.divInt 1 y) r).dep = (Mb.r la l ra r).dep := rfl
  rw [ec] at cc
  rw [ed] at dd
  refine ⟨m'.put p (.r (la + ra * Rat.divInt (y - 1) y) l (ra * Rat.divInt 1 y) r), some (.im (dC p)), some (.im (dT K [dR K la, dR K ra])), s8, bb.reR hp q1 q2 w1 w2 (by rw [es]; exact w3), by omega, by omega, fun q hq => ?_, ?_⟩
  · obtain ⟨x1, x2, e⟩ := hr' q hq
    unfold RAt
    rw [re_r hp]
    by_cases h : q = p
    · rw [if_pos h]; exact ⟨_, _, rfl⟩
    · rw [if_neg h]; exact ⟨x1, x2, e⟩
  · unfold oRw
    rw [mφ_reR hp]; rfl

/-! ### mobiles made of rows -/
theorem ev_isN {E : XS} {δ : DEnv} {ta tb : TE} {x : Dn} (h : Ev E ta δ (.ok x)) (h2 : Ev E tb δ (.ok dN)) (hx : ∀ G v, x.p G v → v ≠ .non) : Ev E (tOp (fun x y H Q => y = .non ∧ Q (.bl (decide (x = .non))) H) ta tb) δ (.ok (dB false)) := ev_op h h2 (rv_isN0 hx)
/-- room for a number's key -/
def rK (r : Rat) : List Key := [.inl r.num, .inl (r.den : Int)]
theorem rK_inj {r s : Rat} (h : rK r = rK s) : r = s := by
  unfold rK at h
  simp only [List.cons.injEq, Sum.inl.injEq, and_true] at h
  exact Rat.ext h.1 (by omega)
def oKept {K : PySem.W.Frag} {mg : Str → Option Value} (T : Top K mg) (Am : List Rat) (x : Addr) : On := ⟨fun G a o => a = x ∧ ∃ kvs : List (List Key × V), o = .dT kvs ∧ (kvs.map fun q : List Key × V => q.1).Nodup ∧ ∀ k v, (k, v) ∈ kvs → ∃ r, r ∈ Am ∧ k = rK r ∧ (dMb T (.w r)).p G v,
  fun h ⟨z, kvs, e, n, m⟩ => ⟨z, kvs, e, n, fun k v hk => by
    obtain ⟨r, h1, h2, h3⟩ := m k v hk
    exact ⟨r, h1, h2, Dn.mono _ h h3⟩⟩⟩
/-- the same, and the number r is among them -/
def oKeptH {K : PySem.W.Frag} {mg : Str → Option Value} (T : Top K mg) (Am : List Rat) (r : Rat) (x : Addr) : On := ⟨fun G a o => (oKept T Am x).p G a o ∧ ∀ kvs, o = .dT kvs → ∃ v, valV kvs (rK r) = some v, fun h ⟨z, q⟩ => ⟨On.mono _ h z, q⟩⟩
theorem valT_mem {kvs : List (List Key × V)} {k : List Key} {v : V} (h : valV kvs k = some v) : (k, v) ∈ kvs := by
  unfold valV at h
  obtain ⟨p, e, rfl⟩ := Option.map_eq_some_iff.mp h
  have h1 := List.mem_of_find?_eq_some e
  have h2 : p.1 = k := of_decide_eq_true (List.find?_some (p := fun kv : List Key × V => decide (kv.1 = k)) e)
  subst h2
  exact h1
theorem valT_none {kvs : List (List Key × V)} {k : List Key} (h : valV kvs k = none) : ¬ k ∈ kvs.map (·.1) := valV_not h
section
variable {E : XS} {δ : DEnv} {P : Post} {K : PySem.W.Frag} {mg : Str → Option Value} {tr mk : TE} {r : Rat} {Am : List Rat} {X : Addr}
theorem rd_tup {G H : Hp} {u : V} (sm : Same G H) (h : (dR K r).p G u) : ∃ b, u = .ref b ∧ H b = some (.tup ((rK r).map kV)) := by
  obtain ⟨b, e, t⟩ := h
  exact ⟨b, e, sm b _ t⟩
/-- if r not in kept: kept[r] = Weight(r) -/
theorem sx_keep (T : Top K mg) (j : Nat) (hj : δ[j]? = some (some (.ow (oKept T Am X)))) (hr : Ev E tr δ (.ok (dR K r))) (hm : Ev E mk δ (.ok (dMb T (.w r)))) (ha : r ∈ Am) (hl : Am.length ≤ 100000)
    (k : P.nx (δ.set j (some (.ow (oKeptH T Am r X))))) : Sx E (tIfS (tB (tDNotIn tr (tVar j))) (sDPut (tVar j) tr mk) tNext) δ P := fun G0 H0 G σ H D R hd =>
  hr G0 H0 G σ H _ R fun u G1 H1 g1 p1 => by
    have R1 := R.go g1
    obtain ⟨b, eb, tb⟩ := rd_tup g1.sub p1
    subst eb
    obtain ⟨a, o, e1, e2, ⟨ex, kvs, e, nd, mm⟩, e4, e5⟩ := R1.ow j _ hj
    subst e
    refine ⟨_, e1, a, valV kvs (rK r), rfl, DGet.t e2 tb, _, rfl, ?_⟩
    cases hv : valV kvs (rK r) with
    | some v =>
      refine iteF ?_
      exact hd.nx _ G1 _ _ k (R1.reown hj e1 e2 ⟨⟨ex, kvs, rfl, nd, mm⟩, fun kvs' e' => by cases e'; exact ⟨v, hv⟩⟩) g1.le
    | none =>
      refine iteT ?_
      refine hm G0 H0 G1 σ H1 _ R1 fun v G2 H2 g2 p2 => ?_
      have R2 := R1.go g2
      refine ⟨_, e1, hr G0 H0 G2 σ H2 _ R2 fun u' G3 H3 g3 p3 => ?_⟩
      have R3 := R2.go g3
      obtain ⟨b', eb', tb'⟩ := rd_tup g3.sub p3
      subst eb'
      have e2' := g3.ext a _ (g2.ext a _ e2)
      have hlen : kvs.length ≤ Am.length := by
        have h1 : ∀ k, k ∈ kvs.map (·.1) → k ∈ Am.map rK := fun k hk => by
          obtain ⟨q, hq, rfl⟩ := List.mem_map.mp hk
          obtain ⟨r', h1, h2, _⟩ := mm q.1 q.2 hq
          rw [h2]
          exact List.mem_map.mpr ⟨r', h1, rfl⟩
        have := nd_len nd h1
        rwa [List.length_map, List.length_map] at this
      have nk := valT_none hv
      refine ⟨a, _, rfl, DPut.t e2' tb' (Nat.lt_of_le_of_lt (Nat.le_trans hlen hl) (by decide)), ?_⟩
      have ep : putK kvs (rK r) v = kvs ++ [(rK r, v)] := by
        unfold putK
        rw [if_neg]
        intro z
        obtain ⟨q, hq, e⟩ := List.any_eq_true.mp z
        exact nk (List.mem_map.mpr ⟨q, hq, of_decide_eq_true e⟩)
      rw [ep]
      have l13 := Le.of (g2.le.trans g3.le)
      refine hd.nx _ G3 _ _ k (R3.mut hj e1 ⟨⟨ex, kvs ++ [(rK r, v)], rfl, ?_, fun k' v' hk => ?_⟩, fun kvs' e' => ?_⟩) (g1.le.trans (g2.le.trans g3.le))
      · rw [List.map_append]
        refine List.nodup_append.mpr ⟨nd, by simp, fun x hx y hy => ?_⟩
        have hy : y = rK r := by simpa using hy
        rintro rfl
        exact nk (hy ▸ hx)
      · rcases List.mem_append.mp hk with q | q
        · obtain ⟨r', h1, h2, h3⟩ := mm k' v' q
          exact ⟨r', h1, h2, Dn.mono _ l13 h3⟩
        · have q : (k', v') = (rK r, v) := by simpa using q
          cases q
          exact ⟨r, ha, rfl, Dn.mono _ (.of g3.le) p2⟩
      · cases e'
        cases h : valV (kvs ++ [(rK r, v)]) (rK r) with
        | some w => exact ⟨w, rfl⟩
        | none =>
          have := valT_none h
          rw [List.map_append] at this
          exact absurd (List.mem_append_right _ (by simp)) this
theorem em_kept (T : Top K mg) (j : Nat) (hj : δ[j]? = some (some (.ow (oKeptH T Am r X)))) (hr : Ev E tr δ (.ok (dR K r))) : Em E (tSubU K (tVar j) tr) δ (dMb T (.w r)) := fun G0 H0 G σ H Q R q => by
  obtain ⟨a, o, e1, e2, ⟨⟨ex, kvs, e, nd, mm⟩, pr⟩, e4, e5⟩ := R.ow j _ hj
  subst e
  obtain ⟨v, hv⟩ := pr kvs rfl
  refine .inr ⟨_, e1, hr G0 H0 G σ H _ R fun u G1 H1 g1 p1 => ?_⟩
  obtain ⟨b, eb, tb⟩ := rd_tup g1.sub p1
  subst eb
  obtain ⟨r', h1, h2, h3⟩ := mm _ _ (valT_mem hv)
  have := rK_inj h2
  subst this
  have hg := DGet.t (g1.ext a _ e2) tb
  rw [hv] at hg
  exact ⟨a, v, rfl, hg, q v G1 H1 (R.go g1) g1.le (Dn.mono _ (.of g1.le) h3)⟩
end
def SMade {K : PySem.W.Frag} {mg : Str → Option Value} (T : Top K mg) (n : Nat) : Sem' := fun ds r => ∃ (m s : Mb) (p : List Nat), Mok 2500 m ∧ m.get p = some s ∧ s.dep + 1 ≤ n ∧ ds = [dRw K m, dC p, dN] ∧ r = .ok (dMb T s)
def SMadeK {K : PySem.W.Frag} {mg : Str → Option Value} (T : Top K mg) (Am : List Rat) (n : Nat) : SemK := fun ds d => ∃ (m s : Mb) (p : List Nat), Mok 2500 m ∧ (∀ q a, m.get q = some (.w a) → a ∈ Am) ∧ Am.length ≤ 1000 ∧ m.get p = some s ∧ s.dep + 1 ≤ n ∧ ds = [dRw K m, dC p] ∧ d = dMb T s
theorem get_kid {m l n : Mb} {la ra : Rat} {p : List Nat} (h : m.get p = some (.r la l ra n)) : m.get (p ++ [108]) = some l ∧ m.get (p ++ [114]) = some n := by
  rw [Mb.get_app, Mb.get_app, h]
  exact ⟨by show (Mb.r la l ra n).get [108] = _; rw [Mb.get_l, Mb.get_nil], by show (Mb.r la l ra n).get [114] = _; rw [Mb.get_r, Mb.get_nil]⟩
theorem Mok.len {S : Nat} {m s : Mb} {p : List Nat} (h : Mok S m) (e : m.get p = some s) : p.length ≤ 63 := by have := Mb.get_dep e; have := h.dep; omega
theorem st__law_made {P : Program} {w : World} {K : PySem.W.Frag} {mg : Str → Option Value} {base : Heap} (T : Top K mg) (n : Nat) (ih : FnOk P w K mg base CX0 (n + 6) T.f__law_made T.fd__law_made ["_law_rows", "_law_place", "_law_kept"] (spDK (SMade T n) (fun i => SMadeK T i n) (oKept T))) : FnOk P w K mg base CX0 ((n + 1) + 6) T.f__law_made T.fd__law_made ["_law_rows", "_law_place", "_law_kept"] (spDK (SMade T (n + 1)) (fun i => SMadeK T i (n + 1)) (oKept T)) := by
  have e : n + 1 + 6 = (n + 6) + 1 := by omega
  rw [e]
  refine fnDK T.d__law_made.F sc__law_made (fun ds r h => by obtain ⟨m, s, p, hk, hg, hn, rfl, rfl⟩ := h; rfl) (fun i ds r h => by obtain ⟨m, s, p, hk, ham, hal, hg, hn, rfl, rfl⟩ := h; rfl) fun cdv A outer s H E hr => ?_
  have hu := hu_of hr
  have hu64 := hr.units
  refine ⟨_, pss_cons (ps_set (i := 3) sc__law_made.nd rfl (Or.inl rfl) (pe_sub hu (pv 0) (pv 1) (fun _ _ => rfl)))
      (pss_cons (ps_if (pt_cmpR (op_eqU hu64) (pe_callB call_lenV rfl T.z_len PySem.boot_len (pa_cons (pv 3) pa_nil)) pe_int (nomark _)) (pss_one (ps_ret (pe_mkC T.mk_Rod (ok_Rod___init__ T) (hr.mono (by omega)) T.o_Rod.g T.d_Rod___init__.b passL (pa_cons (pe_sub hu (pv 3) pe_int (fun _ _ => rfl)) (pa_cons (pe_cl T.d__law_made ih (hr.mono (by omega)) pass0 (pa_cons (pv 0) (pa_cons (pe_op op_addU (pv 1) pe_str) (pa_cons (pv 2) pa_nil)))) (pa_cons (pe_sub hu (pv 3) pe_int (fun _ _ => rfl)) (pa_cons (pe_cl T.d__law_made ih (hr.mono (by omega)) pass0 (pa_cons (pv 0) (pa_cons (pe_op op_addU (pv 1) pe_str) (pa_cons (pv 2) pa_nil)))) pa_nil))))))) pss_nil)
      (pss_cons (ps_if (pt_cmpR op_isN (pv 2) pe_non (nomark _)) (pss_one (ps_ret (pe_mkC T.mk_Weight (ok_Weight___init__ T) (hr.mono (by omega)) T.o_Weight.g T.d_Weight___init__.b passL (pa_cons (pe_sub hu (pv 3) pe_int (fun _ _ => rfl)) pa_nil)))) pss_nil)
      (pss_cons (ps_if (pt_cmp (pc_dnotin hu (pe_sub hu (pv 3) pe_int (fun _ _ => rfl)) (pv 2))) (pss_one (ps_dput hu (pv 2) (pe_sub hu (pv 3) pe_int (fun _ _ => rfl)) (pe_mkC T.mk_Weight (ok_Weight___init__ T) (hr.mono (by omega)) T.o_Weight.g T.d_Weight___init__.b passL (pa_cons (pe_sub hu (pv 3) pe_int (fun _ _ => rfl)) pa_nil)) rfl)) pss_nil)
      (pss_one (ps_ret (pe_sub hu (pv 2) (pe_sub hu (pv 3) pe_int (fun _ _ => rfl)) (fun _ _ => rfl))))))), ?_⟩
  refine ⟨?_, ?_⟩
  · rintro ds r ⟨m, s, p, hk, hg, hn, rfl, rfl⟩
    have hp : p.length + 1 ≤ 100000 := by have := hk.len hg; omega
    cases s with
    | r la l ra m' =>
      obtain ⟨k1, k2⟩ := get_kid hg
      obtain ⟨z1, z2⟩ := hk.arm p la l ra m' hg
      have hpos := Mb.get_pos hk.pos hg
      have z3 := hk.hft _ _ k1
      have z4 := hk.hft _ _ k2
      have d1 : l.dep + 1 ≤ n := by simp only [Mb.dep] at hn; omega
      have d2 : m'.dep + 1 ≤ n := by simp only [Mb.dep] at hn; omega
      refine sx_seq (sx_asg (ev_getD (ev_var 0) (ev_var 1) (mφ_r hg)) ?_)
      refine sx_seq (sx_yes (et_is (et_test (ev_op (ev_cb (ea_cons (ev_var 3) ea_nil) (by walk_at "hm_len")) ev_c (by walk_at "hm_eq"))) rfl) (sx_ret (ev_mkR T (ea_cons (ev_sub (ev_var 3) ev_c (by walk_at "hm_ix")) (ea_cons (ev_callD (ea_cons (ev_var 0) (ea_cons (ev_op (ev_var 1) (ev_str [108] rfl) (rv_addS hp)) (ea_cons (ev_var 2) ea_nil))) ⟨m, l, _, hk, k1, d1, rfl, rfl⟩) (ea_cons (ev_sub (ev_var 3) ev_c (by walk_at "hm_ix")) (ea_cons (ev_callD (ea_cons (ev_var 0) (ea_cons (ev_op (ev_var 1) (ev_str [114] rfl) (rv_addS hp)) (ea_cons (ev_var 2) ea_nil))) ⟨m, m', _, hk, k2, d2, rfl, rfl⟩) ea_nil)))) (z1.mono (by decide)) (z2.mono (by decide)) (z3.mono (by decide)) (z4.mono (by decide)) hpos.1 hpos.2.1) rfl))
    | w a =>
      have hpos := Mb.get_pos hk.pos hg
      have z3 := hk.hft _ _ hg
      refine sx_seq (sx_asg (ev_getD (ev_var 0) (ev_var 1) (mφ_w hg)) ?_)
      refine sx_seq (sx_no (et_is (et_test (ev_op (ev_cb (ea_cons (ev_var 3) ea_nil) (by walk_at "hm_len")) ev_c (by walk_at "hm_eq"))) rfl) (sx_nil ?_))
      exact sx_seq (sx_yes (et_test (ev_op (ev_var 2) ev_c rv_isN)) (sx_ret (ev_mkW T (ea_cons (ev_sub (ev_var 3) ev_c (by walk_at "hm_ix")) ea_nil) (z3.mono (by decide)) hpos) rfl))
  · rintro Am X ds d ⟨m, s, p, hk, ham, hal, hg, hn, rfl, rfl⟩
    have hp : p.length + 1 ≤ 100000 := by have := hk.len hg; omega
    have pin : ∀ G a o, (oKept T Am X).p G a o → a = X := fun G a o h => h.1
    cases s with
    | r la l ra m' =>
      obtain ⟨k1, k2⟩ := get_kid hg
      obtain ⟨z1, z2⟩ := hk.arm p la l ra m' hg
      have hpos := Mb.get_pos hk.pos hg
      have z3 := hk.hft _ _ k1
      have z4 := hk.hft _ _ k2
      have d1 : l.dep + 1 ≤ n := by simp only [Mb.dep] at hn; omega
      have d2 : m'.dep + 1 ≤ n := by simp only [Mb.dep] at hn; omega
      refine sx_seq (sx_asg (ev_getD (ev_var 0) (ev_var 1) (mφ_r hg)) ?_)
      refine sx_seq (sx_yes (et_is (et_test (ev_op (ev_cb (ea_cons (ev_var 3) ea_nil) (by walk_at "hm_len")) ev_c (by walk_at "hm_eq"))) rfl) (sx_retM (em_mkR T (ema_cons (em_of (ev_sub (ev_var 3) ev_c (by walk_at "hm_ix"))) (ema_cons (em_callK Am 2 rfl pin (em_of (ev_var 0)) (em_of (ev_op (ev_var 1) (ev_str [108] rfl) (rv_addS hp))) ⟨m, l, _, hk, ham, hal, k1, d1, rfl, rfl⟩) (ema_cons (em_of (ev_sub (ev_var 3) ev_c (by walk_at "hm_ix"))) (ema_cons (em_callK Am 2 rfl pin (em_of (ev_var 0)) (em_of (ev_op (ev_var 1) (ev_str [114] rfl) (rv_addS hp))) ⟨m, m', _, hk, ham, hal, k2, d2, rfl, rfl⟩) ema_nil)))) (z1.mono (by decide)) (z2.mono (by decide)) (z3.mono (by decide)) (z4.mono (by decide)) hpos.1 hpos.2.1) 2 rfl pin rfl))
    | w a =>
      have hpos := Mb.get_pos hk.pos hg
      have z3 := hk.hft _ _ hg
      refine sx_seq (sx_asg (ev_getD (ev_var 0) (ev_var 1) (mφ_w hg)) ?_)
      refine sx_seq (sx_no (et_is (et_test (ev_op (ev_cb (ea_cons (ev_var 3) ea_nil) (by walk_at "hm_len")) ev_c (by walk_at "hm_eq"))) rfl) (sx_nil ?_))
      refine sx_seq (sx_no (et_ownN 2 rfl) (sx_nil ?_))
      refine sx_seq (sx_keep T 2 rfl (ev_sub (ev_var 3) ev_c (by walk_at "hm_ix")) (ev_mkW T (ea_cons (ev_sub (ev_var 3) ev_c (by walk_at "hm_ix")) ea_nil) (z3.mono (by decide)) hpos) (ham p a hg) (by omega) ?_)
      exact sx_retM2 (em_kept T 2 rfl (ev_sub (ev_var 3) ev_c (by walk_at "hm_ix"))) 2 rfl (fun G a o h => h.1.1) (fun G a o h => h.1) rfl
theorem ok__law_made {P : Program} {w : World} {K : PySem.W.Frag} {mg : Str → Option Value} {base : Heap} (T : Top K mg) : ∀ n : Nat, FnOk P w K mg base CX0 (n + 6) T.f__law_made T.fd__law_made ["_law_rows", "_law_place", "_law_kept"] (spDK (SMade T n) (fun i => SMadeK T i n) (oKept T))
  | 0 => fnDK_vac (fun ds r h => by obtain ⟨m, s, p, hk, hg, hn, rfl, rfl⟩ := h; omega) (fun i ds r h => by obtain ⟨m, s, p, hk, ham, hal, hg, hn, rfl, rfl⟩ := h; omega)
  | n + 1 => st__law_made T n (ok__law_made T n)

/-! ### places -/
def SPlW (K : PySem.W.Frag) (cW cR : Addr) : Sem' := fun ds r => ∃ (a : Rat) (p : List Nat), ds = [dM K cW cR (.w a), dC p] ∧ r = .own (oL [dC p])
def SPlR (K : PySem.W.Frag) (cW cR : Addr) (n : Nat) : Sem' := fun ds r => ∃ (la : Rat) (l : Mb) (ra : Rat) (m : Mb) (p : List Nat), (Mb.r la l ra m).dep ≤ n ∧ p.length + n ≤ 1000 ∧ (Mb.r la l ra m).cnt ≤ 1000 ∧ ds = [dM K cW cR (.r la l ra m), dC p] ∧ r = .own (oL ((Mb.r la l ra m).plc.map fun q => dC (p ++ q)))
theorem ok_Hung_places {P : Program} {w : World} {K : PySem.W.Frag} {mg : Str → Option Value} {base : Heap} (T : Top K mg) : FnOk P w K mg base CX0 1 T.f_Hung_places T.fd_Hung_places ["self", "ahead"] (spD (SPlW K T.c_Weight T.c_Rod)) := by
  refine fn0D T.d_Hung_places.F sc_Hung_places (fun ds r h => by obtain ⟨a, p, rfl, rfl⟩ := h; rfl) fun cdv A outer s H E ds r hr h => ?_
  obtain ⟨a, p, rfl, rfl⟩ := h
  have hu := hu_of hr
  have hu64 := hr.units
  refine ⟨_, pss_one (ps_ret (pe_lst (pa_cons (pv 1) pa_nil))), ?_⟩
  exact sx_retO (eo_lst (ea_cons (ev_var 1) ea_nil) (show 1 ≤ 1000 by decide)) rfl
section
variable {E : XS} {δ : DEnv} {te : TE} {ta : TA} {E1 E2 : XK} {K : PySem.W.Frag} {mg : Str → Option Value} {n : Nat} {m s : Mb} {p : List Nat}
theorem eo_places (T : Top K mg) (h : Ev E te δ (.ok (dMb T m))) (ha : Ea E ta δ [dC p]) (hm : m.dep ≤ n) (hp : p.length + n ≤ 1000) (hc : m.cnt ≤ 1000) :
    Ev E (tAlt (tMeth T.c_Weight "places" (spD (SPlW K T.c_Weight T.c_Rod)) [] E1 te ta) (tMeth T.c_Rod "places" (spD (SPlR K T.c_Weight T.c_Rod n)) [] E2 te ta)) δ (.own (oL (m.plc.map fun q => dC (p ++ q)))) := by
  cases m with
  | w a =>
    have : ((Mb.w a).plc.map fun q => dC (p ++ q)) = [dC p] := by simp [Mb.plc]
    rw [this]
    exact ev_alt1 (eo_meth h (isC (fds := fW K a) _ _ rfl) ha ⟨a, p, rfl, rfl⟩)
  | r la l ra m => exact ev_alt2 (eo_meth h (isC (fds := fR K T.c_Weight T.c_Rod la l ra m) _ _ rfl) ha ⟨la, l, ra, m, p, hm, hp, hc, rfl, rfl⟩)
theorem eo_places0 (T : Top K mg) (h : Ev E te δ (.ok (dMb T m))) (hm : m.dep ≤ n) (hp : n ≤ 1000) (hc : m.cnt ≤ 1000) :
    Ev E (tAlt (tMeth T.c_Weight "places" (spD (SPlW K T.c_Weight T.c_Rod)) [.str (cS [])] E1 te tNil) (tMeth T.c_Rod "places" (spD (SPlR K T.c_Weight T.c_Rod n)) [.str (cS [])] E2 te tNil)) δ (.own (oL (m.plc.map fun q => dC q))) := by
  cases m with
  | w a => exact ev_alt1 (eo_methD h (isC (fds := fW K a) _ _ rfl) ea_nil ⟨a, [], rfl, rfl⟩)
  | r la l ra m => exact ev_alt2 (eo_methD h (isC (fds := fR K T.c_Weight T.c_Rod la l ra m) _ _ rfl) ea_nil ⟨la, l, ra, m, [], hm, by simpa using hp, hc, rfl, rfl⟩)
end
theorem st_Rod_places {P : Program} {w : World} {K : PySem.W.Frag} {mg : Str → Option Value} {base : Heap} (T : Top K mg) (n : Nat) (ih : FnOk P w K mg base CX0 (n + 2) T.f_Rod_places T.fd_Rod_places ["self", "ahead"] (spD ((SPlR K T.c_Weight T.c_Rod) n))) : FnOk P w K mg base CX0 ((n + 1) + 2) T.f_Rod_places T.fd_Rod_places ["self", "ahead"] (spD ((SPlR K T.c_Weight T.c_Rod) (n + 1))) := by
  have e : n + 1 + 2 = (n + 2) + 1 := by omega
  rw [e]
  refine fn0D T.d_Rod_places.F sc_Rod_places (fun ds r h => by obtain ⟨la, l, ra, m, p, hd, hp, hc, rfl, rfl⟩ := h; rfl) fun cdv A outer s H E ds r hr h => ?_
  obtain ⟨la, l, ra, m, p, hd, hp, hc, rfl, rfl⟩ := h
  have hu := hu_of hr
  have hu64 := hr.units
  refine ⟨_, pss_one (ps_ret (pe_op op_addU (pe_op op_addU (pe_lst (pa_cons (pv 1) pa_nil)) (pe_alt (pe_meth (pe_fld (pv 0) rfl) T.o_Weight.c T.k_Weight_places (ok_Hung_places T) (hr.mono (by omega)) T.d_Hung_places.b0 .nil pass0 (pa_cons (pe_op op_addU (pv 1) pe_str) pa_nil)) (pe_meth (pe_fld (pv 0) rfl) T.o_Rod.c T.k_Rod_places ih (hr.mono (by omega)) T.d_Rod_places.b0 .nil pass0 (pa_cons (pe_op op_addU (pv 1) pe_str) pa_nil)))) (pe_alt (pe_meth (pe_fld (pv 0) rfl) T.o_Weight.c T.k_Weight_places (ok_Hung_places T) (hr.mono (by omega)) T.d_Hung_places.b0 .nil pass0 (pa_cons (pe_op op_addU (pv 1) pe_str) pa_nil)) (pe_meth (pe_fld (pv 0) rfl) T.o_Rod.c T.k_Rod_places ih (hr.mono (by omega)) T.d_Rod_places.b0 .nil pass0 (pa_cons (pe_op op_addU (pv 1) pe_str) pa_nil))))), ?_⟩
  have hl : l.dep ≤ n := by simp only [Mb.dep] at hd; omega
  have hm : m.dep ≤ n := by simp only [Mb.dep] at hd; omega
  have cl : l.cnt ≤ 1000 := by simp only [Mb.cnt] at hc; omega
  have cm : m.cnt ≤ 1000 := by simp only [Mb.cnt] at hc; omega
  have ll := l.plc_len
  have lm := m.plc_len
  have f0 : ∀ {f : Str} {d : Dn} {δ : DEnv}, NoAttr K T.c_Rod f → (fR K T.c_Weight T.c_Rod la l ra m).lookup f = some d → δ[0]? = some (some (.im (dMb T (.r la l ra m)))) → Ev (fun _ => E) (tFld K (tVar 0) f) δ (.ok d) := fun hn hf h => ev_fld (C := T.c_Rod) (fds := fR K T.c_Weight T.c_Rod la l ra m) (ev_var 0 h) hf T.o_Rod.c hn
  have hs : p.length + [108].length ≤ 100000 := by simp only [List.length_singleton]; omega
  have hs' : p.length + [114].length ≤ 100000 := by simp only [List.length_singleton]; omega
  have e : ((Mb.r la l ra m).plc.map fun q => dC (p ++ q)) = [dC p] ++ (l.plc.map fun q => dC ((p ++ [108]) ++ q)) ++ (m.plc.map fun q => dC ((p ++ [114]) ++ q)) := by
    simp [Mb.plc, List.map_append, List.map_map, Function.comp_def]
  rw [e]
  refine sx_retO (eo_cat (eo_cat (eo_lst (ea_cons (ev_var 1) ea_nil) (show 1 ≤ 1000 by decide)) (eo_places T (f0 T.na_Rod_left rfl rfl) (ea_cons (ev_op (ev_var 1) (ev_str [108] rfl) (rv_addS hs)) ea_nil) hl ?_ cl) ?_) (eo_places T (f0 T.na_Rod_right rfl rfl) (ea_cons (ev_op (ev_var 1) (ev_str [114] rfl) (rv_addS hs')) ea_nil) hm ?_ cm) ?_) rfl
  · simp only [List.length_append, List.length_singleton]; omega
  · simp only [List.length_map, List.length_singleton]; omega
  · simp only [List.length_append, List.length_singleton]; omega
  · simp only [List.length_append, List.length_map, List.length_singleton]; omega
theorem ok_Rod_places {P : Program} {w : World} {K : PySem.W.Frag} {mg : Str → Option Value} {base : Heap} (T : Top K mg) : ∀ n : Nat, FnOk P w K mg base CX0 (n + 2) T.f_Rod_places T.fd_Rod_places ["self", "ahead"] (spD ((SPlR K T.c_Weight T.c_Rod) n))
  | 0 => fn_vac fun ds r h => by obtain ⟨la, l, ra, m, p, hd, hp, hc, rfl, rfl⟩ := h; first | omega | (simp only [Mb.dep] at *; omega)
  | n + 1 => st_Rod_places T n (ok_Rod_places T n)

/-! ### texts that begin, that end -/
theorem starts_iff {q p : List Nat} : PySem.Txt.startswith (cS q) (cS p) = true ↔ ∃ t, q = p ++ t := by
  unfold PySem.Txt.startswith
  rw [PySem.StrLaws.subAt_eq, cS_len, cS_len, List.drop_zero]
  have e1 : (cS q).cps.toList = q := by simp [cS]
  have e2 : (cS p).cps.toList = p := by simp [cS]
  rw [e1, e2, Bool.and_eq_true, decide_eq_true_iff, beq_iff_eq]
  constructor
  · rintro ⟨_, h⟩
    exact ⟨q.drop p.length, by conv => lhs; rw [← List.take_append_drop p.length q, h]⟩
  · rintro ⟨t, rfl⟩
    refine ⟨by simp, by simp⟩
theorem ends_one {q : List Nat} {c : Nat} : PySem.Txt.endswith (cS q) (cS [c]) = true ↔ ∃ t, q = t ++ [c] := by
  unfold PySem.Txt.endswith
  rw [PySem.StrLaws.subAt_eq, cS_len, cS_len]
  have e1 : (cS q).cps.toList = q := by simp [cS]
  have e2 : (cS [c]).cps.toList = [c] := by simp [cS]
  rw [e1, e2, Bool.and_eq_true, decide_eq_true_iff, beq_iff_eq]
  constructor
  · rintro ⟨h1, h⟩
    have hl : 1 ≤ q.length := by simpa using h1
    refine ⟨q.take (q.length - 1), ?_⟩
    have h2 : (q.drop (q.length - 1)).length = 1 := by rw [List.length_drop]; omega
    have h3 : q.drop (q.length - 1) = [c] := by
      have := h
      rw [List.length_singleton] at this
      rwa [List.take_of_length_le (by omega)] at this
    rw [← h3, List.take_append_drop]
  · rintro ⟨t, rfl⟩
    refine ⟨by simp, by simp⟩
theorem below_eq {m s : Mb} {p : List Nat} (h : m.get p = some s) : m.plc.filter (fun q => PySem.Txt.startswith (cS q) (cS p)) = s.plc.map (p ++ ·) := by
  have hs : (s.plc.map (p ++ ·)).Pairwise fun a b => a < b := by
    rw [List.pairwise_map]
    refine s.plc_sorted.imp fun {a b} l => ?_
    induction p generalizing m with
    | nil => exact l
    | cons c p ih =>
      refine List.cons_lt_cons_iff.mpr (.inr ⟨rfl, ?_⟩)
      cases m with
      | w a => cases h
      | r la l' ra m' =>
        by_cases h1 : c = 108
        · subst h1; rw [Mb.get_l] at h; exact ih h
        · by_cases h2 : c = 114
          · subst h2; rw [Mb.get_r] at h; exact ih h
          · rw [Mb.get_x h1 h2] at h; cases h
  have hf := m.plc_sorted.filter (fun q => PySem.Txt.startswith (cS q) (cS p))
  have hp : (m.plc.filter (fun q => PySem.Txt.startswith (cS q) (cS p))).Perm (s.plc.map (p ++ ·)) := by
    have nd : ∀ {L : List (List Nat)}, L.Pairwise (fun a b => a < b) → L.Nodup := fun h => h.imp fun l e => by subst e; exact List.lt_irrefl _ l
    refine (List.perm_ext_iff_of_nodup (nd hf) (nd hs)).mpr fun q => ?_
    rw [List.mem_filter, starts_iff, List.mem_map, Mb.mem_plc]
    constructor
    · rintro ⟨h1, t, rfl⟩
      rw [Mb.get_app, h] at h1
      exact ⟨t, Mb.mem_plc.mpr h1, rfl⟩
    · rintro ⟨t, h1, rfl⟩
      exact ⟨by rw [Mb.get_app, h]; exact Mb.mem_plc.mp h1, t, rfl⟩
  exact hp.eq_of_pairwise (le := fun a b => a < b) (fun a b _ _ h1 h2 => absurd (List.lt_trans h1 h2) (List.lt_irrefl _)) hf hs

/-! ### twice -/
def tw {K : PySem.W.Frag} (ab : Rat × Rat) (m : Mb) (l : List (List Nat)) : List Nat → Option Dn
  | [] => some (dPair K ab)
  | c :: p => if p ∈ l then (if c = 108 ∨ c = 114 then mφ K m p else none) else none
def STw (K : PySem.W.Frag) : Sem' := fun ds r => ∃ (m : Mb) (ab : Rat × Rat), m.cnt ≤ 1000 ∧ ds = [dRw K m, dPair K ab] ∧ r = .own (oRw K (.r ab.1 m ab.2 m))
theorem ok__law_twice {P : Program} {w : World} {K : PySem.W.Frag} {mg : Str → Option Value} {base : Heap} (T : Top K mg) : FnOk P w K mg base CX0 1 T.f__law_twice T.fd__law_twice ["_law_rows", "_law_arms_here"] (spD (STw K)) := by
  refine fn0 T.d__law_twice.F sc__law_twice (fun ds r h => by obtain ⟨m, ab, hc, rfl, rfl⟩ := h; rfl) fun cdv A outer s H E ds r hr h => ?_
  obtain ⟨m, ab, hc, rfl, rfl⟩ := h
  have hu := hu_of hr
  have hu64 := hr.units
  refine ⟨_, pss_cons (ps_set (i := 2) sc__law_twice.nd rfl (Or.inl rfl) (pe_disp (pps_cons pe_str (pv 1) pps_nil) rfl rfl (by simp) (by decide)))
      (pss_cons (ps_free (ps_for PassesOwn.never rfl (pi_keys (pv 0)) (pg_name (i := 3) sc__law_twice.nd rfl (Or.inl rfl)) (pss_cons (ps_dput hu (pv 2) (pe_op op_addU pe_str (pv 3)) (pe_sub hu (pv 0) (pv 3) (fun _ _ => rfl)) rfl)
      (pss_one (ps_dput hu (pv 2) (pe_op op_addU pe_str (pv 3)) (pe_sub hu (pv 0) (pv 3) (fun _ _ => rfl)) rfl)))))
      (pss_one (ps_ret (pv 2)))), ?_⟩
  have e0 : (fun q : List Nat => if q = [] then some (dPair K ab) else none) = tw (K := K) ab m [] := by
    funext q
    cases q with
    | nil => rfl
    | cons c p => simp [tw]
  refine sx_seq (sx_asgO (eo_disp1 (ev_str [] rfl) (ev_var 1)) ?_)
  rw [e0]
  refine sx_mid (fun δ => ∃ s3, δ = [some (.im (dRw K m)), some (.im (dPair K ab)), some (.ow (oRw K (.r ab.1 m ab.2 m))), s3]) ?_ ?_
  · refine sx_forK (φ := mφ K m) 0 rfl (fun l δ => (∀ p, p ∈ l → p ∈ m.plc) ∧ ∃ s3, δ = [some (.im (dRw K m)), some (.im (dPair K ab)), some (.ow (oFn (tw (K := K) ab m l))), s3]) ⟨fun _ h => absurd h List.not_mem_nil, none, rfl⟩ ?_ ?_
    · rintro l p δ' ⟨hl, s3, rfl⟩ hp hn
      have hm : p ∈ m.plc := mφ_some.mpr hp
      obtain ⟨d, hd⟩ := Option.isSome_iff_exists.mp hp
      have hpl : p.length ≤ 2000 := by
        have h1 := Mb.get_dep (Option.isSome_iff_exists.mp (Mb.mem_plc.mp hm)).choose_spec
        have h2 := cnt_dep (m := m)
        omega
      have hpl1 : [108].length + p.length ≤ 100000 := by simp only [List.length_singleton]; omega
      have hpl2 : [114].length + p.length ≤ 100000 := hpl1
      have hL : ∀ q, (tw (K := K) ab m l q).isSome = true → q ∈ (Mb.r ab.1 m ab.2 m).plc := fun q hq => by
        cases q with
        | nil => simp [Mb.plc]
        | cons c p' =>
          simp only [tw] at hq
          split at hq
          · rename_i h1
            split at hq
            · rename_i h2
              have := hl p' h1
              rcases h2 with rfl | rfl <;> simp [Mb.plc, this]
            · cases hq
          · cases hq
      have m1 : 108 :: p ∈ (Mb.r ab.1 m ab.2 m).plc := by simp [Mb.plc, hm]
      have m2 : 114 :: p ∈ (Mb.r ab.1 m ab.2 m).plc := by simp [Mb.plc, hm]
      have hLl : (Mb.r ab.1 m ab.2 m).plc.length ≤ 100000 := by
        have := (Mb.r ab.1 m ab.2 m).plc_len
        simp only [Mb.cnt] at this
        omega
      refine sx_seq (sx_dput (p := 108 :: p) 2 rfl (ev_getD (ev_var 0) (ev_var 3) hd) (ev_op (ev_str [108] rfl) (ev_var 3) (rv_addS hpl1)) _ hL hLl ?_)
      refine sx_dput (φ := pψ (tw (K := K) ab m l) (108 :: p) d) (p := 114 :: p) 2 rfl (ev_getD (ev_var 0) (ev_var 3) hd) (ev_op (ev_str [114] rfl) (ev_var 3) (rv_addS hpl2)) _ (pψ_dom m1 hL) hLl ⟨fun q hq => ?_, some (.im (dC p)), ?_⟩
      · rcases List.mem_append.mp hq with h | h
        · exact hl q h
        · have : q = p := by simpa using h
          rw [this]; exact hm
      · have e : tw (K := K) ab m (l ++ [p]) = pψ (pψ (tw (K := K) ab m l) (108 :: p) d) (114 :: p) d := by
          funext q
          cases q with
          | nil => simp [tw, pψ]
          | cons c p' =>
            simp only [tw, pψ, List.mem_append, List.mem_singleton, List.cons.injEq]
            by_cases e1 : p' = p
            · subst e1
              by_cases c1 : c = 108
              · subst c1; simp [hd]
              · by_cases c2 : c = 114
                · subst c2; simp [hd]
                · simp [c1, c2, hn]
            · simp [e1]
        rw [e]; rfl
    · rintro l δ' hl ⟨_, s3, rfl⟩
      refine ⟨s3, ?_⟩
      have e : tw (K := K) ab m l = mφ K (.r ab.1 m ab.2 m) := by
        funext q
        cases q with
        | nil => rfl
        | cons c p =>
          simp only [tw]
          by_cases c1 : c = 108
          · subst c1
            have : mφ K (.r ab.1 m ab.2 m) (108 :: p) = mφ K m p := by unfold mφ Mb.rowAt; rw [Mb.get_l]
            rw [this]
            by_cases h : p ∈ l
            · simp [h]
            · rw [if_neg h]
              have : ¬ (mφ K m p).isSome = true := fun z => h ((hl p).mpr z)
              exact (by simpa using this : mφ K m p = none).symm
          · by_cases c2 : c = 114
            · subst c2
              have : mφ K (.r ab.1 m ab.2 m) (114 :: p) = mφ K m p := by unfold mφ Mb.rowAt; rw [Mb.get_r]
              rw [this]
              by_cases h : p ∈ l
              · simp [h]
              · rw [if_neg h]
                have : ¬ (mφ K m p).isSome = true := fun z => h ((hl p).mpr z)
                exact (by simpa using this : mφ K m p = none).symm
            · have : mφ K (.r ab.1 m ab.2 m) (c :: p) = none := by unfold mφ Mb.rowAt; rw [Mb.get_x c1 c2]; rfl
              rw [this]
              simp [c1, c2]
      unfold oRw
      rw [← e]
  rintro _ ⟨s3, rfl⟩
  exact sx_retV 2 rfl rfl
def SEnds (K : PySem.W.Frag) : Sem' := fun ds r => ∃ h k : Int, ds = [dI h, dI k] ∧ r = .ok (dEx (PAr (big k)) (dPair K))
theorem ok__law_ends {P : Program} {w : World} {K : PySem.W.Frag} {mg : Str → Option Value} {base : Heap} (T : Top K mg) : FnOk P w K mg base CX0 4 T.f__law_ends T.fd__law_ends ["_law_head", "_law_kind"] (spD (SEnds K)) := by
  refine fn0 T.d__law_ends.F sc__law_ends (fun ds r h => by obtain ⟨h, k, rfl, rfl⟩ := h; rfl) fun cdv A outer s H E ds r hr h => ?_
  obtain ⟨h, k, rfl, rfl⟩ := h
  have hu := hu_of hr
  have hu64 := hr.units
  refine ⟨_, pss_cons (ps_set (i := 2) sc__law_ends.nd rfl (Or.inl rfl) (pe_cl T.d__law_arms (ok__law_arms T) (hr.mono (by decide)) pass0 (pa_cons (pe_op op_fdivW (pv 0) pe_int) (pa_cons (pv 1) pa_nil))))
      (pss_one (ps_ret (pe_sub hu (pe_lst (pa_cons (pv 2) (pa_cons (pe_tup (pa_cons (pe_sub hu (pv 2) pe_int (fun _ _ => rfl)) (pa_cons (pe_sub hu (pv 2) pe_int (fun _ _ => rfl)) pa_nil))) pa_nil))) (pe_op op_mod (pe_op op_fdivW (pv 0) pe_int) pe_int) (fun _ _ => rfl)))), ?_⟩
  refine sx_seq (sx_asgE (ev_call (ea_cons (ev_op (ev_var 0) ev_c (rv_div ⟨by decide, by decide +kernel⟩)) (ea_cons (ev_var 1) ea_nil)) ⟨_, _, rfl, rfl⟩) fun ab hab => ?_)
  refine sx_ret (ev_sub (ev_pubL (K := K) (eo_lst (ea_cons (ev_var 2) (ea_cons (ev_tup (K := K) (ea_cons (ev_sub (ev_var 2) ev_c (rv_ixT 0 rfl rfl)) (ea_cons (ev_sub (ev_var 2) ev_c (rv_ixT 0 rfl rfl)) ea_nil)) (show 2 ≤ 1000 by decide)) ea_nil)) (show 2 ≤ 1000 by decide))) (ev_op (ev_op (ev_var 0) ev_c (rv_div ⟨by decide, by decide +kernel⟩)) ev_c (rv_mod (by decide))) ?_) rfl
  rcases (by omega : h / 120 % 2 = 0 ∨ h / 120 % 2 = 1) with e | e
  · rw [e]; exact rv_exI ab hab (rv_ixL 0 rfl rfl)
  · have h2 : ab.1 * 840 = (ab.1 + ab.1) * ((420 : Int) : Rat) := by
      have e2 : ((420 : Int) : Rat) = 420 := rfl
      rw [e2]; grind
    rw [e]; exact rv_exI (ab.1, ab.1) ⟨hab.1, hab.1, hab.2.2.1, hab.2.2.1, hab.2.2.2.2.1, hab.2.2.2.2.1, fun _ => ⟨420, 420, h2, h2⟩⟩ (rv_ixL 1 rfl rfl)

/-! ### hefts by rows -/
def hφ (K : PySem.W.Frag) (m : Mb) : List Nat → Option Dn := fun p => (m.get p).map fun s => dR K s.heft
theorem lt_snoc (p : List Nat) (c : Nat) : p < p ++ [c] := by
  induction p with
  | nil => exact List.nil_lt_cons _ _
  | cons a p ih => exact List.cons_lt_cons_iff.mpr (.inr ⟨rfl, ih⟩)
theorem after {L : List (List Nat)} (h : L.Pairwise fun a b => a < b) {i : Nat} {p q : List Nat} (hp : L[i]? = some p) (hq : q ∈ L) (l : p < q) : q ∈ L.drop (i + 1) := by
  obtain ⟨j, hj, e⟩ := List.getElem_of_mem hq
  obtain ⟨hi, ep⟩ := List.getElem?_eq_some_iff.mp hp
  have hij : i < j := by
    rcases Nat.lt_trichotomy i j with z | z | z
    · exact z
    · subst z
      rw [ep] at e
      rw [e] at l
      exact absurd l (List.lt_irrefl _)
    · have := List.pairwise_iff_getElem.mp h j i hj hi z
      rw [e, ep] at this
      exact absurd (List.lt_trans l this) (List.lt_irrefl _)
  rw [List.mem_iff_getElem?]
  refine ⟨j - (i + 1), ?_⟩
  rw [List.getElem?_drop]
  have : i + 1 + (j - (i + 1)) = j := by omega
  rw [this, List.getElem?_eq_getElem hj, e]
def hψ (K : PySem.W.Frag) (m : Mb) (l : List (List Nat)) : List Nat → Option Dn := fun q => if q ∈ l then hφ K m q else none
theorem eo_dnewF {E : XS} {δ : DEnv} : Ev E tDNewK δ (.own (oFn fun _ => none)) := fun G0 H0 G σ H Q R q p hp => q p _ G _ (.skip (o := .dK []) R.sub hp) hp (R.sub.free hp) upd_same ⟨[], Fit.nil, [], rfl, True.intro⟩
def SHefts (K : PySem.W.Frag) : Sem' := fun ds r => ∃ m : Mb, Mok 2500 m ∧ ds = [dRw K m] ∧ r = .own (oFn (hφ K m))

/-! ### amounts -/
/-- all amounts of a mobile -/
def amts : Mb → List Rat
  | .w a => [a]
  | .r _ l _ m => amts l ++ amts m
theorem amts_mem {m : Mb} : ∀ {q : List Nat} {a : Rat}, m.get q = some (.w a) → a ∈ amts m := by
  induction m with
  | w b =>
    intro q a h
    cases q with
    | nil => cases h; exact List.mem_singleton.mpr rfl
    | cons c q => cases h
  | r la l ra m ihl ihm =>
    intro q a h
    cases q with
    | nil => cases h
    | cons c q =>
      by_cases h1 : c = 108
      · subst h1; rw [Mb.get_l] at h; exact List.mem_append_left _ (ihl h)
      · by_cases h2 : c = 114
        · subst h2; rw [Mb.get_r] at h; exact List.mem_append_right _ (ihm h)
        · rw [Mb.get_x h1 h2] at h; cases h
theorem amts_len (m : Mb) : (amts m).length = m.cnt := by
  induction m with
  | w a => rfl
  | r la l ra m ihl ihm => simp only [amts, Mb.cnt, List.length_append, ihl, ihm]
theorem ev_made0 {E : XS} {δ : DEnv} {K : PySem.W.Frag} {mg : Str → Option Value} (T : Top K mg) {E' : XK} {ta tb ti : TE} {m : Mb} {i : Int} (hk : Mok 2500 m) (h1 : Ev E ta δ (.ok (dRw K m))) (h2 : Ev E tb δ (.ok (dC []))) (h3 : Ev E ti δ (.ok (dI i))) (hi : i = 0 ∨ i = 1) :
    Ev E (tCall (spDK (SMade T 70) (fun i => SMadeK T i 70) (oKept T)) [] E' (tCons ta (tCons tb (tCons (tSubU K (tLst (tCons (tC .non) (tCons tDNewT tNil))) ti) tNil)))) δ (.ok (dMb T m)) := by
  have hd := hk.dep
  have hc := hk.cnt
  have hl := amts_len m
  exact ev_callN h1 h2 h3 hi ⟨m, m, [], hk, Mb.get_nil m, by omega, rfl, rfl⟩ (amts m) ⟨m, m, [], hk, fun q a e => amts_mem e, by omega, Mb.get_nil m, by omega, rfl, rfl⟩ fun G x => ⟨rfl, [], rfl, List.nodup_nil, fun k v h => by cases h⟩

/-! ### pulls -/
def pl1 (m : Mb) (p : List Nat) : Option (List Nat × Rat × Rat) := match m.get p with
  | some (.r la l ra n) => some (p, la * l.heft, ra * n.heft)
  | _ => none
def pls (m : Mb) : List (List Nat × Rat × Rat) := m.plc.filterMap (pl1 m)
abbrev dPl (K : PySem.W.Frag) (x : List Nat × Rat × Rat) : Dn := dT K [dC x.1, dR K x.2.1, dR K x.2.2]
def tips (m : Mb) : List (List Nat) := ((pls m).filter fun x => !decide (x.2.1 = x.2.2)).map (·.1)
theorem pls_len (m : Mb) : (pls m).length ≤ m.plc.length := List.length_filterMap_le _ _
theorem pl1_r {m l n : Mb} {p : List Nat} {la ra : Rat} (h : m.get p = some (.r la l ra n)) : pl1 m p = some (p, la * l.heft, ra * n.heft) := by unfold pl1; rw [h]
theorem pl1_w {m : Mb} {p : List Nat} {a : Rat} (h : m.get p = some (.w a)) : pl1 m p = none := by unfold pl1; rw [h]
theorem pl1_fst {m : Mb} {p : List Nat} {x : List Nat × Rat × Rat} (h : pl1 m p = some x) : x.1 = p ∧ RAt m p := by
  unfold pl1 at h
  split at h
  · rename_i la l ra n e; cases h; exact ⟨rfl, la, ra, row_r.mpr ⟨l, n, e⟩⟩
  · cases h
theorem tips_ok {m : Mb} : okL (tips m) := fun p hp => by
  obtain ⟨x, hx, rfl⟩ := List.mem_map.mp hp
  obtain ⟨q, hq, e⟩ := List.mem_filterMap.mp (List.mem_filter.mp hx).1
  rw [(pl1_fst e).1]
  exact Mb.okC_get (Mb.mem_plc.mp hq)
/-- the first, or None -/
def dHd : List (List Nat) → Dn
  | [] => dN
  | p :: _ => dC p
def SPulls {K : PySem.W.Frag} {mg : Str → Option Value} (T : Top K mg) : Sem' := fun ds r => ∃ m : Mb, Mok 2500 m ∧ ds = [dMb T m] ∧ r = .own (oL ((pls m).map (dPl K)))
theorem ok_pulls {P : Program} {w : World} {K : PySem.W.Frag} {mg : Str → Option Value} {base : Heap} (T : Top K mg) : FnOk P w K mg base (L2.CX P w) 80 T.f_pulls T.fd_pulls ["mobile"] (spD (SPulls T)) := by
  refine fnX T.d_pulls.F sc_pulls (fun ds r h => by obtain ⟨m, hk, rfl, rfl⟩ := h; rfl) fun cdv A outer s H E ds r hr h => ?_
  obtain ⟨m, hk, rfl, rfl⟩ := h
  have hu := hu_of hr
  have hu64 := hr.units
  refine ⟨_, pss_cons (ps_set (i := 1) sc_pulls.nd rfl (Or.inl rfl) (pe_lst pa_nil))
      (pss_cons (ps_for (passes_of rfl) rfl (pi_list (pe_alt (pe_meth0 (pv 0) T.o_Weight.c T.k_Weight_places (ok_Hung_places T) (hr.mono (by decide)) T.d_Hung_places.b1 T.d_Hung_places.r pass0) (pe_meth0 (pv 0) T.o_Rod.c T.k_Rod_places (ok_Rod_places T 70) (hr.mono (by decide)) T.d_Rod_places.b1 T.d_Rod_places.r pass0))) (pg_name (i := 2) sc_pulls.nd rfl (Or.inl rfl)) (pss_cons (ps_set (i := 3) sc_pulls.nd rfl (Or.inl rfl) (pe_alt (pe_meth (pv 0) T.o_Weight.c T.k_Weight_at (ok_Hung_at T) (hr.mono (by decide)) T.d_Hung_at.b .nil (passT rfl rfl rfl rfl) (pa_cons (pv 2) pa_nil)) (pe_meth (pv 0) T.o_Rod.c T.k_Rod_at (ok_Rod_at T 70) (hr.mono (by decide)) T.d_Rod_at.b .nil (passT rfl rfl rfl rfl) (pa_cons (pv 2) pa_nil))))
      (pss_one (ps_if (pt_val (pe_callB call_isiU rfl T.z_isinstance (by decide +kernel) (pa_cons (pv 3) (pa_cons (pe_glob (v := .ref T.c_Rod) rfl T.o_Rod.g rfl) pa_nil)))) (pss_cons (ps_set (i := 4) sc_pulls.nd rfl (Or.inl rfl) (pe_cl T.d_times (ok_times T) (hr.mono (by decide)) (passT rfl rfl rfl rfl) (pa_cons (pe_fld (pv 3) rfl) (pa_cons (pe_alt (pe_meth0 (pe_fld (pv 3) rfl) T.o_Weight.c T.k_Weight_heft (ok_Weight_heft T) (hr.mono (by decide)) T.d_Weight_heft.b .nil pass0) (pe_meth0 (pe_fld (pv 3) rfl) T.o_Rod.c T.k_Rod_heft (ok_Rod_heft T) (hr.mono (by decide)) T.d_Rod_heft.b .nil pass0)) pa_nil))))
      (pss_cons (ps_set (i := 5) sc_pulls.nd rfl (Or.inl rfl) (pe_cl T.d_times (ok_times T) (hr.mono (by decide)) (passT rfl rfl rfl rfl) (pa_cons (pe_fld (pv 3) rfl) (pa_cons (pe_alt (pe_meth0 (pe_fld (pv 3) rfl) T.o_Weight.c T.k_Weight_heft (ok_Weight_heft T) (hr.mono (by decide)) T.d_Weight_heft.b .nil pass0) (pe_meth0 (pe_fld (pv 3) rfl) T.o_Rod.c T.k_Rod_heft (ok_Rod_heft T) (hr.mono (by decide)) T.d_Rod_heft.b .nil pass0)) pa_nil))))
      (pss_one (ps_expr (pe_bm PySem.F.plainAttrs_list PySem.F.slot_list_append PySem.F.type_list_append mt_append (pv 1) (pa_cons (pe_tup (pa_cons (pv 2) (pa_cons (pv 4) (pa_cons (pv 5) pa_nil)))) pa_nil)))))) pss_nil))))
      (pss_one (ps_ret (pv 1)))), ?_⟩
  have hl := m.plc_len
  have hc := hk.cnt
  have hd := hk.dep
  refine sx_seq (sx_asgO (eo_lst ea_nil (by decide)) ?_)
  refine sx_mid (fun δ => ∃ s2 s3 s4 s5, δ = [some (.im (dMb T m)), some (.ow (oL ((pls m).map (dPl K)))), s2, s3, s4, s5]) ?_ ?_
  · refine sx_forL (ev_pubL (K := K) (eo_places0 T (ev_var 0) (by omega) (by decide) (by omega))) (fun n δ => ∃ s2 s3 s4 s5, δ = [some (.im (dMb T m)), some (.ow (oL (((m.plc.take n).filterMap (pl1 m)).map (dPl K)))), s2, s3, s4, s5]) ⟨none, none, none, none, rfl⟩ ?_ ?_
    rotate_left
    · rintro δ' ⟨s2, s3, s4, s5, rfl⟩
      rw [List.length_map, List.take_length]
      exact ⟨s2, s3, s4, s5, rfl⟩
    rintro n δ' d en ⟨s2, s3, s4, s5, rfl⟩
    rw [List.getElem?_map] at en
    obtain ⟨p, ep, rfl⟩ := Option.map_eq_some_iff.mp en
    have ft := fm_take (pl1 m) ep
    rw [ft]
    obtain ⟨s, hs⟩ := Option.isSome_iff_exists.mp (Mb.mem_plc.mp (List.mem_of_getElem? ep))
    have hpl := hk.len hs
    have hlen : (((m.plc.take n).filterMap (pl1 m)).map (dPl K)).length < 100000 := by
      rw [List.length_map]
      refine Nat.lt_of_le_of_lt (List.length_filterMap_le _ _) ?_
      rw [List.length_take]
      omega
    refine sx_seq (sx_asg (ev_at T (ev_var 0) (ea_cons (ev_var 2) ea_nil) (by omega) (by omega) hs) ?_)
    cases s with
    | w a =>
      refine sx_no (et_B (ev_cb (ea_cons (ev_var 3) (ea_cons ev_c ea_nil)) (rc_isRod T (m := .w a)))) (sx_nil ⟨some (.im (dC p)), some (.im (dMb T (.w a))), s4, s5, ?_⟩)
      rw [pl1_w hs]
      simp
    | r la l ra n' =>
      obtain ⟨k1, k2⟩ := get_kid hs
      obtain ⟨z1, z2⟩ := hk.arm p la l ra n' hs
      refine sx_yes (et_B (ev_cb (ea_cons (ev_var 3) (ea_cons ev_c ea_nil)) (rc_isRod T (m := .r la l ra n')))) ?_
      refine sx_seq (sx_asg (ev_call (ea_cons (ev_larm T (ev_var 3)) (ea_cons (ev_heft T (ev_left T (ev_var 3))) ea_nil)) ⟨la, l.heft, z1.mono (by decide), (hk.hft _ _ k1).mono (by decide), rfl, rfl⟩) ?_)
      refine sx_seq (sx_asg (ev_call (ea_cons (ev_rarm T (ev_var 3)) (ea_cons (ev_heft T (ev_right T (ev_var 3))) ea_nil)) ⟨ra, n'.heft, z2.mono (by decide), (hk.hft _ _ k2).mono (by decide), rfl, rfl⟩) ?_)
      refine sx_app 1 rfl (ev_tup (K := K) (ea_cons (ev_var 2) (ea_cons (ev_var 4) (ea_cons (ev_var 5) ea_nil))) (show 3 ≤ 1000 by decide)) hlen ⟨some (.im (dC p)), some (.im (dMb T (.r la l ra n'))), some (.im (dR K (la * l.heft))), some (.im (dR K (ra * n'.heft))), ?_⟩
      rw [pl1_r hs, List.map_append]
      rfl
  rintro _ ⟨s2, s3, s4, s5, rfl⟩
  exact sx_retV 1 rfl rfl
theorem tips_at {m : Mb} {n : Nat} {x : List Nat × Rat × Rat} (e : (pls m)[n]? = some x) (h : ∀ y, y ∈ (pls m).take n → y.2.1 = y.2.2) (hx : x.2.1 ≠ x.2.2) : ∃ r, tips m = x.1 :: r := by
  have e1 : pls m = (pls m).take n ++ x :: (pls m).drop (n + 1) := by
    obtain ⟨hi, eg⟩ := List.getElem?_eq_some_iff.mp e
    have := (List.take_append_drop n (pls m)).symm
    rwa [List.drop_eq_getElem_cons hi, eg] at this
  unfold tips
  rw [e1, List.filter_append, List.filter_eq_nil_iff.mpr (fun y hy => by rw [decide_eq_true (h y hy)]; decide), List.nil_append, List.filter_cons_of_pos (by rw [decide_eq_false hx]; rfl)]
  exact ⟨_, rfl⟩
def SFirst {K : PySem.W.Frag} {mg : Str → Option Value} (T : Top K mg) : Sem' := fun ds r => ∃ m : Mb, Mok 2500 m ∧ ds = [dMb T m] ∧ r = .ok (dHd (tips m))
theorem ok_first_tipping {P : Program} {w : World} {K : PySem.W.Frag} {mg : Str → Option Value} {base : Heap} (T : Top K mg) : FnOk P w K mg base (L2.CX P w) 81 T.f_first_tipping T.fd_first_tipping ["mobile"] (spD (SFirst T)) := by
  refine fnX T.d_first_tipping.F sc_first_tipping (fun ds r h => by obtain ⟨m, hk, rfl, rfl⟩ := h; rfl) fun cdv A outer s H E ds r hr h => ?_
  obtain ⟨m, hk, rfl, rfl⟩ := h
  have hu := hu_of hr
  have hu64 := hr.units
  refine ⟨_, pss_cons (ps_for (passes_of rfl) rfl (pi_list (pe_cl T.d_pulls (ok_pulls T) (hr.mono (by decide)) (passT rfl rfl rfl rfl) (pa_cons (pv 0) pa_nil))) (pg_tup rfl (pgs_cons (pg_name (i := 1) sc_first_tipping.nd rfl (Or.inl rfl)) (pgs_cons (pg_name (i := 2) sc_first_tipping.nd rfl (Or.inl rfl)) (pgs_cons (pg_name (i := 3) sc_first_tipping.nd rfl (Or.inl rfl)) pgs_nil)))) (pss_one (ps_if (pt_cmpR (op_neU hu64) (pv 2) (pv 3) (nomark _)) (pss_one (ps_ret (pv 1))) pss_nil)))
      (pss_one (ps_ret pe_non)), ?_⟩
  refine sx_mid (fun δ => (∀ y, y ∈ pls m → y.2.1 = y.2.2)) ?_ ?_
  · refine sx_forL3 (pls m) (fun x => dC x.1) (fun x => dR K x.2.1) (fun x => dR K x.2.2) (ev_pubL (K := K) (eo_call (ea_cons (ev_var 0) ea_nil) ⟨m, hk, rfl, rfl⟩)) (fun n δ => (∀ y, y ∈ (pls m).take n → y.2.1 = y.2.2) ∧ ∃ s1 s2 s3, δ = [some (.im (dMb T m)), s1, s2, s3]) ⟨fun y hy => absurd hy List.not_mem_nil, none, none, none, rfl⟩ ?_ ?_
    · rintro n δ' x en ⟨hy, s1, s2, s3, rfl⟩
      refine sx_if (et_test (ev_op (ev_var 2) (ev_var 3) rv_neR)) (fun h => ?_) (fun h => ?_)
      · have hx : x.2.1 ≠ x.2.2 := by simpa using h
        obtain ⟨r, e⟩ := tips_at en hy hx
        exact sx_ret (ev_eq (ev_var 1) (by rw [e]; rfl)) rfl
      · have hx : x.2.1 = x.2.2 := by simpa using h
        refine sx_nil ⟨fun y h => ?_, _, _, _, rfl⟩
        rw [take_snoc en] at h
        rcases List.mem_append.mp h with h | h
        · exact hy y h
        · have : y = x := by simpa using h
          rw [this]; exact hx
    · rintro δ' ⟨hy, _⟩
      rw [List.take_length] at hy
      exact hy
  intro δ' hy
  have e : tips m = [] := by
    unfold tips
    rw [List.filter_eq_nil_iff.mpr fun y h => by rw [decide_eq_true (hy y h)]; decide]
    rfl
  exact sx_ret (ev_eq ev_c (by rw [e]; rfl)) rfl
def SLevel {K : PySem.W.Frag} {mg : Str → Option Value} (T : Top K mg) : Sem' := fun ds r => ∃ m : Mb, Mok 2500 m ∧ ds = [dMb T m] ∧ r = .ok (dB (decide (tips m = [])))
theorem ok_hangs_level {P : Program} {w : World} {K : PySem.W.Frag} {mg : Str → Option Value} {base : Heap} (T : Top K mg) : FnOk P w K mg base (L2.CX P w) 82 T.f_hangs_level T.fd_hangs_level ["mobile"] (spD (SLevel T)) := by
  refine fnX T.d_hangs_level.F sc_hangs_level (fun ds r h => by obtain ⟨m, hk, rfl, rfl⟩ := h; rfl) fun cdv A outer s H E ds r hr h => ?_
  obtain ⟨m, hk, rfl, rfl⟩ := h
  have hu := hu_of hr
  have hu64 := hr.units
  refine ⟨_, pss_one (ps_ret (pe_cmpR op_isN (pe_cl T.d_first_tipping (ok_first_tipping T) (hr.mono (by decide)) (passT rfl rfl rfl rfl) (pa_cons (pv 0) pa_nil)) pe_non (nomark _))), ?_⟩
  refine sx_ret (ev_op (ev_call (ea_cons (ev_var 0) ea_nil) ⟨m, hk, rfl, rfl⟩) ev_c ?_) rfl
  cases e : tips m with
  | nil => exact rv_isN
  | cons p r =>
    rw [decide_eq_false (fun z => nomatch z)]
    exact rv_isN0 fun G v h => by
      have h : v = .str (cS p) := h
      subst h
      exact fun z => nomatch z

/-! ### the way to a place -/
theorem way {m s : Mb} {p : List Nat} {k : Nat} (h : m.get p = some s) (hk : k < p.length) : ∃ la l ra n c, m.get (p.take k) = some (.r la l ra n) ∧ p[k]? = some c ∧ ((c = 108 ∧ m.get (p.take (k + 1)) = some l) ∨ (c = 114 ∧ m.get (p.take (k + 1)) = some n)) := by
  have e1 : p = p.take k ++ p.drop k := (List.take_append_drop k p).symm
  have e2 : p.drop k = p[k] :: p.drop (k + 1) := List.drop_eq_getElem_cons hk
  have e3 : p.take (k + 1) = p.take k ++ [p[k]] := List.take_succ_eq_append_getElem hk
  have h' := h
  rw [e1, e2, Mb.get_app] at h'
  cases e : m.get (p.take k) with
  | none => rw [e] at h'; cases h'
  | some t =>
    rw [e] at h'
    have h' : t.get (p[k] :: p.drop (k + 1)) = some s := h'
    cases t with
    | w a => cases h'
    | r la l ra n =>
      refine ⟨la, l, ra, n, p[k], rfl, List.getElem?_eq_getElem hk, ?_⟩
      obtain ⟨k1, k2⟩ := get_kid e
      by_cases h1 : p[k] = 108
      · exact .inl ⟨h1, by rw [e3, h1]; exact k1⟩
      · by_cases h2 : p[k] = 114
        · exact .inr ⟨h2, by rw [e3, h2]; exact k2⟩
        · rw [Mb.get_x h1 h2] at h'; cases h'
/-! ### what is wanted -/
def wantR (m : Mb) (c : Nat) (a : Rat) : Rat := match m with
  | .r la l ra n => if c = 108 then ra * n.heft / la - (l.heft - a) else la * l.heft / ra - (n.heft - a)
  | .w _ => 0
def wantAt (m : Mb) (p : List Nat) (a : Rat) (k : Nat) : Rat := wantR ((m.get (p.take k)).getD (.w 0)) (p[k]?.getD 0) a
def wtl (m : Mb) (p : List Nat) (a : Rat) : List (List Nat × Rat) := (List.range p.length).map fun k => (p.take k, wantAt m p a k)
abbrev dWl (K : PySem.W.Frag) (L : List (List Nat × Rat)) : List Dn := L.map fun x => dT K [dC x.1, dR K x.2]
theorem ne_pos {x : Rat} (h : 0 < x) : x ≠ 0 := fun z => by subst z; exact Rat.lt_irrefl h
def SWanted {K : PySem.W.Frag} {mg : Str → Option Value} (T : Top K mg) : Sem' := fun ds r => ∃ (la : Rat) (l : Mb) (ra : Rat) (n : Mb) (c : Nat) (a : Rat), Mok 1000 (.r la l ra n) ∧ Sz 1000 a ∧ ds = [dMb T (.r la l ra n), dC [c], dR K a] ∧ r = .ok (dR K (wantR (.r la l ra n) c a))
def SWants {K : PySem.W.Frag} {mg : Str → Option Value} (T : Top K mg) : Sem' := fun ds r => ∃ (m : Mb) (p : List Nat), Mok 1000 m ∧ p.length ≤ 1000 ∧ ds = [dMb T m, dC p] ∧ ((∃ a, m.get p = some (.w a) ∧ r = .own (oL (dWl K (wtl m p a)))) ∨ ((∀ a, m.get p ≠ some (.w a)) ∧ r = .ex T.c_NoPlace))
/-! ### which rods tip, what fits -/
def STips {K : PySem.W.Frag} {mg : Str → Option Value} (T : Top K mg) : Sem' := fun ds r => ∃ m : Mb, Mok 2500 m ∧ ds = [dMb T m] ∧ r = .own (oL ((tips m).map fun p => dC p))
/-- all beginnings -/
def pre (p : List Nat) : List (List Nat) := (List.range p.length).map fun k => p.take k
def alike (L : List (List Nat × Rat)) : Option Rat := match L with
  | [] => none
  | x :: L => if ((x :: L).all fun y => decide (y.2 = x.2)) = true then some x.2 else none
def fitB (m : Mb) (p : List Nat) (a : Rat) (L : List (List Nat)) : Option Rat := if L = [] then some a else if L = pre p then alike (wtl m p a) else none
/-- None or a fraction -/
def dOp (K : PySem.W.Frag) : Option Rat → Dn
  | none => dN
  | some r => dR K r
theorem okL_pre {p : List Nat} (h : okC p = true) : okL (pre p) := fun q hq => by
  obtain ⟨k, _, rfl⟩ := List.mem_map.mp hq
  unfold okC at h ⊢
  rw [List.all_eq_true] at h ⊢
  exact fun c hc => h c (List.mem_of_mem_take hc)
def SBeside {K : PySem.W.Frag} {mg : Str → Option Value} (T : Top K mg) : Sem' := fun ds r => ∃ (m : Mb) (p : List Nat) (a : Rat) (L : List (List Nat)), Mok 1000 m ∧ m.get p = some (.w a) ∧ okL L ∧ ds = [dMb T m, dC p, dL K (L.map fun q => dC q)] ∧ r = .ok (dOp K (fitB m p a L))
def SFit {K : PySem.W.Frag} {mg : Str → Option Value} (T : Top K mg) : Sem' := fun ds r => ∃ (m : Mb) (p : List Nat), Mok 1000 m ∧ p.length ≤ 1000 ∧ ds = [dMb T m, dC p] ∧ ((∃ a, m.get p = some (.w a) ∧ r = .ok (dOp K (fitB m p a (tips m)))) ∨ ((∀ a, m.get p ≠ some (.w a)) ∧ r = .ex T.c_NoPlace))
/-! ### the shift that levels -/
def shf (la : Rat) (l : Mb) (ra : Rat) (n : Mb) : Rat := (ra * n.heft - la * l.heft) / (l.heft + n.heft)
def SShf {K : PySem.W.Frag} {mg : Str → Option Value} (T : Top K mg) : Sem' := fun ds r => ∃ (m : Mb) (p : List Nat), Mok 900 m ∧ p.length ≤ 1000 ∧ ds = [dMb T m, dC p] ∧ ((∃ la l ra n, m.get p = some (.r la l ra n) ∧ r = .ok (dR K (shf la l ra n))) ∨ ((∀ la l ra n, m.get p ≠ some (.r la l ra n)) ∧ r = .ex T.c_NoPlace))

/-! ### pulls by the rods' places -/
theorem sorted_eq {L M : List (List Nat)} (hL : L.Pairwise fun a b => a < b) (hM : M.Pairwise fun a b => a < b) (h : ∀ x, x ∈ L ↔ x ∈ M) : L = M := by
  have nd : ∀ {L : List (List Nat)}, L.Pairwise (fun a b => a < b) → L.Nodup := fun h => h.imp fun l e => by subst e; exact List.lt_irrefl _ l
  exact ((List.perm_ext_iff_of_nodup (nd hL) (nd hM)).mpr h).eq_of_pairwise (le := fun a b => a < b) (fun a b _ _ h1 h2 => absurd (List.lt_trans h1 h2) (List.lt_irrefl _)) hL hM
def plv (m : Mb) (q : List Nat) : List Nat × Rat × Rat := match m.get q with
  | some (.r la l ra n) => (q, la * l.heft, ra * n.heft)
  | _ => (q, 0, 0)
theorem plv_fst (m : Mb) (q : List Nat) : (plv m q).1 = q := by unfold plv; split <;> rfl
theorem plv_r {m l n : Mb} {q : List Nat} {la ra : Rat} (h : m.get q = some (.r la l ra n)) : plv m q = (q, la * l.heft, ra * n.heft) := by unfold plv; rw [h]
theorem pls_rpl (m : Mb) : pls m = (rpl m).map (plv m) := by
  have key : ∀ L : List (List Nat), L.filterMap (pl1 m) = (L.filter (isR m)).map (plv m) := by
    intro L
    induction L with
    | nil => rfl
    | cons q L ih =>
      rw [List.filterMap_cons, List.filter_cons]
      cases e : m.get q with
      | none =>
        have h1 : pl1 m q = none := by unfold pl1; rw [e]
        have h2 : isR m q = false := by unfold isR; rw [e]
        rw [h1, h2]; exact ih
      | some s =>
        cases s with
        | w a =>
          have h2 : isR m q = false := by unfold isR; rw [e]
          rw [pl1_w e, h2]; exact ih
        | r la l ra n =>
          have h2 : isR m q = true := by unfold isR; rw [e]
          rw [pl1_r e, h2]
          show _ :: _ = _ :: _
          rw [ih, plv_r e]
  exact key m.plc
/-- whether a rod tips -/
def tp (m : Mb) (q : List Nat) : Bool := !decide ((plv m q).2.1 = (plv m q).2.2)
theorem tips_rpl (m : Mb) : tips m = (rpl m).filter (tp m) := by
  unfold tips
  rw [pls_rpl, List.filter_map, List.map_map]
  have e : ((fun x : List Nat × Rat × Rat => x.1) ∘ plv m) = id := funext fun q => plv_fst m q
  rw [e, List.map_id]
  rfl
theorem rpl_sorted (m : Mb) : (rpl m).Pairwise fun a b => a < b := m.plc_sorted.filter _
theorem tips_sorted (m : Mb) : (tips m).Pairwise fun a b => a < b := by rw [tips_rpl]; exact (rpl_sorted m).filter _
def kd : Rw → Bool
  | .one _ => false
  | .two _ _ => true
theorem isR_row {m : Mb} {q : List Nat} : isR m q = ((m.rowAt q).map kd == some true) := by
  unfold isR Mb.rowAt
  cases m.get q with
  | none => rfl
  | some s => cases s <;> rfl
theorem shape {m m' : Mb} (h : ∀ q, (m'.rowAt q).map kd = (m.rowAt q).map kd) : m'.plc = m.plc ∧ rpl m' = rpl m := by
  have h1 : m'.plc = m.plc := sorted_eq m'.plc_sorted m.plc_sorted fun q => by
    have e : ∀ m : Mb, q ∈ m.plc ↔ ((m.rowAt q).map kd).isSome = true := fun m => by
      rw [Mb.mem_plc]
      unfold Mb.rowAt
      cases m.get q <;> simp
    rw [e, e, h]
  refine ⟨h1, ?_⟩
  show m'.plc.filter (isR m') = m.plc.filter (isR m)
  rw [h1]
  congr 1
  funext q
  rw [isR_row, isR_row, h]
theorem shape_w {m : Mb} {p : List Nat} {a b : Rat} (h : m.get p = some (.w a)) : (m.put p (.w b)).plc = m.plc ∧ rpl (m.put p (.w b)) = rpl m := shape fun q => by
  rw [re_w h]
  by_cases e : q = p
  · subst e; rw [if_pos rfl, row_w.mpr h]; rfl
  · rw [if_neg e]
theorem shape_r {m l n : Mb} {p : List Nat} {la ra la' ra' : Rat} (h : m.get p = some (.r la l ra n)) : (m.put p (.r la' l ra' n)).plc = m.plc ∧ rpl (m.put p (.r la' l ra' n)) = rpl m := shape fun q => by
  rw [re_r h]
  by_cases e : q = p
  · subst e; rw [if_pos rfl, row_r.mpr ⟨l, n, h⟩]; rfl
  · rw [if_neg e]
theorem get_pre {m s y x : Mb} {q t : List Nat} (h : m.get (q ++ t) = some s) (hy : m.get q = some y) : (m.put (q ++ t) x).get q = some (y.put t x) := by
  induction q generalizing m with
  | nil => rw [Mb.get_nil] at hy ⊢; cases hy; rfl
  | cons c q ih =>
    cases m with
    | w a => cases h
    | r la l ra n =>
      rw [List.cons_append] at h ⊢
      by_cases h1 : c = 108
      · subst h1
        rw [Mb.get_l] at h hy
        rw [Mb.put_l, Mb.get_l]
        exact ih h hy
      · by_cases h2 : c = 114
        · subst h2
          rw [Mb.get_r] at h hy
          rw [Mb.put_r, Mb.get_r]
          exact ih h hy
        · rw [Mb.get_x h1 h2] at h; cases h
/-! ### what is wanted, by the pulls -/
theorem heft_put' {m : Mb} {p : List Nat} {a b : Rat} (h : m.get p = some (.w a)) : (m.put p (.w b)).heft = m.heft - a + b := Mb.heft_put h
theorem mul_eq_iff {u x y a b : Rat} (hu : 0 < u) : y / u - (x - a) = b ↔ u * (x - a + b) = y := by
  have hu' := ne_pos hu
  constructor
  · intro h
    have e1 : y / u * u = y := Rat.div_mul_cancel hu'
    have e2 : y / u = x - a + b := by grind
    rw [← e1, e2]
    grind
  · intro h
    have e : y / u = x - a + b := by
      rw [← h, Rat.mul_comm]
      exact Rat.mul_div_cancel hu'
    rw [e]; grind
theorem want_l {la ra a b : Rat} {l n : Mb} (h : 0 < la) : wantR (.r la l ra n) 108 a = b ↔ la * (l.heft - a + b) = ra * n.heft := by
  rw [wantR, if_pos rfl]; exact mul_eq_iff h
theorem want_r {la ra a b : Rat} {l n : Mb} (h : 0 < ra) : wantR (.r la l ra n) 114 a = b ↔ la * l.heft = ra * (n.heft - a + b) := by
  rw [wantR, if_neg (by decide)]
  exact (mul_eq_iff h).trans ⟨Eq.symm, Eq.symm⟩
theorem wantAt_eq {m l n : Mb} {p : List Nat} {k c : Nat} {la ra a : Rat} (h : m.get (p.take k) = some (.r la l ra n)) (hc : p[k]? = some c) : wantAt m p a k = wantR (.r la l ra n) c a := by
  unfold wantAt; rw [h, hc]; rfl
theorem drop_get {m s t : Mb} {p : List Nat} {j : Nat} (h : m.get p = some s) (e : m.get (p.take j) = some t) : t.get (p.drop j) = some s := by
  have e1 : p = p.take j ++ p.drop j := (List.take_append_drop j p).symm
  rw [e1, Mb.get_app, e] at h
  exact h
/-- a rod on the way, behind a put -/
theorem put_on {m : Mb} {p : List Nat} {k : Nat} {a b : Rat} (hm : m.Pos) (h : m.get p = some (.w a)) (hk : k < p.length) :
    RAt m (p.take k) ∧ ((plv (m.put p (.w b)) (p.take k)).2.1 = (plv (m.put p (.w b)) (p.take k)).2.2 ↔ wantAt m p a k = b) := by
  obtain ⟨la, l, ra, n, c, h1, h2, h3⟩ := way h hk
  obtain ⟨p1, p2, _⟩ := Mb.get_pos hm h1
  refine ⟨⟨la, ra, row_r.mpr ⟨l, n, h1⟩⟩, ?_⟩
  rw [wantAt_eq h1 h2]
  have e1 : p = p.take k ++ p.drop k := (List.take_append_drop k p).symm
  have ec : p[k] = c := by rw [List.getElem?_eq_getElem hk] at h2; exact Option.some.inj h2
  have e2 : p.drop k = c :: p.drop (k + 1) := by rw [List.drop_eq_getElem_cons hk, ec]
  have hg : (m.put p (.w b)).get (p.take k) = some ((Mb.r la l ra n).put (p.drop k) (.w b)) := by
    have := get_pre (x := .w b) (q := p.take k) (t := p.drop k) (by rw [← e1]; exact h) h1
    rwa [← e1] at this
  rcases h3 with ⟨rfl, g⟩ | ⟨rfl, g⟩
  · rw [e2, Mb.put_l] at hg
    rw [plv_r hg, want_l p1]
    have := heft_put' (b := b) (drop_get h g)
    show la * (l.put (p.drop (k + 1)) (.w b)).heft = ra * n.heft ↔ _
    rw [this]
  · rw [e2, Mb.put_r] at hg
    rw [plv_r hg, want_r p2]
    have := heft_put' (b := b) (drop_get h g)
    show la * l.heft = ra * (n.put (p.drop (k + 1)) (.w b)).heft ↔ _
    rw [this]
theorem put_off {m : Mb} {p q : List Nat} {a b : Rat} (h : m.get p = some (.w a)) (hq : RAt m q) (hn : ¬ ∃ t, p = q ++ t) : plv (m.put p (.w b)) q = plv m q := by
  obtain ⟨la, ra, hq⟩ := hq
  obtain ⟨l, n, hq⟩ := row_r.mp hq
  have hs : ((m.put p (.w b)).get q).isSome = true := by
    rw [← Mb.mem_plc, (shape_w h).1, Mb.mem_plc, hq]; rfl
  obtain ⟨z, hz⟩ := Option.isSome_iff_exists.mp hs
  rcases Mb.get_put_any h hz with ⟨q', e, g⟩ | ⟨p', e, _⟩ | g
  · subst e
    rw [Mb.get_app, h] at hq
    have hq : (Mb.w a).get q' = some (.r la l ra n) := hq
    cases q' <;> cases hq
  · exact absurd ⟨p', e⟩ hn
  · unfold plv; rw [hz, g]
theorem put_way {m : Mb} {p q : List Nat} {a : Rat} (h : m.get p = some (.w a)) (hq : RAt m q) (hp : ∃ t, p = q ++ t) : ∃ k, k < p.length ∧ q = p.take k := by
  obtain ⟨t, e⟩ := hp
  refine ⟨q.length, ?_, by rw [e, List.take_left]⟩
  rw [e, List.length_append]
  cases t with
  | nil =>
    rw [List.append_nil] at e
    subst e
    obtain ⟨la, ra, hq⟩ := hq
    rw [row_w.mpr h] at hq
    cases hq
  | cons c t => rw [List.length_cons]; omega
/-- a rod on the way hangs level just where it wants what hangs there -/
theorem lev_want {m : Mb} {p : List Nat} {k : Nat} {a : Rat} (hm : m.Pos) (h : m.get p = some (.w a)) (hk : k < p.length) : RAt m (p.take k) ∧ ((plv m (p.take k)).2.1 = (plv m (p.take k)).2.2 ↔ wantAt m p a k = a) := by
  obtain ⟨la, l, ra, n, c, h1, h2, h3⟩ := way h hk
  obtain ⟨p1, p2, _⟩ := Mb.get_pos hm h1
  refine ⟨⟨la, ra, row_r.mpr ⟨l, n, h1⟩⟩, ?_⟩
  rw [wantAt_eq h1 h2, plv_r h1]
  rcases h3 with ⟨rfl, g⟩ | ⟨rfl, g⟩
  · rw [want_l p1]
    have e : l.heft - a + a = l.heft := by grind
    rw [e]
  · rw [want_r p2]
    have e : n.heft - a + a = n.heft := by grind
    rw [e]
/-! ### what fits -/
theorem lt_app {q t : List Nat} (h : t ≠ []) : q < q ++ t := by
  induction q with
  | nil =>
    cases t with
    | nil => exact absurd rfl h
    | cons c t => exact List.nil_lt_cons _ _
  | cons a q ih => exact List.cons_lt_cons_iff.mpr (.inr ⟨rfl, ih⟩)
theorem take_lt {p : List Nat} {i j : Nat} (h : i < j) (hj : j ≤ p.length) : p.take i < p.take j := by
  have e : p.take j = p.take i ++ (p.take j).drop i := by
    conv => lhs; rw [← List.take_append_drop i (p.take j)]
    rw [List.take_take, Nat.min_eq_left (by omega)]
  rw [e]
  refine lt_app fun z => ?_
  have := congrArg List.length z
  rw [List.length_drop, List.length_take] at this
  simp only [List.length_nil] at this
  omega
theorem pre_sorted (p : List Nat) : (pre p).Pairwise fun a b => a < b := by
  unfold pre
  rw [List.pairwise_map]
  refine List.pairwise_iff_getElem.mpr fun i j hi hj h => ?_
  rw [List.length_range] at hi hj
  rw [List.getElem_range, List.getElem_range]
  exact take_lt h (by omega)
theorem mem_pre {p q : List Nat} : q ∈ pre p ↔ ∃ k, k < p.length ∧ q = p.take k := by
  unfold pre
  rw [List.mem_map]
  constructor
  · rintro ⟨k, h, e⟩; exact ⟨k, List.mem_range.mp h, e.symm⟩
  · rintro ⟨k, h, e⟩; exact ⟨k, List.mem_range.mpr h, e.symm⟩
/-- the rods that tip off the way -/
def toff (m : Mb) (p : List Nat) : List (List Nat) := ((pls m).filter fun x => !decide (x.2.1 = x.2.2) && !PySem.Txt.startswith (cS p) (cS x.1)).map (·.1)
theorem toff_rpl (m : Mb) (p : List Nat) : toff m p = (tips m).filter fun q => !PySem.Txt.startswith (cS p) (cS q) := by
  unfold toff
  rw [tips_rpl, pls_rpl, List.filter_map, List.map_map]
  have e : ((fun x : List Nat × Rat × Rat => x.1) ∘ plv m) = id := funext fun q => plv_fst m q
  rw [e, List.map_id]
  generalize rpl m = R
  rw [List.filter_filter]
  congr 1
  funext q
  show (!decide ((plv m q).2.1 = (plv m q).2.2) && !PySem.Txt.startswith (cS p) (cS (plv m q).1)) = _
  rw [plv_fst, Bool.and_comm]
  rfl
/-- what is due: the first that is wanted, else what hangs there -/
def dueF (ws : List Rat) (a : Rat) : Rat := ws.head?.getD a
theorem wtl_all {m : Mb} {p : List Nat} {a : Rat} {P : Rat → Prop} : (∀ x, x ∈ (wtl m p a).map (·.2) → P x) ↔ ∀ k, k < p.length → P (wantAt m p a k) := by
  unfold wtl
  rw [List.map_map]
  constructor
  · intro h k hk
    exact h _ (List.mem_map.mpr ⟨k, List.mem_range.mpr hk, rfl⟩)
  · intro h x hx
    obtain ⟨k, hk, rfl⟩ := List.mem_map.mp hx
    exact h k (List.mem_range.mp hk)
theorem rep_iff {ws : List Rat} {d : Rat} : ws = List.replicate ws.length d ↔ ∀ x, x ∈ ws → x = d := by
  constructor
  · intro h x hx; rw [h] at hx; exact (List.mem_replicate.mp hx).2
  · intro h; exact List.eq_replicate_iff.mpr ⟨rfl, h⟩
theorem fit_eq {m : Mb} {p : List Nat} {a : Rat} (hm : m.Pos) (hg : m.get p = some (.w a)) :
    fitB m p a (tips m) = if toff m p = [] ∧ (wtl m p a).map (·.2) = List.replicate ((wtl m p a).map (·.2)).length (dueF ((wtl m p a).map (·.2)) a) then some (dueF ((wtl m p a).map (·.2)) a) else none := by
  have lev := fun k hk => lev_want (k := k) hm hg hk
  have tpk : ∀ k, k < p.length → (p.take k ∈ tips m ↔ wantAt m p a k ≠ a) := fun k hk => by
    obtain ⟨l1, l2⟩ := lev k hk
    rw [tips_rpl, List.mem_filter, mem_rpl]
    unfold tp
    rw [Bool.not_eq_true', decide_eq_false_iff_not, l2]
    exact ⟨fun h => h.2, fun h => ⟨l1, h⟩⟩
  have hws : ∀ {P : Rat → Prop}, (∀ x, x ∈ (wtl m p a).map (·.2) → P x) ↔ ∀ k, k < p.length → P (wantAt m p a k) := wtl_all
  have hrep := rep_iff (ws := (wtl m p a).map (·.2)) (d := dueF ((wtl m p a).map (·.2)) a)
  have hlen : (wtl m p a).length = p.length := by unfold wtl; rw [List.length_map, List.length_range]
  by_cases h0 : tips m = []
  · have e0 : fitB m p a (tips m) = some a := by unfold fitB; rw [if_pos h0]
    have e1 : toff m p = [] := by rw [toff_rpl, h0]; rfl
    have all : ∀ x, x ∈ (wtl m p a).map (·.2) → x = a := hws.mpr fun k hk => by
      by_cases z : wantAt m p a k = a
      · exact z
      · have := (tpk k hk).mpr z
        rw [h0] at this; cases this
    have ed : dueF ((wtl m p a).map (·.2)) a = a := by
      unfold dueF
      cases e : (wtl m p a).map (·.2) with
      | nil => rfl
      | cons x W => rw [e] at all; exact all x List.mem_cons_self
    rw [e0, ed, if_pos ⟨e1, rep_iff.mpr all⟩]
  by_cases h1 : tips m = pre p
  · have e0 : fitB m p a (tips m) = alike (wtl m p a) := by unfold fitB; rw [if_neg h0, if_pos h1]
    have e1 : toff m p = [] := by
      rw [toff_rpl, List.filter_eq_nil_iff]
      intro q hq
      rw [h1] at hq
      obtain ⟨k, hk, rfl⟩ := mem_pre.mp hq
      have := starts_iff.mpr ⟨p.drop k, (List.take_append_drop k p).symm⟩
      rw [this]; decide
    rw [e0]
    cases e : wtl m p a with
    | nil =>
      exfalso
      rw [e] at hlen
      apply h0
      rw [h1]
      unfold pre
      rw [← hlen]; rfl
    | cons x W =>
      have ed : dueF ((x :: W).map (·.2)) a = x.2 := rfl
      rw [e] at hrep
      rw [ed] at hrep ⊢
      show (if ((x :: W).all fun y => decide (y.2 = x.2)) = true then some x.2 else none) = _
      by_cases hz : ((x :: W).all fun y => decide (y.2 = x.2)) = true
      · rw [if_pos hz, if_pos ⟨e1, hrep.mpr fun y hy => by
          obtain ⟨z, hz', rfl⟩ := List.mem_map.mp hy
          exact of_decide_eq_true (List.all_eq_true.mp hz z hz')⟩]
      · rw [if_neg hz, if_neg fun h => hz (List.all_eq_true.mpr fun y hy => decide_eq_true (hrep.mp h.2 y.2 (List.mem_map.mpr ⟨y, hy, rfl⟩)))]
  · have e0 : fitB m p a (tips m) = none := by unfold fitB; rw [if_neg h0, if_neg h1]
    rw [e0, if_neg]
    rintro ⟨g1, g2⟩
    have g2 := hws.mp (hrep.mp g2)
    rw [toff_rpl, List.filter_eq_nil_iff] at g1
    have on : ∀ q, q ∈ tips m → ∃ k, k < p.length ∧ q = p.take k := fun q hq => by
      have h := g1 q hq
      have h : PySem.Txt.startswith (cS p) (cS q) = true := by simpa using h
      rw [tips_rpl] at hq
      exact put_way hg (mem_rpl.mp (List.mem_filter.mp hq).1) (starts_iff.mp h)
    obtain ⟨t, ht⟩ := List.exists_mem_of_ne_nil _ h0
    obtain ⟨k, hk, rfl⟩ := on t ht
    have w := (tpk k hk).mp ht
    rw [g2 k hk] at w
    apply h1
    refine sorted_eq (tips_sorted m) (pre_sorted p) fun q => ?_
    rw [mem_pre]
    refine ⟨on q, ?_⟩
    rintro ⟨j, hj, rfl⟩
    exact (tpk j hj).mpr (by rw [g2 j hj]; exact w)
/-! ### shifts -/
theorem shift_at {m l n : Mb} {p : List Nat} {la ra la' ra' : Rat} (h : m.get p = some (.r la l ra n)) : plv (m.put p (.r la' l ra' n)) p = (p, la' * l.heft, ra' * n.heft) := by
  have := Mb.get_put (q := []) (x := .r la' l ra' n) h
  rw [List.append_nil, Mb.get_nil] at this
  exact plv_r this
theorem shift_off {m l n : Mb} {p q : List Nat} {la ra la' ra' : Rat} (h : m.get p = some (.r la l ra n)) (hq : RAt m q) (hn : q ≠ p) : plv (m.put p (.r la' l ra' n)) q = plv m q := by
  obtain ⟨xa, ya, hr⟩ := hq
  obtain ⟨x, y, hq⟩ := row_r.mp hr
  have hr' := re_r (q := q) (la' := la') (ra' := ra') h
  rw [if_neg hn, hr] at hr'
  obtain ⟨x', y', hq'⟩ := row_r.mp hr'
  obtain ⟨k1, k2⟩ := get_kid hq
  obtain ⟨j1, j2⟩ := get_kid hq'
  have f1 := heft_r (q := q ++ [108]) (la' := la') (ra' := ra') h
  have f2 := heft_r (q := q ++ [114]) (la' := la') (ra' := ra') h
  rw [k1, j1] at f1
  rw [k2, j2] at f2
  rw [plv_r hq, plv_r hq', Option.some.inj f1, Option.some.inj f2]
theorem shf_iff {la ra f : Rat} {l n : Mb} (h : 0 < l.heft + n.heft) : (la + f) * l.heft = (ra - f) * n.heft ↔ f = shf la l ra n := by
  have hh := ne_pos h
  unfold shf
  constructor
  · intro e
    have e2 : ra * n.heft - la * l.heft = f * (l.heft + n.heft) := by grind
    rw [e2, Rat.mul_div_cancel hh]
  · intro e
    have e2 : f * (l.heft + n.heft) = ra * n.heft - la * l.heft := by rw [e, Rat.div_mul_cancel hh]
    grind
theorem shf_l {la ra : Rat} {l n : Mb} (h : 0 < l.heft + n.heft) : la + shf la l ra n = (la + ra) * (n.heft / (l.heft + n.heft)) := by
  have hh := ne_pos h
  unfold shf
  grind
theorem shf_r {la ra : Rat} {l n : Mb} (h : 0 < l.heft + n.heft) : ra - shf la l ra n = (la + ra) * (l.heft / (l.heft + n.heft)) := by
  have hh := ne_pos h
  unfold shf
  grind

/-! ### how big it gets -/
abbrev A8 : Nat := 12 * (420 * 420)
theorem a8_lt : A8 < 2 ^ 22 := by decide
/-- what is asked: n rods have grown -/
structure M8 (n : Nat) (m : Mb) : Prop where
  le : n ≤ 61
  bd : Bd (dn n * 420) 213 A8 41 m
  cnt : m.cnt ≤ 64
  dep : m.dep ≤ 63
theorem d8_lt {n : Nat} (h : n ≤ 61) : dn n * 420 < 2 ^ 609 := by
  calc dn n * 420 < 2 ^ 600 * 420 := Nat.mul_lt_mul_of_pos_right (dn61 h) (by decide)
    _ < 2 ^ 609 := by decide
theorem M8.ok {n : Nat} {m : Mb} (h : M8 n m) : Mok 900 m := h.bd.ok (d8_lt h.le) (a := 22) a8_lt h.cnt h.dep (by decide) (by decide)
theorem Tp.m8 {m : Mb} (h : Tp m) : ∃ n, M8 n m := by
  obtain ⟨n, hn, b⟩ := h.bd
  exact ⟨n, hn, b, by have := h.cnt; omega, by have := h.dep; omega⟩
theorem M8.two {n : Nat} {m : Mb} {la ra : Rat} (h : M8 n m) (hc : m.cnt ≤ 32) (h1 : 0 < la) (h2 : 0 < ra) (q1 : Q 12 40 la) (q2 : Q 12 40 ra) : M8 n (.r la m ra m) := by
  have hd := cnt_dep (m := m)
  exact ⟨h.le, h.bd.two h.bd h1 h2 ((q1.mono (by decide)).up (c := 420 * 420) (by decide)) ((q2.mono (by decide)).up (c := 420 * 420) (by decide)) ((q1.add q2).up (c := 420 * 420) (by decide)), by simp only [Mb.cnt]; omega, by simp only [Mb.dep]; omega⟩
theorem Q.pow {D V k : Nat} {x : Rat} {j : Int} (hD : 0 < D) (hk : 0 < k) (e : x * ((D * k : Nat) : Rat) = (j : Rat)) (h : j.natAbs < D * 2 ^ V) : Q (D * k) V x := ⟨j, e, Nat.lt_of_lt_of_le h (Nat.mul_le_mul_right _ (Nat.le_mul_of_pos_right _ hk))⟩
/-- a product over a third -/
theorem quoQ {A D V W d : Nat} {x y z : Rat} (hx : Q A W x) (hy : Q D V y) (hz : Q A W z) (z0 : 0 < z) (hA : A < 2 ^ d) : ∃ k, 0 < k ∧ k < A * 2 ^ W ∧ Q (D * k) (V + W + d) (x * y / z) := by
  have hAp := hx.dpos
  have hDp := hy.dpos
  obtain ⟨i, e1, l1⟩ := hx
  obtain ⟨j, e2, l2⟩ := hy
  obtain ⟨k, e3, l3⟩ := hz
  have k0 : 0 < k := by
    have : ((0 : Int) : Rat) < (k : Rat) := by
      rw [← e3]
      exact Rat.mul_pos z0 (cast_pos hAp)
    exact intCast_lt.mp this
  have ek : ((k.natAbs : Nat) : Rat) = (k : Rat) := by
    have : ((k.natAbs : Nat) : Int) = k := by omega
    have h : (((k.natAbs : Nat) : Int) : Rat) = (k : Rat) := by rw [this]
    exact h
  refine ⟨k.natAbs, by omega, l3, Q.pow hDp (by omega) (j := i * j) ?_ ?_⟩
  · have hz' := ne_pos z0
    rw [Rat.natCast_mul, ek, ← e3, Rat.intCast_mul, ← e1, ← e2]
    have e : x * y / z * ((D : Rat) * (z * (A : Rat))) = x * y / z * z * ((D : Rat) * (A : Rat)) := by grind
    rw [e, Rat.div_mul_cancel hz']
    grind
  · rw [Int.natAbs_mul]
    have b1 : i.natAbs ≤ 2 ^ d * 2 ^ W := Nat.le_of_lt (Nat.lt_of_lt_of_le l1 (Nat.mul_le_mul_right _ (Nat.le_of_lt hA)))
    calc i.natAbs * j.natAbs ≤ (2 ^ d * 2 ^ W) * j.natAbs := Nat.mul_le_mul_right _ b1
      _ < (2 ^ d * 2 ^ W) * (D * 2 ^ V) := Nat.mul_lt_mul_of_pos_left l2 (Nat.mul_pos (Nat.two_pow_pos _) (Nat.two_pow_pos _))
      _ = D * 2 ^ (V + W + d) := by
        rw [Nat.pow_add, Nat.pow_add]
        generalize 2 ^ d = a
        generalize 2 ^ W = b
        generalize 2 ^ V = c
        rw [← Nat.mul_assoc, Nat.mul_right_comm (a * b), Nat.mul_comm (a * b * c) D, Nat.mul_comm a b, Nat.mul_right_comm b a c, Nat.mul_comm b c]
/-- what is wanted is not too big -/
def PW (D : Nat) (b : Rat) : Prop := ∃ k, 0 < k ∧ k < 2 ^ 63 ∧ Q (D * k) 340 b
theorem PW.sz {D : Nat} {b : Rat} (h : PW D b) (hD : D < 2 ^ 609) : Sz 1100 b := by
  obtain ⟨k, h1, h2, h3⟩ := h
  exact h3.szm (d := 672) (by rw [show (672 : Nat) = 609 + 63 from rfl]; exact pow_mul_lt hD h2) (by decide)
theorem want_pw {n k : Nat} {m : Mb} {p : List Nat} {a : Rat} (h : M8 n m) (hg : m.get p = some (.w a)) (hk : k < p.length) : PW (dn n * 420) (wantAt m p a k) := by
  obtain ⟨la, l, ra, s, c, h1, h2, h3⟩ := way hg hk
  obtain ⟨q1, q2, _⟩ := h.bd.arm _ la ra (row_r.mpr ⟨l, s, h1⟩)
  obtain ⟨p1, p2, _⟩ := Mb.get_pos h.bd.pos h1
  obtain ⟨k1, k2⟩ := get_kid h1
  have hd := h.dep
  have y1 := (h.bd.sub k1).heft (by have := Mb.get_dep k1; omega)
  have y2 := (h.bd.sub k2).heft (by have := Mb.get_dep k2; omega)
  have ya : Q (dn n * 420) (213 + 63) a := (h.bd.wt p a (row_w.mpr hg)).mono (by decide)
  have a63 : A8 * 2 ^ 41 < 2 ^ 63 := by decide
  rw [wantAt_eq h1 h2]
  rcases h3 with ⟨rfl, g⟩ | ⟨rfl, g⟩
  · obtain ⟨j, j0, j1, jq⟩ := quoQ q2 y2 q1 p1 a8_lt
    rw [wantR, if_pos rfl]
    exact ⟨j, j0, Nat.lt_trans j1 a63, jq.sub (((y1.sub ya).up j0).mono (by decide))⟩
  · obtain ⟨j, j0, j1, jq⟩ := quoQ q1 y1 q2 p2 a8_lt
    rw [wantR, if_neg (by decide)]
    exact ⟨j, j0, Nat.lt_trans j1 a63, jq.sub (((y2.sub ya).up j0).mono (by decide))⟩
theorem am_pw {n : Nat} {b : Rat} (h : PAm b) : PW (dn n * 420) b := by
  refine ⟨1, by decide, by decide, ?_⟩
  have := (h.2.mono (V' := 340) (by decide)).up (c := 840 ^ n * 420) (Nat.mul_pos (Nat.pow_pos (by decide)) (by decide))
  rw [← Nat.mul_assoc] at this
  rw [Nat.mul_one]
  exact this
theorem M8.put {n : Nat} {m : Mb} {p : List Nat} {a b : Rat} (h : M8 n m) (hg : m.get p = some (.w a)) (hb : 0 < b) (hq : PW (dn n * 420) b) : Mok 2500 (m.put p (.w b)) := by
  obtain ⟨k, h1, h2, h3⟩ := hq
  have b1 := (h.bd.up (V' := 340) (c := k) (a := 1) (by decide) h1 (by decide)).reW hg hb h3
  have c1 := Mb.cnt_put (x := .w b) hg
  have d1 := Mb.dep_put (x := .w b) hg
  have d2 := Mb.get_dep hg
  have hc := h.cnt
  have hd := h.dep
  refine b1.ok (d := 672) (a := 22) (by rw [show (672 : Nat) = 609 + 63 from rfl]; exact pow_mul_lt (d8_lt h.le) h2) (by rw [Nat.mul_one]; exact a8_lt) ?_ ?_ (by decide) (by decide)
  · simp only [Mb.cnt] at c1; omega
  · have e2 : (Mb.w b).dep = 0 := rfl
    omega
/-- one over another -/
theorem ratio_sz {D V d : Nat} {x y : Rat} (hx : Q D V x) (hy : Q D V y) (y0 : 0 < y) (hD : D < 2 ^ d) : Sz (d + V) (x / y) := by
  have hDp := hx.dpos
  obtain ⟨i, e1, l1⟩ := hx
  obtain ⟨j, e2, l2⟩ := hy
  have j0 : 0 < j := by
    have : ((0 : Int) : Rat) < (j : Rat) := by
      rw [← e2]
      exact Rat.mul_pos y0 (cast_pos hDp)
    exact intCast_lt.mp this
  have e : x / y = Rat.divInt i j := by
    rw [Rat.divInt_eq_div, ← e1, ← e2]
    have h1 := ne_pos y0
    have h2 := cast_ne hDp
    grind
  have b : D * 2 ^ V ≤ 2 ^ (d + V) := by rw [Nat.pow_add]; exact Nat.mul_le_mul_right _ (Nat.le_of_lt hD)
  rw [e]
  exact Sz.div (by omega) (Nat.lt_of_lt_of_le l1 b) (Nat.lt_of_lt_of_le l2 b)
theorem M8.arm {n : Nat} {m l s : Mb} {p : List Nat} {la ra : Rat} (h : M8 n m) (hg : m.get p = some (.r la l ra s)) : 0 < la ∧ 0 < ra ∧ 0 < l.heft ∧ 0 < s.heft ∧ Sz 63 la ∧ Sz 63 ra ∧ Sz 63 (la + ra) := by
  obtain ⟨q1, q2, q3⟩ := h.bd.arm _ la ra (row_r.mpr ⟨l, s, hg⟩)
  obtain ⟨p1, p2, p3, p4⟩ := Mb.get_pos h.bd.pos hg
  exact ⟨p1, p2, Mb.heft_pos p3, Mb.heft_pos p4, q1.szm a8_lt (by decide), q2.szm a8_lt (by decide), q3.szm a8_lt (by decide)⟩
/-- the arms behind the shift that levels -/
theorem M8.shf {n : Nat} {m l s : Mb} {p : List Nat} {la ra : Rat} (h : M8 n m) (hg : m.get p = some (.r la l ra s)) : 0 < la + shf la l ra s ∧ 0 < ra - shf la l ra s ∧ Sz 1000 (la + shf la l ra s) ∧ Sz 1000 (ra - shf la l ra s) ∧ Sz 1012 (shf la l ra s) := by
  obtain ⟨p1, p2, p3, p4, s1, s2, s3⟩ := h.arm hg
  obtain ⟨k1, k2⟩ := get_kid hg
  have hd := h.dep
  have y1 := (h.bd.sub k1).heft (by have := Mb.get_dep k1; omega)
  have y2 := (h.bd.sub k2).heft (by have := Mb.get_dep k2; omega)
  have y3 : Q (dn n * 420) (213 + 63) (l.heft + s.heft) := (h.bd.sub hg).heft (by have := Mb.get_dep hg; omega)
  have hh : 0 < l.heft + s.heft := by grind
  have a0 : 0 < la + ra := by grind
  have t1 := ratio_sz y1 y3 hh (d8_lt h.le)
  have t2 := ratio_sz y2 y3 hh (d8_lt h.le)
  have i0 : 0 < (l.heft + s.heft)⁻¹ := Rat.inv_pos.mpr hh
  have z1 : Sz 948 (la + HM.shf la l ra s) := by rw [shf_l hh]; exact s3.mul t2
  refine ⟨?_, ?_, z1.mono (by decide), ?_, ?_⟩
  · rw [shf_l hh, Rat.div_def]; exact Rat.mul_pos a0 (Rat.mul_pos p4 i0)
  · rw [shf_r hh, Rat.div_def]; exact Rat.mul_pos a0 (Rat.mul_pos p3 i0)
  · rw [shf_r hh]; exact (s3.mul t1).mono (by decide)
  · have e : HM.shf la l ra s = la + HM.shf la l ra s - la := by grind
    rw [e]
    exact (z1.sub s1).mono (by decide)
theorem Mok.shift {S : Nat} {m l n : Mb} {p : List Nat} {la ra la' ra' : Rat} (h : Mok S m) (hg : m.get p = some (.r la l ra n)) (h1 : 0 < la') (h2 : 0 < ra') (s1 : Sz 1000 la') (s2 : Sz 1000 ra') : Mok S (m.put p (.r la' l ra' n)) := by
  obtain ⟨_, _, p3, p4⟩ := Mb.get_pos h.pos hg
  have c1 := Mb.cnt_put (x := .r la' l ra' n) hg
  have d1 := Mb.dep_put (x := .r la' l ra' n) hg
  have d2 := Mb.get_dep hg
  have hc := h.cnt
  have hd := h.dep
  refine ⟨Mb.pos_put hg h.pos ⟨h1, h2, p3, p4⟩, fun q xa x ya y e => ?_, fun q s e => ?_, ?_, ?_⟩
  · have hr := row_r.mpr ⟨x, y, e⟩
    rw [re_r hg] at hr
    split at hr
    · cases hr; exact ⟨s1, s2⟩
    · obtain ⟨x', y', e'⟩ := row_r.mp hr
      exact h.arm q _ _ _ _ e'
  · have := heft_r (q := q) (la' := la') (ra' := ra') hg
    rw [e] at this
    obtain ⟨t, ht, et⟩ := Option.map_eq_some_iff.mp this.symm
    rw [← et]
    exact h.hft q t ht
  · simp only [Mb.cnt] at c1; omega
  · simp only [Mb.dep] at d1 d2; omega

/-! ### numbers and mobiles as texts -/
/-- a fraction's text -/
def nT (q : Rat) : List Nat := if q.den = 1 then TL.numL q.num.natAbs else TL.numL q.num.natAbs ++ 47 :: TL.numL q.den
def tx : Mb → List Nat
  | .w a => nT a
  | .r la l ra m => 91 :: (nT la ++ 58 :: (tx l ++ 32 :: (nT ra ++ 58 :: (tx m ++ [93]))))
theorem num_nat {q : Rat} (h : 0 < q) : ((q.num.natAbs : Nat) : Int) = q.num ∧ 0 < q.num.natAbs := by
  have := HM.Rat.num_pos_of h
  omega
theorem nT_len {q : Rat} {k : Nat} (h : Sz (3 * k) q) (hk : 0 < k) : (nT q).length ≤ 2 * k + 1 := by
  have h1 := numL_len3 h.1 hk
  have h2 := numL_len3 h.2 hk
  unfold nT
  split
  · omega
  · rw [List.length_append, List.length_cons]; omega
theorem nT_head {q : Rat} (h : 0 < q) : ∃ c r, nT q = c :: r ∧ isD c = true ∧ c ≠ 48 := by
  obtain ⟨c, r, e, hc⟩ := numL_head (num_nat h).2
  have hd := numL_isD q.num.natAbs
  rw [e, List.all_cons, Bool.and_eq_true] at hd
  unfold nT
  rw [e]
  split
  · exact ⟨c, r, rfl, hd.1, hc⟩
  · exact ⟨c, _, rfl, hd.1, hc⟩
theorem okC_num (n : Nat) : okC (TL.numL n) = true := List.all_eq_true.mpr fun c hc => decide_eq_true (by have := TL.numL_digits n c hc; omega)
def SNumT (K : PySem.W.Frag) : Sem' := fun ds r => ∃ q : Rat, 0 < q ∧ Sz 1100 q ∧ ds = [dR K q] ∧ r = .ok (dC (nT q))

theorem ok__law_number {P : Program} {w : World} {K : PySem.W.Frag} {mg : Str → Option Value} {base : Heap} (T : Top K mg) : FnOk P w K mg base CX0 1 T.f__law_number T.fd__law_number ["_law_one"] (spD (SNumT K)) := by
  refine fn0 T.d__law_number.F sc__law_number (fun ds r h => by obtain ⟨q, h0, hq, rfl, rfl⟩ := h; rfl) fun cdv A outer s H E ds r hr h => ?_
  obtain ⟨q, h0, hq, rfl, rfl⟩ := h
  have hu := hu_of hr
  have hu64 := hr.units
  refine ⟨_, pss_cons (ps_if (pt_cmpR (op_eqU hu64) (pe_sub hu (pv 0) pe_int (fun _ _ => rfl)) pe_int (nomark _)) (pss_one (ps_ret (pe_callTy call_str_int rfl T.z_str (by decide +kernel) (pa_cons (pe_sub hu (pv 0) pe_int (fun _ _ => rfl)) pa_nil)))) pss_nil)
      (pss_one (ps_ret (pe_op op_addU (pe_op op_addU (pe_callTy call_str_int rfl T.z_str (by decide +kernel) (pa_cons (pe_sub hu (pv 0) pe_int (fun _ _ => rfl)) pa_nil)) pe_str) (pe_callTy call_str_int rfl T.z_str (by decide +kernel) (pa_cons (pe_sub hu (pv 0) pe_int (fun _ _ => rfl)) pa_nil))))), ?_⟩
  obtain ⟨e1, _⟩ := num_nat h0
  have l1 := numL_len2 hq.1 (by decide)
  have l2 := numL_len2 hq.2 (by decide)
  have s1 : (TL.numL q.num.natAbs).length + [47].length ≤ 100000 := by simp only [List.length_singleton]; omega
  have s2 : (TL.numL q.num.natAbs ++ [47]).length + (TL.numL q.den).length ≤ 100000 := by simp only [List.length_append, List.length_singleton]; omega
  have hs : ∀ {δ : DEnv}, δ[0]? = some (some (.im (dR K q))) → Ev (fun _ => E) (tCB rStrI (tCons (tSubU K (tVar 0) (tC (.int 0))) tNil)) δ (.ok (dC (TL.numL q.num.natAbs))) := fun h => by
    have h1 : Ev (fun _ => E) (tSubU K (tVar 0) (tC (.int 0))) _ (.ok (dI q.num)) := ev_sub (ev_var 0 h) ev_c rv_R0
    rw [← e1] at h1
    exact ev_cb (ea_cons h1 ea_nil) (rc_str hq.1 (by decide))
  by_cases hd : q.den = 1
  · have e : nT q = TL.numL q.num.natAbs := if_pos hd
    rw [e]
    exact sx_seq (sx_yes (et_is (et_test (ev_op (ev_sub (ev_var 0) ev_c (by walk_at "hm_ix")) ev_c (by walk_at "hm_eq"))) (decide_eq_true (by omega))) (sx_ret (hs rfl) rfl))
  · have e : nT q = (TL.numL q.num.natAbs ++ [47]) ++ TL.numL q.den := by unfold nT; rw [if_neg hd]; simp
    rw [e]
    refine sx_seq (sx_no (et_is (et_test (ev_op (ev_sub (ev_var 0) ev_c (by walk_at "hm_ix")) ev_c (by walk_at "hm_eq"))) (decide_eq_false (by omega))) (sx_nil ?_))
    exact sx_ret (ev_op (ev_op (hs rfl) (ev_str [47] rfl) (rv_addS s1)) (ev_cb (ea_cons (ev_sub (ev_var 0) ev_c (by walk_at "hm_ix")) ea_nil) (rc_str hq.2 (by decide))) (rv_addS s2)) rfl
theorem tx_len {m : Mb} (h : Mok 1100 m) : (tx m).length + 1400 ≤ 2400 * m.cnt := by
  induction m with
  | w a =>
    have h1 := nT_len (k := 367) ((h.hft [] (.w a) rfl).mono (by decide)) (by decide)
    have h2 : (nT a).length ≤ 2 * 367 + 1 := h1
    show (nT a).length + 1400 ≤ 2400 * 1
    omega
  | r la l ra m ihl ihm =>
    have a1 := ihl (h.sub (q := [108]) (by rw [Mb.get_l, Mb.get_nil]))
    have a2 := ihm (h.sub (q := [114]) (by rw [Mb.get_r, Mb.get_nil]))
    obtain ⟨z1, z2⟩ := h.arm [] la l ra m rfl
    have b1 := nT_len (k := 334) (z1.mono (by decide)) (by decide)
    have b2 := nT_len (k := 334) (z2.mono (by decide)) (by decide)
    simp only [tx, List.length_cons, List.length_append, List.length_nil, Mb.cnt]
    omega
theorem tx_len8 {m : Mb} (ha : ∀ q la l ra s, m.get q = some (.r la l ra s) → Sz 63 la ∧ Sz 63 ra) (hh : ∀ q s, m.get q = some s → Sz 900 s.heft) : (tx m).length + 100 ≤ 800 * m.cnt := by
  induction m with
  | w a =>
    have h1 := nT_len (k := 300) ((hh [] (.w a) rfl).mono (by decide)) (by decide)
    have h2 : (nT a).length ≤ 2 * 300 + 1 := h1
    show (nT a).length + 100 ≤ 800 * 1
    omega
  | r la l ra m ihl ihm =>
    have a1 := ihl (fun q la l ra s e => ha (108 :: q) la l ra s (by rw [Mb.get_l]; exact e)) (fun q s e => hh (108 :: q) s (by rw [Mb.get_l]; exact e))
    have a2 := ihm (fun q la l ra s e => ha (114 :: q) la l ra s (by rw [Mb.get_r]; exact e)) (fun q s e => hh (114 :: q) s (by rw [Mb.get_r]; exact e))
    obtain ⟨z1, z2⟩ := ha [] la l ra m rfl
    have b1 := nT_len (k := 21) z1 (by decide)
    have b2 := nT_len (k := 21) z2 (by decide)
    simp only [tx, List.length_cons, List.length_append, List.length_nil, Mb.cnt]
    omega
def SShown {K : PySem.W.Frag} {mg : Str → Option Value} (T : Top K mg) (n : Nat) : Sem' := fun ds r => ∃ m : Mb, Mok 1100 m ∧ m.dep + 1 ≤ n ∧ ds = [dMb T m] ∧ r = .ok (dC (tx m))
/-! ### read -/
/-- no figure follows -/
def nD (B : List Nat) : Prop := ∀ c r, B = c :: r → isD c = false
theorem at_mid {A d B : List Nat} {k c : Nat} (h : d[k]? = some c) : (A ++ d ++ B)[A.length + k]? = some c := by
  have hk := (List.getElem?_eq_some_iff.mp h).1
  rw [List.append_assoc, List.getElem?_append_right (by omega), Nat.add_sub_cancel_left, List.getElem?_append_left hk, h]
theorem at_end {A d B : List Nat} {c : Nat} {r : List Nat} (h : B = c :: r) : (A ++ d ++ B)[A.length + d.length]? = some c := by
  subst h
  rw [List.getElem?_append_right (by rw [List.length_append]; omega), List.length_append, Nat.sub_self]
  rfl
theorem in_figs (c : Nat) : decide (c ∈ figs) = isD c := by
  unfold figs isD
  by_cases h : 48 ≤ c ∧ c ≤ 57
  · have : c = 48 ∨ c = 49 ∨ c = 50 ∨ c = 51 ∨ c = 52 ∨ c = 53 ∨ c = 54 ∨ c = 55 ∨ c = 56 ∨ c = 57 := by omega
    rcases this with rfl | rfl | rfl | rfl | rfl | rfl | rfl | rfl | rfl | rfl <;> decide
  · have h1 : ¬ c ∈ [48, 49, 50, 51, 52, 53, 54, 55, 56, 57] := by
      simp only [List.mem_cons, List.not_mem_nil, or_false]
      omega
    rw [decide_eq_false h1]
    by_cases h2 : 48 ≤ c
    · rw [decide_eq_true h2, decide_eq_false fun h3 => h ⟨h2, h3⟩]; rfl
    · rw [decide_eq_false h2]; rfl
def SFig : Sem' := fun ds r => ∃ (l A d B : List Nat) (i : Int), l = A ++ d ++ B ∧ l.length ≤ 100000 ∧ i = (A.length : Int) ∧ d.all isD = true ∧ (∃ c t, d = c :: t ∧ c ≠ 48) ∧ nD B ∧ ds = [dC l, dI i] ∧ r = .ok (dI ((A.length + d.length : Nat) : Int))
theorem ok_figures_end {P : Program} {w : World} {K : PySem.W.Frag} {mg : Str → Option Value} {base : Heap} (T : Top K mg) : FnOk P w K mg base (L2.CX P w) 2 T.f_figures_end T.fd_figures_end ["text", "at"] (spD SFig) := by
  refine fnX T.d_figures_end.F sc_figures_end (fun ds r h => by obtain ⟨l, A, d, B, i, rfl, hl, rfl, hd, ⟨c0, t0, ed, hc0⟩, hB, rfl, rfl⟩ := h; rfl) fun cdv A outer s H E ds r hr h => ?_
  obtain ⟨l, A, d, B, i, rfl, hl, rfl, hd, ⟨c0, t0, ed, hc0⟩, hB, rfl, rfl⟩ := h
  have hu := hu_of hr
  have hu64 := hr.units
  refine ⟨_, pss_cons (ps_set (i := 2) sc_figures_end.nd rfl (Or.inl rfl) (pv 1))
      (pss_cons (ps_while (passes_of rfl) (PW.pt (pw_and (pt_cmpR op_lt (pv 2) (pe_callB call_lenV rfl T.z_len PySem.boot_len (pa_cons (pv 0) pa_nil)) (nomark _)) (pw_and1 (pt_cmpR op_inS (pe_sub hu (pv 0) (pv 2) (fun _ _ => rfl)) (pe_glob (v := .str (cS figs)) (u := .str (cS figs) T.t_FIGURES) rfl T.g_FIGURES ⟨_, rfl⟩) rfl)))) (pss_one (ps_aug (i := 2) sc_figures_end.nd rfl (Or.inl rfl) pe_int ip_add)))
      (pss_cons (ps_if (PW.pt (pw_or (pt_cmpR (op_eqU hu64) (pv 2) (pv 1) (nomark _)) (pw_or1 (pt_cmpR (op_eqU hu64) (pe_sub hu (pv 0) (pv 1) (fun _ _ => rfl)) pe_str (nomark _))))) (pss_one (ps_raise rfl (takes_of rfl rfl rfl rfl) (pmk T.x_NoText rfl))) pss_nil)
      (pss_one (ps_ret (pv 2))))), ?_⟩
  have hall := List.all_eq_true.mp hd
  have h0 : 0 < d.length := by rw [ed]; simp
  refine sx_seq (sx_asg (ev_var 1) ?_)
  refine sx_seq (sx_while (fun m δ => ∃ k, m = d.length - k ∧ k ≤ d.length ∧ δ = [some (.im (dC (A ++ d ++ B))), some (.im (dI (A.length : Int))), some (.im (dI ((A.length + k : Nat) : Int)))]) ⟨d.length, 0, rfl, Nat.zero_le _, rfl⟩ ?_)
  rintro m δ ⟨k, rfl, hk, rfl⟩
  have hlenT : (A ++ d ++ B).length = A.length + d.length + B.length := by simp only [List.length_append]
  refine ⟨decide (k < d.length), ?_, fun hb => ?_, fun hb => ?_⟩
  · by_cases h : k < d.length
    · have e := List.getElem?_eq_getElem h
      refine et_is (et_and (et_test (ev_op (ev_var 2) (ev_cb (ea_cons (ev_var 0) ea_nil) (rc_lenU (rc_lenS hl))) rv_lt)) (fun _ => (et_test (ev_op (ev_sub (ev_var 0) (ev_var 2) (rv_ixS (A.length + k) rfl hl (at_mid e))) ev_c rv_inS)))) ?_
      rw [in_figs, hall _ (List.mem_of_getElem? e), decide_eq_true h, decide_eq_true (by omega)]; rfl
    · have ek : k = d.length := by omega
      subst ek
      cases B with
      | nil =>
        refine et_is (et_and (b := true) (et_test (ev_op (ev_var 2) (ev_cb (ea_cons (ev_var 0) ea_nil) (rc_lenU (rc_lenS hl))) rv_lt)) (fun h' => ?_)) ?_
        · have := of_decide_eq_true h'
          simp only [List.length_nil] at hlenT
          omega
        · simp only [List.length_nil] at hlenT
          rw [decide_eq_false (by omega), decide_eq_false h]; rfl
      | cons c r =>
        refine et_is (et_and (et_test (ev_op (ev_var 2) (ev_cb (ea_cons (ev_var 0) ea_nil) (rc_lenU (rc_lenS hl))) rv_lt)) (fun _ => (et_test (ev_op (ev_sub (ev_var 0) (ev_var 2) (rv_ixS (A.length + d.length) rfl hl (at_end rfl))) ev_c rv_inS)))) ?_
        rw [in_figs, hB c r rfl, decide_eq_false h, Bool.and_false]
  · have h := of_decide_eq_true hb
    refine sx_aug rfl ev_c ⟨d.length - (k + 1), by omega, k + 1, rfl, by omega, ?_⟩
    have : ((A.length + k : Nat) : Int) + 1 = ((A.length + (k + 1) : Nat) : Int) := by omega
    rw [this]; rfl
  · have h := of_decide_eq_false hb
    have ek : k = d.length := by omega
    subst ek
    have e0 : (A ++ d ++ B)[A.length]? = some c0 := by
      have := at_mid (A := A) (B := B) (k := 0) (c := c0) (d := d) (by rw [ed]; rfl)
      simpa using this
    refine sx_seq (sx_no (et_is (et_or (et_test (ev_op (ev_var 2) (ev_var 1) (by walk_at "hm_eq"))) (fun _ => (et_test (ev_op (ev_sub (ev_var 0) (ev_var 1) (rv_ixS A.length rfl hl e0)) (ev_str [48] rfl) (by walk_at "hm_eq"))))) ?_) (sx_nil ?_))
    · rw [decide_eq_false (by omega), decide_eq_false (by simpa using hc0)]; rfl
    · exact sx_ret (ev_var 2) rfl
/-- neither a figure nor a stroke follows -/
def nS (B : List Nat) : Prop := ∀ c r, B = c :: r → isD c = false ∧ c ≠ 47
theorem nS.d {B : List Nat} (h : nS B) : nD B := fun c r e => (h c r e).1
theorem cut_sign {A B : List Nat} {i j : Int} (hi : i = (A.length : Int)) (hj : j = (A.length : Int) + 1) : cutL (A ++ B) (some i) (some j) = B.take 1 := by
  subst hi; subst hj
  rw [show ((A.length : Int) + 1) = ((A.length + 1 : Nat) : Int) from rfl, cut_mid, List.drop_left, Nat.add_sub_cancel_left]
section
variable {E : XS} {δ : DEnv} {K : PySem.W.Frag} {ta tb tc : TE} {A B : List Nat} {i j : Int}
theorem ev_sign (h1 : Ev E ta δ (.ok (dC (A ++ B)))) (h2 : Ev E tb δ (.ok (dI i))) (h3 : Ev E tc δ (.ok (dI j))) (hi : i = (A.length : Int)) (hj : j = (A.length : Int) + 1) (hl : (A ++ B).length ≤ 100000) : Ev E (tSl (rSlU K) ta (tPart tb) (tPart tc)) δ (.ok (dC (B.take 1))) := by
  have h := ev_slS (K := K) h1 (oo_some h2) (oo_some h3) hl
  rwa [cut_sign hi hj] at h
end
def SNumAt (K : PySem.W.Frag) : Sem' := fun ds r => ∃ (l A : List Nat) (q : Rat) (B : List Nat) (i : Int), l = A ++ nT q ++ B ∧ l.length ≤ 100000 ∧ i = (A.length : Int) ∧ 0 < q ∧ Sz 1002 q ∧ nS B ∧ ds = [dC l, dI i] ∧ r = .ok (dT K [dR K q, dI ((A.length + (nT q).length : Nat) : Int)])
theorem rat_int {q : Rat} (h : q.den = 1) : q = ((q.num : Int) : Rat) := by
  rw [int_div]
  have := self_div q
  rw [h] at this
  exact this.symm
theorem ok_number_at {P : Program} {w : World} {K : PySem.W.Frag} {mg : Str → Option Value} {base : Heap} (T : Top K mg) : FnOk P w K mg base (L2.CX P w) 3 T.f_number_at T.fd_number_at ["text", "at"] (spD (SNumAt K)) := by
  refine fnX T.d_number_at.F sc_number_at (fun ds r h => by obtain ⟨l, A, q, B, i, rfl, hl, rfl, h0, hq, hB, rfl, rfl⟩ := h; rfl) fun cdv A outer s H E ds r hr h => ?_
  obtain ⟨l, A, q, B, i, rfl, hl, rfl, h0, hq, hB, rfl, rfl⟩ := h
  have hu := hu_of hr
  have hu64 := hr.units
  refine ⟨_, pss_cons (ps_set (i := 2) sc_number_at.nd rfl (Or.inl rfl) (pe_cl T.d_figures_end (ok_figures_end T) (hr.mono (by decide)) (passT rfl rfl rfl rfl) (pa_cons (pv 0) (pa_cons (pv 1) pa_nil))))
      (pss_cons (ps_set (i := 3) sc_number_at.nd rfl (Or.inl rfl) (pe_callTy call_int_str rfl T.z_int (by decide +kernel) (pa_cons (pe_slice sl_U (pv 0) (po_some (pv 1)) (po_some (pv 2))) pa_nil)))
      (pss_cons (ps_if (pt_cmpR (op_neU hu64) (pe_slice sl_U (pv 0) (po_some (pv 2)) (po_some (pe_op op_addU (pv 2) pe_int))) pe_str (nomark _)) (pss_one (ps_ret (pe_tup (pa_cons (pe_tup (pa_cons (pv 3) (pa_cons pe_int pa_nil))) (pa_cons (pv 2) pa_nil))))) pss_nil)
      (pss_cons (ps_set (i := 4) sc_number_at.nd rfl (Or.inl rfl) (pe_cl T.d_figures_end (ok_figures_end T) (hr.mono (by decide)) (passT rfl rfl rfl rfl) (pa_cons (pv 0) (pa_cons (pe_op op_addU (pv 2) pe_int) pa_nil))))
      (pss_cons (ps_set (i := 5) sc_number_at.nd rfl (Or.inl rfl) (pe_callTy call_int_str rfl T.z_int (by decide +kernel) (pa_cons (pe_slice sl_U (pv 0) (po_some (pe_op op_addU (pv 2) pe_int)) (po_some (pv 4))) pa_nil)))
      (pss_cons (ps_if (PW.pt (pw_or (pt_cmpR (op_eqU hu64) (pv 5) pe_int (nomark _)) (pw_or1 (pt_cmpR op_gt (pe_cl T.d_divisor (ok_divisor T) (hr.mono (by decide)) pass0 (pa_cons (pv 3) (pa_cons (pv 5) pa_nil))) pe_int (nomark _))))) (pss_one (ps_raise rfl (takes_of rfl rfl rfl rfl) (pmk T.x_NoText rfl))) pss_nil)
      (pss_one (ps_ret (pe_tup (pa_cons (pe_tup (pa_cons (pv 3) (pa_cons (pv 5) pa_nil))) (pa_cons (pv 4) pa_nil)))))))))), ?_⟩
  obtain ⟨e1, p1⟩ := num_nat h0
  have l1 := numL_len3 (k := 334) hq.1 (by decide)
  have l2 := numL_len3 (k := 334) hq.2 (by decide)
  obtain ⟨c1, t1, ec1, hc1⟩ := numL_head p1
  by_cases hd : q.den = 1
  · have e : nT q = TL.numL q.num.natAbs := if_pos hd
    rw [e] at hl ⊢
    refine sx_seq (sx_asg (ev_call (ea_cons (ev_var 0) (ea_cons (ev_var 1) ea_nil)) ⟨_, A, TL.numL q.num.natAbs, B, _, rfl, hl, rfl, numL_isD _, ⟨c1, t1, ec1, hc1⟩, hB.d, rfl, rfl⟩) ?_)
    have hs : ∀ {δ : DEnv}, δ[0]? = some (some (.im (dC (A ++ TL.numL q.num.natAbs ++ B)))) → δ[1]? = some (some (.im (dI (A.length : Int)))) → δ[2]? = some (some (.im (dI ((A.length + (TL.numL q.num.natAbs).length : Nat) : Int)))) → Ev (fun _ => E) (tSl (rSlU K) (tVar 0) (tPart (tVar 1)) (tPart (tVar 2))) δ (.ok (dC (TL.numL q.num.natAbs))) := fun h1 h2 h3 => by
      have h := ev_slS (K := K) (ev_var (E := fun _ => E) 0 h1) (oo_some (ev_var 1 h2)) (oo_some (ev_var 2 h3)) hl
      rwa [cut_piece rfl rfl] at h
    refine sx_seq (sx_asg (ev_cb (ea_cons (hs rfl rfl rfl) ea_nil) (rc_int (numL_isD _) (TL.numL_ne _) (by omega))) ?_)
    rw [TL.numL_val, e1]
    have hsg := ev_sign (E := fun _ => E) (K := K) (A := A ++ TL.numL q.num.natAbs) (B := B) (ta := tVar 0) (tb := tVar 2) (tc := tOp rAddU (tVar 2) (tC (.int 1))) (δ := [some (.im (dC (A ++ TL.numL q.num.natAbs ++ B))), some (.im (dI (A.length : Int))), some (.im (dI ((A.length + (TL.numL q.num.natAbs).length : Nat) : Int))), some (.im (dI q.num)), none, none]) (ev_var 0) (ev_var 2) (ev_op (ev_var 2) ev_c rv_add) (by rw [List.length_append]) (by rw [List.length_append]) hl
    refine sx_seq (sx_yes (et_is (et_test (ev_op hsg (ev_str [47] rfl) (by walk_at "hm_ne"))) ?_) ?_)
    · cases B with
      | nil => rfl
      | cons c r =>
        have := (hB c r rfl).2
        simp [this]
    · refine sx_ret (ev_tup (ea_cons (ev_eq (ev_int (ea_cons (ev_var 3) (ea_cons ev_c ea_nil))) (by rw [← rat_int hd])) (ea_cons (ev_var 2) ea_nil)) (show 2 ≤ 1000 by decide)) rfl
  · have e : nT q = TL.numL q.num.natAbs ++ 47 :: TL.numL q.den := if_neg hd
    rw [e] at hl ⊢
    have hden : 0 < q.den := q.den_pos
    obtain ⟨c2, t2, ec2, hc2⟩ := numL_head hden
    have r1 : A ++ (TL.numL q.num.natAbs ++ 47 :: TL.numL q.den) ++ B = A ++ TL.numL q.num.natAbs ++ (47 :: (TL.numL q.den ++ B)) := by simp
    have r2 : A ++ (TL.numL q.num.natAbs ++ 47 :: TL.numL q.den) ++ B = (A ++ TL.numL q.num.natAbs ++ [47]) ++ TL.numL q.den ++ B := by simp
    have n47 : nD (47 :: (TL.numL q.den ++ B)) := fun c r h => by cases h; decide
    refine sx_seq (sx_asg (ev_call (ea_cons (ev_var 0) (ea_cons (ev_var 1) ea_nil)) ⟨_, A, TL.numL q.num.natAbs, 47 :: (TL.numL q.den ++ B), _, r1, hl, rfl, numL_isD _, ⟨c1, t1, ec1, hc1⟩, n47, rfl, rfl⟩) ?_)
    have hs : ∀ {δ : DEnv}, δ[0]? = some (some (.im (dC (A ++ (TL.numL q.num.natAbs ++ 47 :: TL.numL q.den) ++ B)))) → δ[1]? = some (some (.im (dI (A.length : Int)))) → δ[2]? = some (some (.im (dI ((A.length + (TL.numL q.num.natAbs).length : Nat) : Int)))) → Ev (fun _ => E) (tSl (rSlU K) (tVar 0) (tPart (tVar 1)) (tPart (tVar 2))) δ (.ok (dC (TL.numL q.num.natAbs))) := fun h1 h2 h3 => by
      have h := ev_slS (K := K) (ev_var (E := fun _ => E) 0 h1) (oo_some (ev_var 1 h2)) (oo_some (ev_var 2 h3)) hl
      rwa [r1, cut_piece rfl rfl] at h
    refine sx_seq (sx_asg (ev_cb (ea_cons (hs rfl rfl rfl) ea_nil) (rc_int (numL_isD _) (TL.numL_ne _) (by omega))) ?_)
    rw [TL.numL_val, e1]
    have hl2 : (A ++ TL.numL q.num.natAbs ++ (47 :: (TL.numL q.den ++ B))).length ≤ 100000 := by rw [← r1]; exact hl
    have h0v : ∀ {δ : DEnv}, δ[0]? = some (some (.im (dC (A ++ (TL.numL q.num.natAbs ++ 47 :: TL.numL q.den) ++ B)))) → Ev (fun _ => E) (tVar 0) δ (.ok (dC (A ++ TL.numL q.num.natAbs ++ (47 :: (TL.numL q.den ++ B))))) := fun h => by rw [← r1]; exact ev_var 0 h
    have hsg := ev_sign (E := fun _ => E) (K := K) (A := A ++ TL.numL q.num.natAbs) (B := 47 :: (TL.numL q.den ++ B)) (ta := tVar 0) (tb := tVar 2) (tc := tOp rAddU (tVar 2) (tC (.int 1))) (δ := [some (.im (dC (A ++ (TL.numL q.num.natAbs ++ 47 :: TL.numL q.den) ++ B))), some (.im (dI (A.length : Int))), some (.im (dI ((A.length + (TL.numL q.num.natAbs).length : Nat) : Int))), some (.im (dI q.num)), none, none]) (h0v rfl) (ev_var 2) (ev_op (ev_var 2) ev_c rv_add) (by rw [List.length_append]) (by rw [List.length_append]) hl2
    refine sx_seq (sx_no (et_is (et_test (ev_op hsg (ev_str [47] rfl) (by walk_at "hm_ne"))) (by simp)) (sx_nil ?_))
    have j1 : ((A.length + (TL.numL q.num.natAbs).length : Nat) : Int) + 1 = ((A ++ TL.numL q.num.natAbs ++ [47]).length : Int) := by simp only [List.length_append, List.length_singleton]; omega
    refine sx_seq (sx_asg (ev_call (ea_cons (ev_var 0) (ea_cons (ev_op (ev_var 2) ev_c (by walk_at "hm_add")) ea_nil)) ⟨_, A ++ TL.numL q.num.natAbs ++ [47], TL.numL q.den, B, _, r2, hl, j1, numL_isD _, ⟨c2, t2, ec2, hc2⟩, hB.d, rfl, rfl⟩) ?_)
    have hs2 : ∀ {δ : DEnv}, δ[0]? = some (some (.im (dC (A ++ (TL.numL q.num.natAbs ++ 47 :: TL.numL q.den) ++ B)))) → δ[2]? = some (some (.im (dI ((A.length + (TL.numL q.num.natAbs).length : Nat) : Int)))) → δ[4]? = some (some (.im (dI (((A ++ TL.numL q.num.natAbs ++ [47]).length + (TL.numL q.den).length : Nat) : Int)))) → Ev (fun _ => E) (tSl (rSlU K) (tVar 0) (tPart (tOp rAddU (tVar 2) (tC (.int 1)))) (tPart (tVar 4))) δ (.ok (dC (TL.numL q.den))) := fun h1 h2 h3 => by
      have h := ev_slS (K := K) (ev_var (E := fun _ => E) 0 h1) (oo_some (ev_op (ev_var 2 h2) ev_c (rv_add (j := 1)))) (oo_some (ev_var 4 h3)) hl
      rwa [r2, cut_piece j1 rfl] at h
    refine sx_seq (sx_asg (ev_cb (ea_cons (hs2 rfl rfl rfl) ea_nil) (rc_int (numL_isD _) (TL.numL_ne _) (by omega))) ?_)
    rw [TL.numL_val]
    have hg : Nat.gcd q.num.natAbs q.den = 1 := q.reduced
    have h3v : ∀ {δ : DEnv}, δ[3]? = some (some (.im (dI q.num))) → Ev (fun _ => E) (tVar 3) δ (.ok (dI ((q.num.natAbs : Nat) : Int))) := fun h => by rw [e1]; exact ev_var 3 h
    refine sx_seq (sx_no (et_is (et_or (et_test (ev_op (ev_var 5) ev_c (by walk_at "hm_eq"))) (fun _ => (et_test (ev_op (ev_call (ea_cons (h3v rfl) (ea_cons (ev_var 5) ea_nil)) ⟨_, _, rfl, rfl⟩) ev_c rv_gt)))) ?_) (sx_nil ?_))
    · rw [hg, decide_eq_false (by omega)]; rfl
    · refine sx_ret (ev_eq (ev_tup (K := K) (ea_cons (ev_tupR (K := K) (ea_cons (ev_var 3) (ea_cons (ev_var 5) ea_nil))) (ea_cons (ev_var 4) ea_nil)) (show 2 ≤ 1000 by decide)) ?_) rfl
      have : (A ++ TL.numL q.num.natAbs ++ [47]).length + (TL.numL q.den).length = A.length + (TL.numL q.num.natAbs ++ 47 :: TL.numL q.den).length := by simp only [List.length_append, List.length_cons, List.length_nil]; omega
      rw [this]
def SPast : Sem' := fun ds r => ∃ (l A : List Nat) (c : Nat) (B : List Nat) (i : Int), l = A ++ c :: B ∧ l.length ≤ 100000 ∧ i = (A.length : Int) ∧ ds = [dC l, dI i, dC [c]] ∧ r = .ok (dI ((A.length + 1 : Nat) : Int))
theorem ok_past {P : Program} {w : World} {K : PySem.W.Frag} {mg : Str → Option Value} {base : Heap} (T : Top K mg) : FnOk P w K mg base (L2.CX P w) 1 T.f_past T.fd_past ["text", "at", "sign"] (spD SPast) := by
  refine fnX T.d_past.F sc_past (fun ds r h => by obtain ⟨l, A, c, B, i, rfl, hl, rfl, rfl, rfl⟩ := h; rfl) fun cdv A outer s H E ds r hr h => ?_
  obtain ⟨l, A, c, B, i, rfl, hl, rfl, rfl, rfl⟩ := h
  have hu := hu_of hr
  have hu64 := hr.units
  refine ⟨_, pss_cons (ps_if (pt_cmpR (op_neU hu64) (pe_slice sl_U (pv 0) (po_some (pv 1)) (po_some (pe_op op_addU (pv 1) pe_int))) (pv 2) (nomark _)) (pss_one (ps_raise rfl (takes_of rfl rfl rfl rfl) (pmk T.x_NoText rfl))) pss_nil)
      (pss_one (ps_ret (pe_op op_addU (pv 1) pe_int))), ?_⟩
  refine sx_seq (sx_no (et_is (et_test (ev_op (ev_sign (ev_var 0) (ev_var 1) (ev_op (ev_var 1) ev_c rv_add) rfl rfl hl) (ev_var 2) (by walk_at "hm_ne"))) (by simp)) (sx_nil ?_))
  exact sx_ret (ev_op (ev_var 1) ev_c (by walk_at "hm_add")) rfl

/-! ### mobiles read -/
def SThing {K : PySem.W.Frag} {mg : Str → Option Value} (T : Top K mg) (n : Nat) : Sem' := fun ds r => ∃ (l A : List Nat) (m : Mb) (B : List Nat) (i : Int), l = A ++ tx m ++ B ∧ l.length ≤ 100000 ∧ i = (A.length : Int) ∧ Mok 1000 m ∧ m.dep + 1 ≤ n ∧ nS B ∧ ds = [dC l, dI i] ∧ r = .ok (dT K [dMb T m, dI ((A.length + (tx m).length : Nat) : Int)])
theorem nS_c {c : Nat} {B : List Nat} (h : isD c = false) (h2 : c ≠ 47) : nS (c :: B) := fun d r e => by cases e; exact ⟨h, h2⟩
theorem st_thing_at {P : Program} {w : World} {K : PySem.W.Frag} {mg : Str → Option Value} {base : Heap} (T : Top K mg) (n : Nat) (ih : FnOk P w K mg base (L2.CX P w) (n + 6) T.f_thing_at T.fd_thing_at ["text", "at"] (spD ((SThing T) n))) : FnOk P w K mg base (L2.CX P w) ((n + 1) + 6) T.f_thing_at T.fd_thing_at ["text", "at"] (spD ((SThing T) (n + 1))) := by
  have e : n + 1 + 6 = (n + 6) + 1 := by omega
  rw [e]
  refine fnX T.d_thing_at.F sc_thing_at (fun ds r h => by obtain ⟨l, A, m, B, i, hl0, hl, hi, hk, hn, hB, rfl, rfl⟩ := h; rfl) fun cdv A outer s H E ds r hr h => ?_
  obtain ⟨l, A, m, B, i, hl0, hl, hi, hk, hn, hB, rfl, rfl⟩ := h
  have hu := hu_of hr
  have hu64 := hr.units
  refine ⟨_, pss_cons (ps_if (pt_cmpR (op_neU hu64) (pe_slice sl_U (pv 0) (po_some (pv 1)) (po_some (pe_op op_addU (pv 1) pe_int))) pe_str (nomark _)) (pss_cons (ps_asg (pe_cl T.d_number_at (ok_number_at T) (hr.mono (by omega)) (passT rfl rfl rfl rfl) (pa_cons (pv 0) (pa_cons (pv 1) pa_nil))) (pg_tup rfl (pgs_cons (pg_name (i := 2) sc_thing_at.nd rfl (Or.inl rfl)) (pgs_cons (pg_name (i := 3) sc_thing_at.nd rfl (Or.inl rfl)) pgs_nil))))
      (pss_one (ps_ret (pe_tup (pa_cons (pe_mkC T.mk_Weight (ok_Weight___init__ T) (hr.mono (by omega)) T.o_Weight.g T.d_Weight___init__.b (passT rfl rfl rfl rfl) (pa_cons (pv 2) pa_nil)) (pa_cons (pv 3) pa_nil)))))) pss_nil)
      (pss_cons (ps_asg (pe_cl T.d_number_at (ok_number_at T) (hr.mono (by omega)) (passT rfl rfl rfl rfl) (pa_cons (pv 0) (pa_cons (pe_op op_addU (pv 1) pe_int) pa_nil))) (pg_tup rfl (pgs_cons (pg_name (i := 4) sc_thing_at.nd rfl (Or.inl rfl)) (pgs_cons (pg_name (i := 3) sc_thing_at.nd rfl (Or.inl rfl)) pgs_nil))))
      (pss_cons (ps_asg (pe_cl T.d_thing_at ih (hr.mono (by omega)) (passT rfl rfl rfl rfl) (pa_cons (pv 0) (pa_cons (pe_cl T.d_past (ok_past T) (hr.mono (by omega)) (passT rfl rfl rfl rfl) (pa_cons (pv 0) (pa_cons (pv 3) (pa_cons pe_str pa_nil)))) pa_nil))) (pg_tup rfl (pgs_cons (pg_name (i := 5) sc_thing_at.nd rfl (Or.inl rfl)) (pgs_cons (pg_name (i := 3) sc_thing_at.nd rfl (Or.inl rfl)) pgs_nil))))
      (pss_cons (ps_asg (pe_cl T.d_number_at (ok_number_at T) (hr.mono (by omega)) (passT rfl rfl rfl rfl) (pa_cons (pv 0) (pa_cons (pe_cl T.d_past (ok_past T) (hr.mono (by omega)) (passT rfl rfl rfl rfl) (pa_cons (pv 0) (pa_cons (pv 3) (pa_cons pe_str pa_nil)))) pa_nil))) (pg_tup rfl (pgs_cons (pg_name (i := 6) sc_thing_at.nd rfl (Or.inl rfl)) (pgs_cons (pg_name (i := 3) sc_thing_at.nd rfl (Or.inl rfl)) pgs_nil))))
      (pss_cons (ps_asg (pe_cl T.d_thing_at ih (hr.mono (by omega)) (passT rfl rfl rfl rfl) (pa_cons (pv 0) (pa_cons (pe_cl T.d_past (ok_past T) (hr.mono (by omega)) (passT rfl rfl rfl rfl) (pa_cons (pv 0) (pa_cons (pv 3) (pa_cons pe_str pa_nil)))) pa_nil))) (pg_tup rfl (pgs_cons (pg_name (i := 7) sc_thing_at.nd rfl (Or.inl rfl)) (pgs_cons (pg_name (i := 3) sc_thing_at.nd rfl (Or.inl rfl)) pgs_nil))))
      (pss_one (ps_ret (pe_tup (pa_cons (pe_mkC T.mk_Rod (ok_Rod___init__ T) (hr.mono (by omega)) T.o_Rod.g T.d_Rod___init__.b (passT rfl rfl rfl rfl) (pa_cons (pv 4) (pa_cons (pv 5) (pa_cons (pv 6) (pa_cons (pv 7) pa_nil))))) (pa_cons (pe_cl T.d_past (ok_past T) (hr.mono (by omega)) (passT rfl rfl rfl rfl) (pa_cons (pv 0) (pa_cons (pv 3) (pa_cons pe_str pa_nil)))) pa_nil))))))))), ?_⟩
  subst hi
  cases m with
  | w a =>
    obtain ⟨c0, t0, e0, hc0, _⟩ := nT_head (q := a) hk.pos
    have hza := hk.hft [] _ rfl
    have el : l = A ++ nT a ++ B := hl0
    have h0v : ∀ {δ : DEnv}, δ[0]? = some (some (.im (dC l))) → Ev (fun _ => E) (tVar 0) δ (.ok (dC (A ++ (nT a ++ B)))) := fun h => by rw [← List.append_assoc, ← el]; exact ev_var 0 h
    refine sx_seq (sx_yes (et_is (et_test (ev_op (ev_sign (h0v rfl) (ev_var 1) (ev_op (ev_var 1) ev_c rv_add) rfl rfl (by rw [← List.append_assoc, ← el]; exact hl)) (ev_str [91] rfl) (by walk_at "hm_ne"))) ?_) ?_)
    · rw [e0]
      have : c0 ≠ 91 := fun z => by subst z; cases hc0
      simp [this]
    · refine sx_seq (sx_tup2 (ev_call (ea_cons (ev_var 0) (ea_cons (ev_var 1) ea_nil)) ⟨l, A, a, B, _, el, hl, rfl, hk.pos, hza.mono (by decide), hB, rfl, rfl⟩) ?_)
      exact sx_ret (ev_tup (ea_cons (ev_mkW T (ea_cons (ev_var 2) ea_nil) (hza.mono (by decide)) hk.pos) (ea_cons (ev_var 3) ea_nil)) (show 2 ≤ 1000 by decide)) rfl
  | r la l' ra m' =>
    have kl := hk.sub (q := [108]) (s := l') (by rw [Mb.get_l, Mb.get_nil])
    have km := hk.sub (q := [114]) (s := m') (by rw [Mb.get_r, Mb.get_nil])
    have zl := hk.hft [108] l' (by rw [Mb.get_l, Mb.get_nil])
    have zm := hk.hft [114] m' (by rw [Mb.get_r, Mb.get_nil])
    obtain ⟨z1, z2⟩ := hk.arm [] la l' ra m' rfl
    have d1 : l'.dep + 1 ≤ n := by simp only [Mb.dep] at hn; omega
    have d2 : m'.dep + 1 ≤ n := by simp only [Mb.dep] at hn; omega
    have q0 : l = A ++ (91 :: (nT la ++ 58 :: (tx l' ++ 32 :: (nT ra ++ 58 :: (tx m' ++ 93 :: B))))) := by rw [hl0]; simp [tx]
    have q1 : l = (A ++ [91]) ++ nT la ++ 58 :: (tx l' ++ 32 :: (nT ra ++ 58 :: (tx m' ++ 93 :: B))) := by rw [q0]; simp
    have q2 : l = (A ++ [91] ++ nT la) ++ 58 :: (tx l' ++ 32 :: (nT ra ++ 58 :: (tx m' ++ 93 :: B))) := by rw [q0]; simp
    have q3 : l = (A ++ [91] ++ nT la ++ [58]) ++ tx l' ++ 32 :: (nT ra ++ 58 :: (tx m' ++ 93 :: B)) := by rw [q0]; simp
    have q4 : l = (A ++ [91] ++ nT la ++ [58] ++ tx l') ++ 32 :: (nT ra ++ 58 :: (tx m' ++ 93 :: B)) := by rw [q0]; simp
    have q5 : l = (A ++ [91] ++ nT la ++ [58] ++ tx l' ++ [32]) ++ nT ra ++ 58 :: (tx m' ++ 93 :: B) := by rw [q0]; simp
    have q6 : l = (A ++ [91] ++ nT la ++ [58] ++ tx l' ++ [32] ++ nT ra) ++ 58 :: (tx m' ++ 93 :: B) := by rw [q0]; simp
    have q7 : l = (A ++ [91] ++ nT la ++ [58] ++ tx l' ++ [32] ++ nT ra ++ [58]) ++ tx m' ++ 93 :: B := by rw [q0]; simp
    have q8 : l = (A ++ [91] ++ nT la ++ [58] ++ tx l' ++ [32] ++ nT ra ++ [58] ++ tx m') ++ 93 :: B := by rw [q0]; simp
    have n58 : ∀ B, nS (58 :: B) := fun B => nS_c (by decide) (by decide)
    have n32 : ∀ B, nS (32 :: B) := fun B => nS_c (by decide) (by decide)
    have n93 : ∀ B, nS (93 :: B) := fun B => nS_c (by decide) (by decide)
    have h0v : ∀ {δ : DEnv}, δ[0]? = some (some (.im (dC l))) → Ev (fun _ => E) (tVar 0) δ (.ok (dC (A ++ (91 :: (nT la ++ 58 :: (tx l' ++ 32 :: (nT ra ++ 58 :: (tx m' ++ 93 :: B)))))))) := fun h => by rw [← q0]; exact ev_var 0 h
    refine sx_seq (sx_no (et_is (et_test (ev_op (ev_sign (h0v rfl) (ev_var 1) (ev_op (ev_var 1) ev_c rv_add) rfl rfl (by rw [← q0]; exact hl)) (ev_str [91] rfl) (by walk_at "hm_ne"))) (by simp)) (sx_nil ?_))
    refine sx_seq (sx_tup2 (ev_call (ea_cons (ev_var 0) (ea_cons (ev_op (ev_var 1) ev_c (by walk_at "hm_add")) ea_nil)) ⟨l, _, la, _, _, q1, hl, (by first | (simp only [List.length_append, List.length_singleton]; done) | (simp only [List.length_append, List.length_singleton]; omega)), hk.pos.1, z1.mono (by decide), n58 _, rfl, rfl⟩) ?_)
    refine sx_seq (sx_tup2 (ev_call (ea_cons (ev_var 0) (ea_cons (ev_call (ea_cons (ev_var 0) (ea_cons (ev_var 3) (ea_cons (ev_str [58] rfl) ea_nil))) ⟨l, _, 58, _, _, q2, hl, (by first | (simp only [List.length_append, List.length_singleton]; done) | (simp only [List.length_append, List.length_singleton]; omega)), rfl, rfl⟩) ea_nil)) ⟨l, _, l', _, _, q3, hl, (by first | (simp only [List.length_append, List.length_singleton]; done) | (simp only [List.length_append, List.length_singleton]; omega)), kl, d1, n32 _, rfl, rfl⟩) ?_)
    refine sx_seq (sx_tup2 (ev_call (ea_cons (ev_var 0) (ea_cons (ev_call (ea_cons (ev_var 0) (ea_cons (ev_var 3) (ea_cons (ev_str [32] rfl) ea_nil))) ⟨l, _, 32, _, _, q4, hl, (by first | (simp only [List.length_append, List.length_singleton]; done) | (simp only [List.length_append, List.length_singleton]; omega)), rfl, rfl⟩) ea_nil)) ⟨l, _, ra, _, _, q5, hl, (by first | (simp only [List.length_append, List.length_singleton]; done) | (simp only [List.length_append, List.length_singleton]; omega)), hk.pos.2.1, z2.mono (by decide), n58 _, rfl, rfl⟩) ?_)
    refine sx_seq (sx_tup2 (ev_call (ea_cons (ev_var 0) (ea_cons (ev_call (ea_cons (ev_var 0) (ea_cons (ev_var 3) (ea_cons (ev_str [58] rfl) ea_nil))) ⟨l, _, 58, _, _, q6, hl, (by first | (simp only [List.length_append, List.length_singleton]; done) | (simp only [List.length_append, List.length_singleton]; omega)), rfl, rfl⟩) ea_nil)) ⟨l, _, m', _, _, q7, hl, (by first | (simp only [List.length_append, List.length_singleton]; done) | (simp only [List.length_append, List.length_singleton]; omega)), km, d2, n93 _, rfl, rfl⟩) ?_)
    refine sx_ret (ev_eq (ev_tup (K := K) (ea_cons (ev_mkR T (ea_cons (ev_var 4) (ea_cons (ev_var 5) (ea_cons (ev_var 6) (ea_cons (ev_var 7) ea_nil)))) (z1.mono (by decide)) (z2.mono (by decide)) (zl.mono (by decide)) (zm.mono (by decide)) hk.pos.1 hk.pos.2.1) (ea_cons (ev_call (ea_cons (ev_var 0) (ea_cons (ev_var 3) (ea_cons (ev_str [93] rfl) ea_nil))) ⟨l, _, 93, _, _, q8, hl, (by first | (simp only [List.length_append, List.length_singleton]; done) | (simp only [List.length_append, List.length_singleton]; omega)), rfl, rfl⟩) ea_nil)) (show 2 ≤ 1000 by decide)) ?_) rfl
    have : (A ++ [91] ++ nT la ++ [58] ++ tx l' ++ [32] ++ nT ra ++ [58] ++ tx m').length + 1 = A.length + (tx (.r la l' ra m')).length := by
      simp only [tx, List.length_append, List.length_cons, List.length_nil]; omega
    rw [this]
theorem ok_thing_at {P : Program} {w : World} {K : PySem.W.Frag} {mg : Str → Option Value} {base : Heap} (T : Top K mg) : ∀ n : Nat, FnOk P w K mg base (L2.CX P w) (n + 6) T.f_thing_at T.fd_thing_at ["text", "at"] (spD ((SThing T) n))
  | 0 => fn_vac fun ds r h => by obtain ⟨l, A, m, B, i, hl0, hl, hi, hk, hn, hB, rfl, rfl⟩ := h; first | omega | (simp only [Mb.dep] at *; omega)
  | n + 1 => st_thing_at T n (ok_thing_at T n)
def SRead {K : PySem.W.Frag} {mg : Str → Option Value} (T : Top K mg) : Sem' := fun ds r => ∃ m : Mb, Mok 1000 m ∧ (tx m).length ≤ 100000 ∧ ds = [dC (tx m)] ∧ r = .ok (dMb T m)
theorem ok_read {P : Program} {w : World} {K : PySem.W.Frag} {mg : Str → Option Value} {base : Heap} (T : Top K mg) : FnOk P w K mg base (L2.CX P w) 80 T.f_read T.fd_read ["text"] (spD (SRead T)) := by
  refine fnX T.d_read.F sc_read (fun ds r h => by obtain ⟨m, hk, hlen, rfl, rfl⟩ := h; rfl) fun cdv A outer s H E ds r hr h => ?_
  obtain ⟨m, hk, hlen, rfl, rfl⟩ := h
  have hu := hu_of hr
  have hu64 := hr.units
  refine ⟨_, pss_cons (ps_asg (pe_cl T.d_thing_at (ok_thing_at T 70) (hr.mono (by decide)) (passT rfl rfl rfl rfl) (pa_cons (pv 0) (pa_cons pe_int pa_nil))) (pg_tup rfl (pgs_cons (pg_name (i := 1) sc_read.nd rfl (Or.inl rfl)) (pgs_cons (pg_name (i := 2) sc_read.nd rfl (Or.inl rfl)) pgs_nil))))
      (pss_cons (ps_if (pt_cmpR (op_neU hu64) (pv 2) (pe_callB call_lenV rfl T.z_len PySem.boot_len (pa_cons (pv 0) pa_nil)) (nomark _)) (pss_one (ps_raise rfl (takes_of rfl rfl rfl rfl) (pmk T.x_NoText rfl))) pss_nil)
      (pss_one (ps_ret (pv 1)))), ?_⟩
  have hc := hk.cnt
  have hd := hk.dep
  refine sx_seq (sx_tup2 (ev_call (ea_cons (ev_var 0) (ea_cons ev_c ea_nil)) ⟨tx m, [], m, [], 0, by simp, by omega, rfl, hk, by omega, fun c r e => (by cases e), rfl, rfl⟩) ?_)
  refine sx_seq (sx_no (et_is (et_test (ev_op (ev_var 2) (ev_cb (ea_cons (ev_var 0) ea_nil) (rc_lenU (rc_lenS (by omega)))) (by walk_at "hm_ne"))) (by simp)) (sx_nil ?_))
  exact sx_ret (ev_var 1) rfl

/-! ### rows written -/
def SWrit (K : PySem.W.Frag) (n : Nat) : Sem' := fun ds r => ∃ (m s : Mb) (p : List Nat), Mok 1100 m ∧ m.get p = some s ∧ s.dep + 1 ≤ n ∧ ds = [dRw K m, dC p] ∧ r = .ok (dC (tx s))
theorem st__law_written {P : Program} {w : World} {K : PySem.W.Frag} {mg : Str → Option Value} {base : Heap} (T : Top K mg) (n : Nat) (ih : FnOk P w K mg base CX0 (n + 6) T.f__law_written T.fd__law_written ["_law_rows", "_law_place"] (spD ((SWrit K) n))) : FnOk P w K mg base CX0 ((n + 1) + 6) T.f__law_written T.fd__law_written ["_law_rows", "_law_place"] (spD ((SWrit K) (n + 1))) := by
  have e : n + 1 + 6 = (n + 6) + 1 := by omega
  rw [e]
  refine fn0 T.d__law_written.F sc__law_written (fun ds r h => by obtain ⟨mm, s, p, hkm, hg, hn, rfl, rfl⟩ := h; rfl) fun cdv A outer s H E ds r hr h => ?_
  obtain ⟨mm, s, p, hkm, hg, hn, rfl, rfl⟩ := h
  have hu := hu_of hr
  have hu64 := hr.units
  refine ⟨_, pss_cons (ps_set (i := 2) sc__law_written.nd rfl (Or.inl rfl) (pe_sub hu (pv 0) (pv 1) (fun _ _ => rfl)))
      (pss_cons (ps_if (pt_cmpR (op_eqU hu64) (pe_callB call_lenV rfl T.z_len PySem.boot_len (pa_cons (pv 2) pa_nil)) pe_int (nomark _)) (pss_one (ps_ret (pe_cl T.d__law_number (ok__law_number T) (hr.mono (by omega)) pass0 (pa_cons (pe_sub hu (pv 2) pe_int (fun _ _ => rfl)) pa_nil)))) pss_nil)
      (pss_cons (ps_set (i := 3) sc__law_written.nd rfl (Or.inl rfl) (pe_op op_addU (pe_op op_addU (pe_cl T.d__law_number (ok__law_number T) (hr.mono (by omega)) pass0 (pa_cons (pe_sub hu (pv 2) pe_int (fun _ _ => rfl)) pa_nil)) pe_str) (pe_cl T.d__law_written ih (hr.mono (by omega)) pass0 (pa_cons (pv 0) (pa_cons (pe_op op_addU (pv 1) pe_str) pa_nil)))))
      (pss_cons (ps_set (i := 4) sc__law_written.nd rfl (Or.inl rfl) (pe_op op_addU (pe_op op_addU (pe_cl T.d__law_number (ok__law_number T) (hr.mono (by omega)) pass0 (pa_cons (pe_sub hu (pv 2) pe_int (fun _ _ => rfl)) pa_nil)) pe_str) (pe_cl T.d__law_written ih (hr.mono (by omega)) pass0 (pa_cons (pv 0) (pa_cons (pe_op op_addU (pv 1) pe_str) pa_nil)))))
      (pss_one (ps_ret (pe_op op_addU (pe_op op_addU (pe_op op_addU (pe_op op_addU pe_str (pv 3)) pe_str) (pv 4)) pe_str)))))), ?_⟩
  have hk := hkm.sub hg
  have hlen := tx_len hk
  have hc := hk.cnt
  have hp : p.length + 1 ≤ 1000000 := by have := hkm.len hg; omega
  cases s with
  | w a =>
    refine sx_seq (sx_asg (ev_getD (ev_var 0) (ev_var 1) (mφ_w hg)) ?_)
    exact sx_seq (sx_yes (et_is (et_test (ev_op (ev_cb (ea_cons (ev_var 2) ea_nil) (by walk_at "hm_len")) ev_c (by walk_at "hm_eq"))) rfl) (sx_ret (ev_call (ea_cons (ev_sub (ev_var 2) ev_c (by walk_at "hm_ix")) ea_nil) ⟨a, hk.pos, hk.hft [] _ rfl, rfl, rfl⟩) rfl))
  | r la l ra m =>
    obtain ⟨k1, k2⟩ := get_kid hg
    obtain ⟨z1, z2⟩ := hk.arm [] la l ra m rfl
    have d1 : l.dep + 1 ≤ n := by simp only [Mb.dep] at hn; omega
    have d2 : m.dep + 1 ≤ n := by simp only [Mb.dep] at hn; omega
    have hlen2 : (nT la).length + (tx l).length + (nT ra).length + (tx m).length + 6 ≤ 1000000 := by
      simp only [tx, List.length_cons, List.length_append, List.length_nil] at hlen
      omega
    have e : tx (.r la l ra m) = [91] ++ ((nT la ++ [58]) ++ tx l) ++ [32] ++ ((nT ra ++ [58]) ++ tx m) ++ [93] := by simp [tx]
    have s1 : (nT la).length + [58].length ≤ 1000000 := by simp only [List.length_singleton]; omega
    have s2 : (nT la ++ [58]).length + (tx l).length ≤ 1000000 := by simp only [List.length_append, List.length_singleton]; omega
    have s3 : (nT ra).length + [58].length ≤ 1000000 := by simp only [List.length_singleton]; omega
    have s4 : (nT ra ++ [58]).length + (tx m).length ≤ 1000000 := by simp only [List.length_append, List.length_singleton]; omega
    have s5 : [91].length + ((nT la ++ [58]) ++ tx l).length ≤ 1000000 := by simp only [List.length_append, List.length_singleton]; omega
    have s6 : ([91] ++ ((nT la ++ [58]) ++ tx l)).length + [32].length ≤ 1000000 := by simp only [List.length_append, List.length_singleton]; omega
    have s7 : ([91] ++ ((nT la ++ [58]) ++ tx l) ++ [32]).length + ((nT ra ++ [58]) ++ tx m).length ≤ 1000000 := by simp only [List.length_append, List.length_singleton]; omega
    have s8 : ([91] ++ ((nT la ++ [58]) ++ tx l) ++ [32] ++ ((nT ra ++ [58]) ++ tx m)).length + [93].length ≤ 1000000 := by simp only [List.length_append, List.length_singleton]; omega
    rw [e]
    refine sx_seq (sx_asg (ev_getD (ev_var 0) (ev_var 1) (mφ_r hg)) ?_)
    refine sx_seq (sx_no (et_is (et_test (ev_op (ev_cb (ea_cons (ev_var 2) ea_nil) (by walk_at "hm_len")) ev_c (by walk_at "hm_eq"))) rfl) (sx_nil ?_))
    refine sx_seq (sx_asg (ev_op (ev_op (ev_call (ea_cons (ev_sub (ev_var 2) ev_c (by walk_at "hm_ix")) ea_nil) ⟨la, hk.pos.1, z1.mono (by decide), rfl, rfl⟩) (ev_str [58] rfl) (rv_addL s1)) (ev_call (ea_cons (ev_var 0) (ea_cons (ev_op (ev_var 1) (ev_str [108] rfl) (rv_addL hp)) ea_nil)) ⟨mm, l, _, hkm, k1, d1, rfl, rfl⟩) (rv_addL s2)) ?_)
    refine sx_seq (sx_asg (ev_op (ev_op (ev_call (ea_cons (ev_sub (ev_var 2) ev_c (by walk_at "hm_ix")) ea_nil) ⟨ra, hk.pos.2.1, z2.mono (by decide), rfl, rfl⟩) (ev_str [58] rfl) (rv_addL s3)) (ev_call (ea_cons (ev_var 0) (ea_cons (ev_op (ev_var 1) (ev_str [114] rfl) (rv_addL hp)) ea_nil)) ⟨mm, m, _, hkm, k2, d2, rfl, rfl⟩) (rv_addL s4)) ?_)
    exact sx_ret (ev_op (ev_op (ev_op (ev_op (ev_str [91] rfl) (ev_var 3) (rv_addL s5)) (ev_str [32] rfl) (rv_addL s6)) (ev_var 4) (rv_addL s7)) (ev_str [93] rfl) (rv_addL s8)) rfl
theorem ok__law_written {P : Program} {w : World} {K : PySem.W.Frag} {mg : Str → Option Value} {base : Heap} (T : Top K mg) : ∀ n : Nat, FnOk P w K mg base CX0 (n + 6) T.f__law_written T.fd__law_written ["_law_rows", "_law_place"] (spD ((SWrit K) n))
  | 0 => fn_vac fun ds r h => by obtain ⟨mm, s, p, hkm, hg, hn, rfl, rfl⟩ := h; first | omega | (simp only [Mb.dep] at *; omega)
  | n + 1 => st__law_written T n (ok__law_written T n)

/-! ### dicts filled from the end -/
def inL (φ : List Nat → Option Dn) (l : List (List Nat)) : List Nat → Option Dn := fun q => if q ∈ l then φ q else none
theorem inL_dom {φ : List Nat → Option Dn} {m : Mb} {k : Nat} : ∀ q, (inL φ (m.plc.drop k) q).isSome = true → q ∈ m.plc := fun q hq => by
  unfold inL at hq
  split at hq
  · rename_i h; exact List.mem_of_mem_drop h
  · cases hq
theorem drop_turn {m : Mb} {n : Nat} {p : List Nat} (hn : n < m.plc.length) (ep : m.plc[m.plc.length - 1 - n]? = some p) : m.plc.drop (m.plc.length - (n + 1)) = p :: m.plc.drop (m.plc.length - n) := by
  have h1 : m.plc.length - (n + 1) = m.plc.length - 1 - n := by omega
  have e1 : m.plc.length - 1 - n + 1 = m.plc.length - n := by omega
  obtain ⟨hi, eg⟩ := List.getElem?_eq_some_iff.mp ep
  rw [h1, ← e1, List.drop_eq_getElem_cons hi, eg]
theorem inL_put {φ : List Nat → Option Dn} {m : Mb} {n : Nat} {p : List Nat} {d : Dn} (hn : n < m.plc.length) (ep : m.plc[m.plc.length - 1 - n]? = some p) (h : φ p = some d) : (fun q => if q = p then some d else inL φ (m.plc.drop (m.plc.length - n)) q) = inL φ (m.plc.drop (m.plc.length - (n + 1))) := by
  funext q
  rw [drop_turn hn ep]
  unfold inL
  by_cases hq : q = p
  · subst hq
    rw [if_pos rfl, if_pos List.mem_cons_self, h]
  · rw [if_neg hq]
    by_cases h2 : q ∈ m.plc.drop (m.plc.length - n)
    · rw [if_pos h2, if_pos (List.mem_cons_of_mem _ h2)]
    · rw [if_neg h2, if_neg fun z => (List.mem_cons.mp z).elim hq h2]
theorem inL_skip {φ : List Nat → Option Dn} {m : Mb} {n : Nat} {p : List Nat} (hn : n < m.plc.length) (ep : m.plc[m.plc.length - 1 - n]? = some p) (h : φ p = none) : inL φ (m.plc.drop (m.plc.length - n)) = inL φ (m.plc.drop (m.plc.length - (n + 1))) := by
  funext q
  rw [drop_turn hn ep]
  unfold inL
  by_cases hq : q = p
  · subst hq
    rw [if_pos List.mem_cons_self, h, ite_self]
  · by_cases h2 : q ∈ m.plc.drop (m.plc.length - n)
    · rw [if_pos h2, if_pos (List.mem_cons_of_mem _ h2)]
    · rw [if_neg h2, if_neg fun z => (List.mem_cons.mp z).elim hq h2]
theorem inL_zero {φ : List Nat → Option Dn} {m : Mb} : inL φ (m.plc.drop (m.plc.length - 0)) = fun _ => none := by
  funext q
  unfold inL
  rw [Nat.sub_zero, List.drop_eq_nil_of_le (Nat.le_refl _)]
  exact if_neg List.not_mem_nil
theorem inL_all {φ : List Nat → Option Dn} {m : Mb} (h : ∀ q, m.get q = none → φ q = none) : inL φ (m.plc.drop (m.plc.length - m.plc.length)) = φ := by
  funext q
  unfold inL
  rw [Nat.sub_self, List.drop_zero]
  by_cases hq : q ∈ m.plc
  · rw [if_pos hq]
  · rw [if_neg hq, h q]
    cases e : m.get q with
    | none => rfl
    | some s => exact absurd (Mb.mem_plc.mpr (by rw [e]; rfl)) hq
theorem inL_at {φ : List Nat → Option Dn} {l : List (List Nat)} {q : List Nat} (h : q ∈ l) : inL φ l q = φ q := if_pos h
/-- what hangs at a rod's ends comes ahead -/
theorem kids_in {m l s : Mb} {n : Nat} {p : List Nat} {la ra : Rat} (hn : n < m.plc.length) (ep : m.plc[m.plc.length - 1 - n]? = some p) (hs : m.get p = some (.r la l ra s)) : p ++ [108] ∈ m.plc.drop (m.plc.length - n) ∧ p ++ [114] ∈ m.plc.drop (m.plc.length - n) := by
  obtain ⟨k1, k2⟩ := get_kid hs
  have e1 : m.plc.length - 1 - n + 1 = m.plc.length - n := by omega
  have c1 := after m.plc_sorted ep (Mb.mem_plc.mpr (by rw [k1]; rfl)) (lt_snoc p 108)
  have c2 := after m.plc_sorted ep (Mb.mem_plc.mpr (by rw [k2]; rfl)) (lt_snoc p 114)
  rw [e1] at c1 c2
  exact ⟨c1, c2⟩

/-! ### where all hangs -/
def far : Mb → List Nat → Rat
  | .w _, _ => 0
  | .r _ _ _ _, [] => 0
  | .r la l ra n, c :: p => if c = 108 then far l p - la else far n p + ra
theorem far_nil (m : Mb) : far m [] = 0 := by cases m <;> rfl
theorem far_l {la ra : Rat} {l n : Mb} {p : List Nat} : far (.r la l ra n) (108 :: p) = far l p - la := if_pos rfl
theorem far_r {la ra : Rat} {l n : Mb} {p : List Nat} : far (.r la l ra n) (114 :: p) = far n p + ra := if_neg (by decide)
theorem far_snoc {m l n : Mb} {q : List Nat} {la ra : Rat} (h : m.get q = some (.r la l ra n)) : far m (q ++ [108]) = far m q - la ∧ far m (q ++ [114]) = far m q + ra := by
  induction q generalizing m with
  | nil =>
    rw [Mb.get_nil] at h
    cases h
    rw [List.nil_append, List.nil_append, far_l, far_r, far_nil, far_nil, far_nil]
    exact ⟨rfl, rfl⟩
  | cons c q ih =>
    cases m with
    | w a => cases h
    | r la' l' ra' n' =>
      rw [List.cons_append, List.cons_append]
      by_cases h1 : c = 108
      · subst h1
        rw [Mb.get_l] at h
        obtain ⟨i1, i2⟩ := ih h
        rw [far_l, far_l, far_l, i1, i2]
        exact ⟨by grind, by grind⟩
      · by_cases h2 : c = 114
        · subst h2
          rw [Mb.get_r] at h
          obtain ⟨i1, i2⟩ := ih h
          rw [far_r, far_r, far_r, i1, i2]
          exact ⟨by grind, by grind⟩
        · rw [Mb.get_x h1 h2] at h; cases h
theorem rod_above {m s : Mb} {p : List Nat} (hne : p ≠ []) (h : m.get p = some s) : ∃ q c la l ra n, p = q ++ [c] ∧ m.get q = some (.r la l ra n) ∧ ((c = 108 ∧ far m p = far m q - la) ∨ (c = 114 ∧ far m p = far m q + ra)) := by
  obtain ⟨q, c, rfl⟩ : ∃ q c, p = q ++ [c] := ⟨p.dropLast, p.getLast hne, (List.dropLast_concat_getLast hne).symm⟩
  rw [Mb.get_app] at h
  cases e : m.get q with
  | none => rw [e] at h; cases h
  | some t =>
    rw [e] at h
    have h : t.get [c] = some s := h
    cases t with
    | w a => cases h
    | r la l ra n =>
      obtain ⟨f1, f2⟩ := far_snoc e
      by_cases h1 : c = 108
      · subst h1; exact ⟨q, 108, la, l, ra, n, rfl, e, .inl ⟨rfl, f1⟩⟩
      · by_cases h2 : c = 114
        · subst h2; exact ⟨q, 114, la, l, ra, n, rfl, e, .inr ⟨rfl, f2⟩⟩
        · rw [Mb.get_x h1 h2] at h; cases h
theorem Q.zero {D V : Nat} (h : 0 < D) : Q D V 0 := ⟨0, by rw [Rat.zero_mul]; rfl, Nat.mul_pos h (Nat.two_pow_pos V)⟩
theorem farQ {A W : Nat} (hA : 0 < A) : ∀ {m : Mb}, (∀ q la ra, m.rowAt q = some (.two la ra) → Q A W la ∧ Q A W ra) → ∀ p : List Nat, Q A (W + p.length) (far m p)
  | .w _, _, _ => Q.zero hA
  | .r _ _ _ _, _, [] => Q.zero hA
  | .r la l ra n, h, c :: p => by
    obtain ⟨q1, q2⟩ := h [] la ra rfl
    have i1 := farQ hA (m := l) (fun q x y e => h (108 :: q) x y (by unfold Mb.rowAt; rw [Mb.get_l]; exact e)) p
    have i2 := farQ hA (m := n) (fun q x y e => h (114 :: q) x y (by unfold Mb.rowAt; rw [Mb.get_r]; exact e)) p
    show Q A (W + (p.length + 1)) (if c = 108 then far l p - la else far n p + ra)
    split
    · exact i1.sub (q1.mono (by omega))
    · exact i2.add (q2.mono (by omega))
theorem M8.farq {n : Nat} {m : Mb} (h : M8 n m) (p : List Nat) : Q A8 (41 + p.length) (far m p) := farQ (by decide) (fun q la ra e => ⟨(h.bd.arm q la ra e).1, (h.bd.arm q la ra e).2.1⟩) p
theorem M8.farz {n : Nat} {m : Mb} (h : M8 n m) {p : List Nat} (hp : p.length ≤ 63) : Sz 126 (far m p) := (h.farq p).szm a8_lt (by omega)
theorem plc_cons (m : Mb) : ∃ t, m.plc = [] :: t := by cases m <;> exact ⟨_, rfl⟩
theorem before {L : List (List Nat)} (h : L.Pairwise fun a b => a < b) {i : Nat} {p q : List Nat} (hp : L[i]? = some p) (hq : q ∈ L) (l : q < p) : q ∈ L.take i := by
  obtain ⟨j, hj, e⟩ := List.getElem_of_mem hq
  obtain ⟨hi, ep⟩ := List.getElem?_eq_some_iff.mp hp
  have hij : j < i := by
    rcases Nat.lt_trichotomy j i with z | z | z
    · exact z
    · subst z
      rw [ep] at e
      rw [e] at l
      exact absurd l (List.lt_irrefl _)
    · have := List.pairwise_iff_getElem.mp h i j hi hj z
      rw [e, ep] at this
      exact absurd (List.lt_trans l this) (List.lt_irrefl _)
  rw [List.mem_take_iff_getElem]
  exact ⟨j, by omega, e⟩
theorem lk_fst {L : List (List Nat)} {f : List Nat → Dn} {q : List Nat} (h : q ∈ L) : (L.map fun p => (p, f p)).lookup q = some (f q) := by
  induction L with
  | nil => cases h
  | cons a L ih =>
    rw [List.map_cons, List.lookup_cons]
    by_cases e : q = a
    · subst e; simp
    · have z1 : (q == a) = false := by simpa using e
      rw [z1]
      rcases List.mem_cons.mp h with z | z
      · exact absurd z e
      · exact ih z
abbrev dHg (K : PySem.W.Frag) (m : Mb) (p : List Nat) : Dn := dT K [dC p, dR K (far m p)]
section
variable {E : XS} {δ : DEnv} {K : PySem.W.Frag} {te tb : TE}
/-- p[:-1] -/
theorem ev_above {q : List Nat} {c : Nat} (h : Ev E te δ (.ok (dC (q ++ [c])))) (hb : Ev E tb δ (.ok (dI (-1)))) (hl : q.length ≤ 1000) : Ev E (tSl (rSlU K) te tNoPart (tPart tb)) δ (.ok (dC q)) := by
  have := ev_slS (K := K) h oo_none (oo_some hb) (by rw [List.length_append, List.length_singleton]; omega)
  rwa [cut_but] at this
end
theorem ends_l {q : List Nat} {c : Nat} : PySem.Txt.endswith (cS (q ++ [c])) (cS [108]) = decide (c = 108) := by
  by_cases h : c = 108
  · subst h
    rw [decide_eq_true rfl]
    exact ends_one.mpr ⟨q, rfl⟩
  · rw [decide_eq_false h, Bool.eq_false_iff]
    intro z
    obtain ⟨t, e⟩ := ends_one.mp z
    have := congrArg List.getLast? e
    rw [List.getLast?_concat, List.getLast?_concat] at this
    exact h (Option.some.inj this)
def SDrawn {K : PySem.W.Frag} {mg : Str → Option Value} (T : Top K mg) : Sem' := fun ds r => ∃ (n : Nat) (m : Mb), M8 n m ∧ ds = [dMb T m] ∧ r = .own (oL (m.plc.map (dHg K m)))
theorem ok_drawn {P : Program} {w : World} {K : PySem.W.Frag} {mg : Str → Option Value} {base : Heap} (T : Top K mg) : FnOk P w K mg base (L2.CX P w) 80 T.f_drawn T.fd_drawn ["mobile"] (spD (SDrawn T)) := by
  refine fnX T.d_drawn.F sc_drawn (fun ds r h => by obtain ⟨n, m, h8, rfl, rfl⟩ := h; rfl) fun cdv A outer s H E ds r hr h => ?_
  obtain ⟨n, m, h8, rfl, rfl⟩ := h
  have hu := hu_of hr
  have hu64 := hr.units
  refine ⟨_, pss_cons (ps_set (i := 1) sc_drawn.nd rfl (Or.inl rfl) (pe_disp (pps_cons pe_str (pe_tup (pa_cons pe_int (pa_cons pe_int pa_nil))) pps_nil) rfl rfl (by simp) (by decide)))
      (pss_cons (ps_for (passes_of rfl) rfl (pi_list (pe_slice sl_U (pe_alt (pe_meth0 (pv 0) T.o_Weight.c T.k_Weight_places (ok_Hung_places T) (hr.mono (by decide)) T.d_Hung_places.b1 T.d_Hung_places.r pass0) (pe_meth0 (pv 0) T.o_Rod.c T.k_Rod_places (ok_Rod_places T 70) (hr.mono (by decide)) T.d_Rod_places.b1 T.d_Rod_places.r pass0)) (po_some pe_int) po_none)) (pg_name (i := 2) sc_drawn.nd rfl (Or.inl rfl)) (pss_cons (ps_set (i := 3) sc_drawn.nd rfl (Or.inl rfl) (pe_alt (pe_meth (pv 0) T.o_Weight.c T.k_Weight_at (ok_Hung_at T) (hr.mono (by decide)) T.d_Hung_at.b .nil (passT rfl rfl rfl rfl) (pa_cons (pe_slice sl_U (pv 2) po_none (po_some (pe_un un_neg pe_int))) pa_nil)) (pe_meth (pv 0) T.o_Rod.c T.k_Rod_at (ok_Rod_at T 70) (hr.mono (by decide)) T.d_Rod_at.b .nil (passT rfl rfl rfl rfl) (pa_cons (pe_slice sl_U (pv 2) po_none (po_some (pe_un un_neg pe_int))) pa_nil))))
      (pss_cons (ps_set (i := 4) sc_drawn.nd rfl (Or.inl rfl) (pe_sub hu (pv 1) (pe_slice sl_U (pv 2) po_none (po_some (pe_un un_neg pe_int))) (fun _ _ => rfl)))
      (pss_one (ps_if (pt_val (pe_m1 PySem.F.slot_str_endswith PySem.F.type_str_endswith mt_endswith (pv 2) pe_str)) (pss_one (ps_dput hu (pv 1) (pv 2) (pe_cl T.d_minus (ok_minus T) (hr.mono (by decide)) (passT rfl rfl rfl rfl) (pa_cons (pv 4) (pa_cons (pe_fld (pv 3) rfl) pa_nil))) rfl)) (pss_one (ps_dput hu (pv 1) (pv 2) (pe_cl T.d_plus (ok_plus T) (hr.mono (by decide)) (passT rfl rfl rfl rfl) (pa_cons (pv 4) (pa_cons (pe_fld (pv 3) rfl) pa_nil))) rfl)))))))
      (pss_one (ps_ret (LiI.pe_listItems rfl (pv 1) rfl T.z_list (by decide +kernel))))), ?_⟩
  have hk := h8.ok
  have hl := m.plc_len
  have hc := hk.cnt
  have hd := hk.dep
  obtain ⟨t, et⟩ := plc_cons m
  refine sx_seq (sx_asgO (eo_disp1D (d := dR K ((0 : Int) : Rat)) (ev_str [] rfl) (ev_int (ea_cons ev_c (ea_cons ev_c ea_nil)))) ?_)
  refine sx_mid (fun δ => ∃ s2 s3 s4, δ = [some (.im (dMb T m)), some (.ow (oDr (m.plc.map fun p => (p, dR K (far m p))))), s2, s3, s4]) ?_ ?_
  rotate_left
  · rintro _ ⟨s2, s3, s4, rfl⟩
    have h := eo_items (E := fun _ => E) (K := K) (δ := [some (.im (dMb T m)), some (.ow (oDr (m.plc.map fun p => (p, dR K (far m p))))), s2, s3, s4]) 1 rfl
    rw [List.map_map] at h
    exact sx_retO h rfl
  have hcut := eo_slL (E := fun _ => E) (K := K) (δ := [some (.im (dMb T m)), some (.ow (oDr [([], dR K ((0 : Int) : Rat))])), none, none, none]) (ev_pubL (K := K) (eo_places0 (n := 70) (E1 := E0) (E2 := E0) T (ev_var 0) (by omega) (by decide) (by omega))) (oo_some (te := tC (.int 1)) (n := 1) ev_c) oo_none
  rw [et, List.map_cons, cut_tail] at hcut
  refine sx_forL (ev_pubL (K := K) hcut) (fun k δ => ∃ s2 s3 s4, δ = [some (.im (dMb T m)), some (.ow (oDr ((m.plc.take (k + 1)).map fun p => (p, dR K (far m p))))), s2, s3, s4]) ⟨none, none, none, ?_⟩ ?_ ?_
  · rw [et]
    show _ = ([some (.im (dMb T m)), some (.ow (oDr [([], dR K (far m []))])), none, none, none] : DEnv)
    rw [far_nil]; rfl
  · rintro k δ' d en ⟨s2, s3, s4, rfl⟩
    rw [List.getElem?_map] at en
    obtain ⟨p, ep, rfl⟩ := Option.map_eq_some_iff.mp en
    have ep' : m.plc[k + 1]? = some p := by rw [et, List.getElem?_cons_succ]; exact ep
    have hpm := List.mem_of_getElem? ep'
    obtain ⟨s, hs⟩ := Option.isSome_iff_exists.mp (Mb.mem_plc.mp hpm)
    have hpl := hk.len hs
    have hne : p ≠ [] := by
      intro z
      subst z
      have hs := m.plc_sorted
      rw [et] at hs
      exact absurd ((List.pairwise_cons.mp hs).1 [] (List.mem_of_getElem? ep)) (List.lt_irrefl _)
    obtain ⟨q, c, la, l, ra, n', rfl, hg, hf⟩ := rod_above hne hs
    have hql := hk.len hg
    have hlt : q < q ++ [c] := lt_snoc q c
    have hin := before m.plc_sorted ep' (Mb.mem_plc.mpr (by rw [hg]; rfl)) hlt
    have hlk := lk_fst (f := fun p => dR K (far m p)) hin
    have hnk : q ++ [c] ∉ ((m.plc.take (k + 1)).map fun p => (p, dR K (far m p))).map (·.1) := by
      rw [List.map_map]
      have e : (((·.1) : List Nat × Dn → List Nat) ∘ fun p => (p, dR K (far m p))) = id := rfl
      rw [e, List.map_id]
      exact nd_take m.plc_nodup ep'
    obtain ⟨z1, z2⟩ := hk.arm _ _ _ _ _ hg
    have zf : Sz 4000 (far m q) := (h8.farz hql).mono (by decide)
    have hab : ∀ {δ : DEnv}, δ[2]? = some (some (.im (dC (q ++ [c])))) → Ev (fun _ => E) (tSl (rSlU K) (tVar 2) tNoPart (tPart (tUn (rU fun i => .int (-i)) (tC (.int 1))))) δ (.ok (dC q)) := fun h => ev_above (ev_var 2 h) (ev_un ev_c ru_neg) (by omega)
    refine sx_seq (sx_asg (ev_at T (ev_var 0) (ea_cons (hab rfl) ea_nil) (by omega) (by omega) hg) ?_)
    refine sx_seq (sx_asg (ev_getOD 1 rfl (hab rfl) hlk) ?_)
    have hll : ((m.plc.take (k + 1)).map fun p => (p, dR K (far m p))).length ≤ 100000 := by rw [List.length_map, List.length_take]; omega
    have fin : ∀ x, far m (q ++ [c]) = x → ([some (.im (dMb T m)), some (.ow (oDr ((m.plc.take (k + 1)).map (fun p => (p, dR K (far m p))) ++ [(q ++ [c], dR K x)]))), some (.im (dC (q ++ [c]))), some (.im (dMb T (.r la l ra n'))), some (.im (dR K (far m q)))] : DEnv) = [some (.im (dMb T m)), some (.ow (oDr ((m.plc.take (k + 1 + 1)).map fun p => (p, dR K (far m p))))), some (.im (dC (q ++ [c]))), some (.im (dMb T (.r la l ra n'))), some (.im (dR K (far m q)))] := fun x hx => by
      rw [take_snoc ep', List.map_append, ← hx]; rfl
    rcases hf with ⟨rfl, f⟩ | ⟨rfl, f⟩
    · refine sx_yes (et_is (et_B (ev_m1 (f := PySem.Txt.endswith) (ev_var 2) (ev_str [108] rfl))) (ends_l.trans rfl)) ?_
      exact sx_dputD 1 rfl (ev_call (ea_cons (ev_var 4) (ea_cons (ev_larm T (ev_var 3)) ea_nil)) ⟨_, la, zf, z1.mono (by decide), rfl, rfl⟩) (ev_var 2) hnk hll ⟨_, _, _, fin _ f⟩
    · refine sx_no (et_is (et_B (ev_m1 (f := PySem.Txt.endswith) (ev_var 2) (ev_str [108] rfl))) (ends_l.trans rfl)) ?_
      exact sx_dputD 1 rfl (ev_call (ea_cons (ev_var 4) (ea_cons (ev_rarm T (ev_var 3)) ea_nil)) ⟨_, ra, zf, z2.mono (by decide), rfl, rfl⟩) (ev_var 2) hnk hll ⟨_, _, _, fin _ f⟩
  · rintro δ' ⟨s2, s3, s4, rfl⟩
    refine ⟨s2, s3, s4, ?_⟩
    rw [List.length_map, List.take_of_length_le (by rw [et, List.length_cons]; exact Nat.le_refl _)]

/-! ### rows that are told -/
abbrev dWr (K : PySem.W.Frag) (x : List Nat × List Rat) : Dn := dT K (dC x.1 :: x.2.map fun q => dR K q)
def SIsRow (K : PySem.W.Frag) : Sem' := fun ds r => ∃ (p : List Nat) (qs : List Rat), (∀ q, q ∈ qs → Sz 4000 q) ∧ 0 < qs.length ∧ ds = [dWr K (p, qs), dC p, dI (qs.length : Int)] ∧ r = .ok (dB true)
theorem ok__law_is_row {P : Program} {w : World} {K : PySem.W.Frag} {mg : Str → Option Value} {base : Heap} (T : Top K mg) : FnOk P w K mg base CX0 2 T.f__law_is_row T.fd__law_is_row ["_law_row", "_law_place", "_law_many"] (spD (SIsRow K)) := by
  refine fn0 T.d__law_is_row.F sc__law_is_row (fun ds r h => by obtain ⟨p, qs, hs, h0, rfl, rfl⟩ := h; rfl) fun cdv A outer s H E ds r hr h => ?_
  obtain ⟨p, qs, hs, h0, rfl, rfl⟩ := h
  have hu := hu_of hr
  have hu64 := hr.units
  refine ⟨_, pss_cons (ps_if (PW.pt (pw_or (pt_not (pt_val (pe_callB call_isiU rfl T.z_isinstance (by decide +kernel) (pa_cons (pv 0) (pa_cons (pe_bltn (v := .ty "tuple") (u := .type "tuple") rfl T.z_tuple (by decide +kernel) rfl) pa_nil))))) (pw_or (pt_cmpR (op_neU hu64) (pe_callB call_lenV rfl T.z_len PySem.boot_len (pa_cons (pv 0) pa_nil)) (pe_op op_addU (pv 2) pe_int) (nomark _)) (pw_or1 (pt_not (pt_val (pe_callB call_isiU rfl T.z_isinstance (by decide +kernel) (pa_cons (pe_sub hu (pv 0) pe_int (fun _ _ => rfl)) (pa_cons (pe_bltn (v := .ty "str") (u := .type "str") rfl T.z_str (by decide +kernel) rfl) pa_nil))))))))) (pss_one (ps_ret pe_bl)) pss_nil)
      (pss_cons (ps_for PassesOwn.never rfl (pi_tup (pe_slice sl_tup (pv 0) (po_some pe_int) po_none)) (pg_name (i := 3) sc__law_is_row.nd rfl (Or.inl rfl)) (pss_cons (ps_if (PW.pt (pw_or (pt_not (pt_val (pe_callB call_isiU rfl T.z_isinstance (by decide +kernel) (pa_cons (pv 3) (pa_cons (pe_bltn (v := .ty "tuple") (u := .type "tuple") rfl T.z_tuple (by decide +kernel) rfl) pa_nil))))) (pw_or (pt_cmpR (op_neU hu64) (pe_callB call_lenV rfl T.z_len PySem.boot_len (pa_cons (pv 3) pa_nil)) pe_int (nomark _)) (pw_or (pt_not (pt_val (pe_cl T.d__law_whole (ok__law_whole T) (hr.mono (by decide)) pass0 (pa_cons (pe_sub hu (pv 3) pe_int (fun _ _ => rfl)) pa_nil)))) (pw_or1 (pt_not (pt_val (pe_cl T.d__law_whole (ok__law_whole T) (hr.mono (by decide)) pass0 (pa_cons (pe_sub hu (pv 3) pe_int (fun _ _ => rfl)) pa_nil))))))))) (pss_one (ps_ret pe_bl)) pss_nil)
      (pss_one (ps_if (PW.pt (pw_or (pt_cmpR op_lt (pe_sub hu (pv 3) pe_int (fun _ _ => rfl)) pe_int (nomark _)) (pw_or1 (pt_cmpR (op_neU hu64) (pe_cl T.d__law_lowest (ok__law_lowest T) (hr.mono (by decide)) pass0 (pa_cons (pe_sub hu (pv 3) pe_int (fun _ _ => rfl)) (pa_cons (pe_sub hu (pv 3) pe_int (fun _ _ => rfl)) pa_nil))) (pv 3) (nomark _))))) (pss_one (ps_ret pe_bl)) pss_nil))))
      (pss_one (ps_ret (pe_cmpR (op_eqU hu64) (pe_sub hu (pv 0) pe_int (fun _ _ => rfl)) (pv 1) (nomark _))))), ?_⟩
  refine sx_seq (sx_no (et_or (a := false) (b := false || false) (et_not (b := true) (et_B (ev_cb (ea_cons (ev_var (d := dT K (dC p :: qs.map fun q => dR K q)) 0) (ea_cons ev_c ea_nil)) (rc_isiB ty_T (by decide +kernel))))) (fun h => (et_or (a := false) (b := false) (et_is (et_test (ev_op (ev_cb (ea_cons (ev_var (d := dT K (dC p :: qs.map fun q => dR K q)) 0) ea_nil) (rc_lenU rc_lenT)) (ev_op (ev_var 2) ev_c rv_add) rv_neI)) (by rw [List.length_cons, List.length_map]; simp)) (fun h => (et_not (b := true) (et_B (ev_cb (ea_cons (ev_sub (ev_var (d := dT K (dC p :: qs.map fun q => dR K q)) 0) ev_c (rv_ixT 0 rfl rfl)) (ea_cons ev_c ea_nil)) (rc_isiB ty_S (by decide +kernel))))))))) (sx_nil ?_))
  refine sx_mid (fun δ => ∃ s3, δ = [some (.im (dWr K (p, qs))), some (.im (dC p)), some (.im (dI (qs.length : Int))), s3]) ?_ ?_
  rotate_left
  · rintro _ ⟨s3, rfl⟩
    exact sx_ret (ev_eq (ev_op (ev_sub (ev_var (d := dT K (dC p :: qs.map fun q => dR K q)) 0) ev_c (rv_ixT 0 rfl rfl)) (ev_var 1) rv_eqS) (by simp)) rfl
  refine sx_forT (ev_slT1 (ev_var (d := dT K (dC p :: qs.map fun q => dR K q)) 0) (oo_some ev_c)) (fun k δ => ∃ s3, δ = [some (.im (dWr K (p, qs))), some (.im (dC p)), some (.im (dI (qs.length : Int))), s3]) ⟨none, rfl⟩ ?_ ?_
  rotate_left
  · rintro δ' ⟨s3, rfl⟩
    exact ⟨s3, rfl⟩
  rintro k δ' d en ⟨s3, rfl⟩
  rw [List.getElem?_map] at en
  obtain ⟨q, eq, rfl⟩ := Option.map_eq_some_iff.mp en
  have hq := hs q (List.mem_of_getElem? eq)
  have dp := den_pos' q
  have hz : ((q.den : Int)).natAbs < 2 ^ 8900 := two_pow_le' hq.dn (by decide)
  refine sx_seq (sx_no (et_or (a := false) (b := false || (false || false)) (et_not (b := true) (et_B (ev_cb (ea_cons (ev_var 3) (ea_cons ev_c ea_nil)) (by walk_at "hm_isi")))) (fun h => (et_or (a := false) (b := false || false) (et_is (et_test (ev_op (ev_cb (ea_cons (ev_var 3) ea_nil) (by walk_at "hm_len")) ev_c (by walk_at "hm_ne"))) rfl) (fun h => (et_or (a := false) (b := false) (et_not (b := true) (et_B (ev_call (ea_cons (ev_sub (ev_var 3) ev_c rv_R0) ea_nil) ⟨_, rfl, rfl⟩))) (fun h => (et_not (b := true) (et_B (ev_call (ea_cons (ev_sub (ev_var 3) ev_c rv_R1) ea_nil) ⟨_, rfl, rfl⟩))))))))) (sx_nil ?_))
  exact sx_no (et_or (a := false) (b := false) (et_is (et_test (ev_op (ev_sub (ev_var 3) ev_c rv_R1) ev_c rv_lt)) (decide_eq_false (by omega))) (fun h => (et_is (et_test (ev_op (ev_call (ea_cons (ev_sub (ev_var 3) ev_c rv_R0) (ea_cons (ev_sub (ev_var 3) ev_c rv_R1) ea_nil)) ⟨_, _, rfl, dp, hz, rfl⟩) (ev_var 3) rv_neR)) (by rw [self_div]; simp)))) (sx_nil ⟨_, rfl⟩)
def SListed6 (K : PySem.W.Frag) : Sem' := fun ds r => ∃ (xs : List (List Nat × List Rat)) (k : Nat), 0 < k ∧ (∀ x, x ∈ xs → x.2.length = k ∧ ∀ q, q ∈ x.2 → Sz 4000 q) ∧ xs.length ≤ 10000 ∧ ds = [dL K (xs.map (dWr K)), dL K (xs.map fun x => dC x.1), dI (k : Int)] ∧ r = .ok (dB true)
theorem ok__law_listed {P : Program} {w : World} {K : PySem.W.Frag} {mg : Str → Option Value} {base : Heap} (T : Top K mg) : FnOk P w K mg base CX0 3 T.f__law_listed T.fd__law_listed ["_law_found", "_law_places", "_law_many"] (spD (SListed6 K)) := by
  refine fn0 T.d__law_listed.F sc__law_listed (fun ds r h => by obtain ⟨xs, k, h0, hx, hl, rfl, rfl⟩ := h; rfl) fun cdv A outer s H E ds r hr h => ?_
  obtain ⟨xs, k, h0, hx, hl, rfl, rfl⟩ := h
  have hu := hu_of hr
  have hu64 := hr.units
  refine ⟨_, pss_cons (ps_if (PW.pt (pw_or (pt_not (pt_val (pe_callB call_isiU rfl T.z_isinstance (by decide +kernel) (pa_cons (pv 0) (pa_cons (pe_bltn (v := .ty "list") (u := .type "list") rfl T.z_list (by decide +kernel) rfl) pa_nil))))) (pw_or1 (pt_cmpR (op_neU hu64) (pe_callB call_lenV rfl T.z_len PySem.boot_len (pa_cons (pv 0) pa_nil)) (pe_callB call_lenV rfl T.z_len PySem.boot_len (pa_cons (pv 1) pa_nil)) (nomark _))))) (pss_one (ps_ret pe_bl)) pss_nil)
      (pss_one (ps_ret (pe_callB (cr_all rfl) rfl T.z_all (by decide +kernel) (pa_cons (pe_lc (own := [("_law_row", 3), ("_law_place", 4)]) (g := gTup K 2 (gCons (gName 3) (gCons (gName 4) (gNil)))) (tt := tYes) rfl sc__law_listed.nd (RZ.pi_zipA rfl T.z_zip (pa_cons (pv 0) (pa_cons (pv 1) pa_nil))) (blkOk_by (own := [("_law_row", 3), ("_law_place", 4)]) (N := n__law_listed) (sc := defScope s__law_listed) (by decide +kernel)) (fun _ _ _ _ _ => pg_tup rfl (pgs_cons (pg_name (i := 3) sc__law_listed.nd rfl (Or.inl rfl)) (pgs_cons (pg_name (i := 4) sc__law_listed.nd rfl (Or.inl rfl)) pgs_nil))) (fun _ _ _ _ _ => pts_nil) (fun _ _ _ _ _ => (pe_cl T.d__law_is_row (ok__law_is_row T) (hr.mono (by decide)) pass0 (pa_cons (pv 3) (pa_cons (pv 4) (pa_cons (pv 2) pa_nil)))))) pa_nil)))), ?_⟩
  refine sx_seq (sx_no (et_is (et_or (a := false) (et_not (b := true) (et_B (ev_cb (ea_cons (ev_var 0) (ea_cons ev_c ea_nil)) (rc_isiB ty_L (by decide +kernel))))) (fun h => (et_test (ev_op (ev_cb (ea_cons (ev_var 0) ea_nil) (by walk_at "hm_len")) (ev_cb (ea_cons (ev_var 1) ea_nil) (by walk_at "hm_len")) (by walk_at "hm_ne"))))) (by rw [List.length_map, List.length_map]; simp)) (sx_nil ?_))
  have hlc := eo_lcZ (E := fun _ => E) (K := K) (i := 3) (j := 4) (δ := entry n__law_listed [dL K (xs.map (dWr K)), dL K (xs.map fun x => dC x.1), dI (k : Int)]) (ta := tVar 0) (tb := tVar 1) (te := tCall (spD (SIsRow K)) [] E0 (tCons (tVar 3) (tCons (tVar 4) (tCons (tVar 2) tNil)))) xs (dWr K) (fun x => dC x.1) (fun _ => dB true) (ev_var 0) (ev_var 1) hl (fun x hm => by
    obtain ⟨h1, h2⟩ := hx x hm
    refine ev_call (ea_cons (ev_var 3) (ea_cons (ev_var 4) (ea_cons (ev_var 2) ea_nil))) ⟨x.1, x.2, h2, by omega, ?_, rfl⟩
    rw [h1])
  have hb := rc_all (K := K) (bs := xs.map fun _ => true)
  rw [List.map_map] at hb
  exact sx_ret (ev_eq (ev_cb (ea_cons (ev_pubL (K := K) hlc) ea_nil) hb) (congrArg dB (List.all_eq_true.mpr fun b hb => by obtain ⟨_, _, rfl⟩ := List.mem_map.mp hb; rfl))) rfl

/-! ### where each thing hangs, from its rod -/
def fφ (K : PySem.W.Frag) (m : Mb) : List Nat → Option Dn := fun q => (m.get q).map fun _ => dR K (far m q)
theorem fφ_at {K : PySem.W.Frag} {m s : Mb} {q : List Nat} (h : m.get q = some s) : fφ K m q = some (dR K (far m q)) := by unfold fφ; rw [h]; rfl
def SHung (K : PySem.W.Frag) : Sem' := fun ds r => ∃ (n : Nat) (m : Mb), M8 n m ∧ ds = [dFn (fφ K m), dRw K m] ∧ r = .ok (dB true)
theorem ok__law_hung {P : Program} {w : World} {K : PySem.W.Frag} {mg : Str → Option Value} {base : Heap} (T : Top K mg) : FnOk P w K mg base CX0 4 T.f__law_hung T.fd__law_hung ["_law_fars", "_law_rows"] (spD (SHung K)) := by
  refine fn0 T.d__law_hung.F sc__law_hung (fun ds r h => by obtain ⟨n, m, h8, rfl, rfl⟩ := h; rfl) fun cdv A outer s H E ds r hr h => ?_
  obtain ⟨n, m, h8, rfl, rfl⟩ := h
  have hu := hu_of hr
  have hu64 := hr.units
  refine ⟨_, pss_cons (ps_free (ps_for PassesOwn.never rfl (pi_keys (pv 1)) (pg_name (i := 2) sc__law_hung.nd rfl (Or.inl rfl)) (pss_cons (ps_if (pt_cmpR (op_eqU hu64) (pv 2) pe_str (nomark _)) (pss_one (ps_set (i := 3) sc__law_hung.nd rfl (Or.inl rfl) (pe_tup (pa_cons pe_int (pa_cons pe_int pa_nil))))) (pss_one (ps_if (pt_val (pe_m1 PySem.F.slot_str_endswith PySem.F.type_str_endswith mt_endswith (pv 2) pe_str)) (pss_one (ps_set (i := 3) sc__law_hung.nd rfl (Or.inl rfl) (pe_cl T.d__law_less (ok__law_less T) (hr.mono (by decide)) pass0 (pa_cons (pe_sub hu (pv 0) (pe_slice sl_U (pv 2) po_none (po_some (pe_un un_neg pe_int))) (fun _ _ => rfl)) (pa_cons (pe_sub hu (pe_sub hu (pv 1) (pe_slice sl_U (pv 2) po_none (po_some (pe_un un_neg pe_int))) (fun _ _ => rfl)) pe_int (fun _ _ => rfl)) pa_nil))))) (pss_one (ps_set (i := 3) sc__law_hung.nd rfl (Or.inl rfl) (pe_cl T.d__law_sum (ok__law_sum T) (hr.mono (by decide)) pass0 (pa_cons (pe_sub hu (pv 0) (pe_slice sl_U (pv 2) po_none (po_some (pe_un un_neg pe_int))) (fun _ _ => rfl)) (pa_cons (pe_sub hu (pe_sub hu (pv 1) (pe_slice sl_U (pv 2) po_none (po_some (pe_un un_neg pe_int))) (fun _ _ => rfl)) pe_int (fun _ _ => rfl)) pa_nil))))))))
      (pss_one (ps_if (pt_not (pt_val (pe_cl T.d__law_same (ok__law_same T) (hr.mono (by decide)) pass0 (pa_cons (pe_sub hu (pv 0) (pv 2) (fun _ _ => rfl)) (pa_cons (pv 3) pa_nil))))) (pss_one (ps_ret pe_bl)) pss_nil)))))
      (pss_one (ps_ret pe_bl)), ?_⟩
  have hk := h8.ok
  refine sx_mid (fun δ => True) ?_ (fun δ' _ => sx_ret ev_c rfl)
  refine sx_forK (φ := mφ K m) 1 rfl (fun l δ => ∃ s2 s3, δ = [some (.im (dFn (fφ K m))), some (.im (dRw K m)), s2, s3]) ⟨none, none, rfl⟩ ?_ (fun l δ' _ _ => True.intro)
  rintro L p δ' ⟨s2, s3, rfl⟩ hp hn
  obtain ⟨s, hs⟩ := Option.isSome_iff_exists.mp (Mb.mem_plc.mp (mφ_some.mpr hp))
  have hpl := hk.len hs
  have fp := fφ_at (K := K) hs
  refine sx_mid (fun δ => δ = [some (.im (dFn (fφ K m))), some (.im (dRw K m)), some (.im (dC p)), some (.im (dR K (far m p)))]) ?_ ?_
  · by_cases h0 : p = []
    · subst h0
      refine sx_yes (et_is (et_test (ev_op (ev_var 2) (ev_str [] rfl) (by walk_at "hm_eq"))) rfl) ?_
      refine sx_asg (ev_int (K := K) (ea_cons ev_c (ea_cons ev_c ea_nil))) ?_
      rw [far_nil]; rfl
    · refine sx_no (et_is (et_test (ev_op (ev_var 2) (ev_str [] rfl) (by walk_at "hm_eq"))) (decide_eq_false h0)) ?_
      obtain ⟨q, c, la, l, ra, n', rfl, hg, hf⟩ := rod_above h0 hs
      have hql := hk.len hg
      obtain ⟨z1, z2⟩ := hk.arm _ _ _ _ _ hg
      have zf : Sz 4000 (far m q) := (h8.farz hql).mono (by decide)
      have fq := fφ_at (K := K) hg
      have hab : ∀ {δ : DEnv}, δ[2]? = some (some (.im (dC (q ++ [c])))) → Ev (fun _ => E) (tSl (rSlU K) (tVar 2) tNoPart (tPart (tUn (rU fun i => .int (-i)) (tC (.int 1))))) δ (.ok (dC q)) := fun h => ev_above (ev_var 2 h) (ev_un ev_c ru_neg) (by omega)
      rcases hf with ⟨rfl, f⟩ | ⟨rfl, f⟩
      · refine sx_yes (et_is (et_B (ev_m1 (f := PySem.Txt.endswith) (ev_var 2) (ev_str [108] rfl))) (ends_l.trans rfl)) ?_
        refine sx_asg (ev_call (ea_cons (ev_getD (ev_var 0) (hab rfl) fq) (ea_cons (ev_sub (ev_getD (ev_var 1) (hab rfl) (mφ_r hg)) ev_c (rv_ixT 0 rfl rfl)) ea_nil)) ⟨_, la, zf, z1.mono (by decide), rfl, rfl⟩) ?_
        rw [f]; rfl
      · refine sx_no (et_is (et_B (ev_m1 (f := PySem.Txt.endswith) (ev_var 2) (ev_str [108] rfl))) (ends_l.trans rfl)) ?_
        refine sx_asg (ev_call (ea_cons (ev_getD (ev_var 0) (hab rfl) fq) (ea_cons (ev_sub (ev_getD (ev_var 1) (hab rfl) (mφ_r hg)) ev_c (rv_ixT 1 rfl rfl)) ea_nil)) ⟨_, ra, zf, z2.mono (by decide), rfl, rfl⟩) ?_
        rw [f]; rfl
  rintro _ rfl
  exact sx_no (et_not (b := true) (et_B (ev_call (ea_cons (ev_getD (ev_var 0) (ev_var 2) fp) (ea_cons (ev_var 3) ea_nil)) ⟨_, _, rfl, by simp⟩))) (sx_nil ⟨_, _, rfl⟩)
/-! ### middles -/
def mom : Mb → Rat
  | .w _ => 0
  | .r la l ra n => (ra * n.heft - la * l.heft) + (mom l + mom n)
def momAt (m : Mb) (q : List Nat) : Rat := match m.get q with
  | some s => mom s
  | none => 0
theorem momAt_s {m s : Mb} {q : List Nat} (h : m.get q = some s) : momAt m q = mom s := by unfold momAt; rw [h]
def tφ (K : PySem.W.Frag) (m : Mb) : List Nat → Option Dn := fun q => (m.get q).map fun s => dR K (s.heft * far m q + mom s)
def lφ (K : PySem.W.Frag) (m : Mb) : List Nat → Option Dn := fun q => (m.get q).map fun s => dR K (mom s)
def gapv (m : Mb) (q : List Nat) : Rat := (plv m q).2.2 - (plv m q).2.1
def gφ (K : PySem.W.Frag) (m : Mb) : List Nat → Option Dn := fun q => if isR m q = true then some (dR K (gapv m q)) else none
theorem gapv_r {m l n : Mb} {q : List Nat} {la ra : Rat} (h : m.get q = some (.r la l ra n)) : gapv m q = ra * n.heft - la * l.heft := by unfold gapv; rw [plv_r h]
theorem gφ_r {K : PySem.W.Frag} {m l n : Mb} {q : List Nat} {la ra : Rat} (h : m.get q = some (.r la l ra n)) : gφ K m q = some (dR K (ra * n.heft - la * l.heft)) := by
  have : isR m q = true := isR_iff.mpr ⟨la, ra, row_r.mpr ⟨l, n, h⟩⟩
  unfold gφ
  rw [if_pos this, gapv_r h]
theorem momQ {D A V W : Nat} : ∀ {m : Mb}, Bd D V A W m → m.dep ≤ 63 → 0 < D → 0 < A → Q (D * A) (V + 63 + W + 3 + 2 * m.dep) (mom m)
  | .w _, _, _, h1, h2 => Q.zero (Nat.mul_pos h1 h2)
  | .r la l ra n, h, hd, h1, h2 => by
    simp only [Mb.dep] at hd
    have bl := h.sub (p := [108]) (s := l) (by rw [Mb.get_l, Mb.get_nil])
    have bn := h.sub (p := [114]) (s := n) (by rw [Mb.get_r, Mb.get_nil])
    obtain ⟨q1, q2, _⟩ := h.arm [] la ra rfl
    have y1 := (bl.heft (by omega)).mul q1
    have y2 := (bn.heft (by omega)).mul q2
    have i1 := (momQ bl (by omega) h1 h2).mono (V' := V + 63 + W + 3 + 2 * max l.dep n.dep) (by omega)
    have i2 := (momQ bn (by omega) h1 h2).mono (V' := V + 63 + W + 3 + 2 * max l.dep n.dep) (by omega)
    have e : mom (.r la l ra n) = (n.heft * ra - l.heft * la) + (mom l + mom n) := by
      show (ra * n.heft - la * l.heft) + (mom l + mom n) = _
      grind
    rw [e]
    have g := (y2.sub y1).mono (V' := V + 63 + W + 3 + 2 * max l.dep n.dep + 1) (by omega)
    exact (g.add (i1.add i2)).mono (by simp only [Mb.dep]; omega)
theorem M8.sub6 {n : Nat} {m s : Mb} {q : List Nat} (h : M8 n m) (e : m.get q = some s) : Bd (dn n * 420) 213 A8 41 s ∧ s.dep ≤ 63 := ⟨h.bd.sub e, by have := Mb.get_dep e; have := h.dep; omega⟩
theorem da_lt {n : Nat} (h : n ≤ 61) : dn n * 420 * A8 < 2 ^ (609 + 22) := pow_mul_lt (d8_lt h) a8_lt
theorem M8.momz {n : Nat} {m s : Mb} {q : List Nat} (h : M8 n m) (e : m.get q = some s) : Sz 1100 (mom s) := by
  obtain ⟨b, d⟩ := h.sub6 e
  have hD : 0 < dn n * 420 := Nat.mul_pos (dn_pos n) (by decide)
  exact ((momQ b d hD (by decide)).mono (V' := 446) (by omega)).szm (d := 631) (da_lt h.le) (by decide)
theorem M8.turnz {n : Nat} {m s : Mb} {q : List Nat} (h : M8 n m) (e : m.get q = some s) : Sz 1200 (s.heft * far m q + mom s) := by
  obtain ⟨b, d⟩ := h.sub6 e
  have hq := h.ok.len e
  have hD : 0 < dn n * 420 := Nat.mul_pos (dn_pos n) (by decide)
  have y := (((b.heft d).mul ((h.farq q).mono (V' := 104) (by omega))).mono (V' := 446) (by decide)).add ((momQ b d hD (by decide)).mono (V' := 446) (by omega))
  exact y.szm (d := 631) (da_lt h.le) (by decide)
abbrev dPr (K : PySem.W.Frag) (m : Mb) (q : List Nat) : Dn := dT K [dR K (momAt m q), dR K (momAt m q)]
def SMid (K : PySem.W.Frag) : Sem' := fun ds r => ∃ (n : Nat) (m : Mb), M8 n m ∧ ds = [dRw K m, dFn (fφ K m), dFn (gφ K m)] ∧ r = .own (oL ((rpl m).reverse.map (dPr K m)))
theorem ok__law_middles {P : Program} {w : World} {K : PySem.W.Frag} {mg : Str → Option Value} {base : Heap} (T : Top K mg) : FnOk P w K mg base CX0 4 T.f__law_middles T.fd__law_middles ["_law_rows", "_law_fars", "_law_gaps"] (spD (SMid K)) := by
  refine fn0 T.d__law_middles.F sc__law_middles (fun ds r h => by obtain ⟨n8, m, h8, rfl, rfl⟩ := h; rfl) fun cdv A outer s H E ds r hr h => ?_
  obtain ⟨n8, m, h8, rfl, rfl⟩ := h
  have hu := hu_of hr
  have hu64 := hr.units
  refine ⟨_, pss_cons (ps_set (i := 3) sc__law_middles.nd rfl (Or.inl rfl) pe_dnewK)
      (pss_cons (ps_set (i := 4) sc__law_middles.nd rfl (Or.inl rfl) pe_dnewK)
      (pss_cons (ps_set (i := 5) sc__law_middles.nd rfl (Or.inl rfl) pe_dnewK)
      (pss_cons (ps_set (i := 6) sc__law_middles.nd rfl (Or.inl rfl) (pe_lst pa_nil))
      (pss_cons (ps_for PassesOwn.never rfl (RT.pi_revA rfl T.z_reversed (pe_callB (call_sortedDO rfl) rfl T.z_sorted (by decide +kernel) (pa_cons (pv 0) pa_nil))) (pg_name (i := 7) sc__law_middles.nd rfl (Or.inl rfl)) (pss_one (ps_if (pt_cmpR (op_eqU hu64) (pe_callB call_lenV rfl T.z_len PySem.boot_len (pa_cons (pe_sub hu (pv 0) (pv 7) (fun _ _ => rfl)) pa_nil)) pe_int (nomark _)) (pss_cons (ps_dput hu (pv 3) (pv 7) (pe_sub hu (pe_sub hu (pv 0) (pv 7) (fun _ _ => rfl)) pe_int (fun _ _ => rfl)) rfl)
      (pss_cons (ps_dput hu (pv 4) (pv 7) (pe_cl T.d__law_product (ok__law_product T) (hr.mono (by decide)) pass0 (pa_cons (pe_sub hu (pv 3) (pv 7) (fun _ _ => rfl)) (pa_cons (pe_sub hu (pv 1) (pv 7) (fun _ _ => rfl)) pa_nil))) rfl)
      (pss_one (ps_dput hu (pv 5) (pv 7) (pe_tup (pa_cons pe_int (pa_cons pe_int pa_nil))) rfl)))) (pss_cons (ps_dput hu (pv 3) (pv 7) (pe_cl T.d__law_sum (ok__law_sum T) (hr.mono (by decide)) pass0 (pa_cons (pe_sub hu (pv 3) (pe_op op_addU (pv 7) pe_str) (fun _ _ => rfl)) (pa_cons (pe_sub hu (pv 3) (pe_op op_addU (pv 7) pe_str) (fun _ _ => rfl)) pa_nil))) rfl)
      (pss_cons (ps_dput hu (pv 4) (pv 7) (pe_cl T.d__law_sum (ok__law_sum T) (hr.mono (by decide)) pass0 (pa_cons (pe_sub hu (pv 4) (pe_op op_addU (pv 7) pe_str) (fun _ _ => rfl)) (pa_cons (pe_sub hu (pv 4) (pe_op op_addU (pv 7) pe_str) (fun _ _ => rfl)) pa_nil))) rfl)
      (pss_cons (ps_set (i := 8) sc__law_middles.nd rfl (Or.inl rfl) (pe_cl T.d__law_sum (ok__law_sum T) (hr.mono (by decide)) pass0 (pa_cons (pe_sub hu (pv 5) (pe_op op_addU (pv 7) pe_str) (fun _ _ => rfl)) (pa_cons (pe_sub hu (pv 5) (pe_op op_addU (pv 7) pe_str) (fun _ _ => rfl)) pa_nil))))
      (pss_cons (ps_dput hu (pv 5) (pv 7) (pe_cl T.d__law_sum (ok__law_sum T) (hr.mono (by decide)) pass0 (pa_cons (pe_sub hu (pv 2) (pv 7) (fun _ _ => rfl)) (pa_cons (pv 8) pa_nil))) rfl)
      (pss_cons (ps_set (i := 9) sc__law_middles.nd rfl (Or.inl rfl) (pe_cl T.d__law_less (ok__law_less T) (hr.mono (by decide)) pass0 (pa_cons (pe_sub hu (pv 4) (pv 7) (fun _ _ => rfl)) (pa_cons (pe_cl T.d__law_product (ok__law_product T) (hr.mono (by decide)) pass0 (pa_cons (pe_sub hu (pv 3) (pv 7) (fun _ _ => rfl)) (pa_cons (pe_sub hu (pv 1) (pv 7) (fun _ _ => rfl)) pa_nil))) pa_nil))))
      (pss_one (ps_expr (pe_bm PySem.F.plainAttrs_list PySem.F.slot_list_append PySem.F.type_list_append mt_append (pv 6) (pa_cons (pe_tup (pa_cons (pv 9) (pa_cons (pe_sub hu (pv 5) (pv 7) (fun _ _ => rfl)) pa_nil))) pa_nil))))))))))))
      (pss_one (ps_ret (pv 6))))))), ?_⟩
  have hk := h8.ok
  have hl := m.plc_len
  have hc := hk.cnt
  refine sx_seq (sx_asgO eo_dnewF ?_)
  refine sx_seq (sx_asgO eo_dnewF ?_)
  refine sx_seq (sx_asgO eo_dnewF ?_)
  refine sx_seq (sx_asgO (eo_lst ea_nil (by decide)) ?_)
  refine sx_mid (fun δ => ∃ s3 s4 s5 s7 s8 s9, δ = [some (.im (dRw K m)), some (.im (dFn (fφ K m))), some (.im (dFn (gφ K m))), s3, s4, s5, some (.ow (oL ((rpl m).reverse.map (dPr K m)))), s7, s8, s9]) ?_ ?_
  rotate_left
  · rintro _ ⟨s3, s4, s5, s7, s8, s9, rfl⟩
    exact sx_retV 6 rfl rfl
  refine sx_forRv (ev_pubL (K := K) (eo_cb (ea_cons (ev_var 0) ea_nil) (ro_sortedF m.plc (fun p => mφ_some) m.plc_sorted (by omega)))) (fun n δ => ∃ s7 s8 s9, δ = [some (.im (dRw K m)), some (.im (dFn (fφ K m))), some (.im (dFn (gφ K m))), some (.ow (oFn (inL (hφ K m) (m.plc.drop (m.plc.length - n))))), some (.ow (oFn (inL (tφ K m) (m.plc.drop (m.plc.length - n))))), some (.ow (oFn (inL (lφ K m) (m.plc.drop (m.plc.length - n))))), some (.ow (oL (((m.plc.drop (m.plc.length - n)).filter (isR m)).reverse.map (dPr K m)))), s7, s8, s9]) ⟨none, none, none, ?_⟩ ?_ ?_
  · rw [inL_zero, inL_zero, inL_zero, Nat.sub_zero, List.drop_eq_nil_of_le (Nat.le_refl _)]; rfl
  · rintro n δ' d hn en ⟨s7, s8, s9, rfl⟩
    rw [List.length_map] at hn
    rw [List.length_map, List.getElem?_map] at en
    obtain ⟨p, ep, rfl⟩ := Option.map_eq_some_iff.mp en
    obtain ⟨s, hs⟩ := Option.isSome_iff_exists.mp (Mb.mem_plc.mp (List.mem_of_getElem? ep))
    have hpl := hk.len hs
    have hφs : hφ K m p = some (dR K s.heft) := by unfold hφ; rw [hs]; rfl
    have tφs : tφ K m p = some (dR K (s.heft * far m p + mom s)) := by unfold tφ; rw [hs]; rfl
    have lφs : lφ K m p = some (dR K (mom s)) := by unfold lφ; rw [hs]; rfl
    have fφs := fφ_at (K := K) hs
    have zf : Sz 4000 (far m p) := (h8.farz hpl).mono (by decide)
    have eh := inL_put hn ep hφs
    have et := inL_put hn ep tφs
    have el := inL_put hn ep lφs
    have ed := drop_turn hn ep
    have hin : p ∈ m.plc.drop (m.plc.length - (n + 1)) := by rw [ed]; exact List.mem_cons_self
    have hLh := inL_dom (φ := hφ K m) (m := m) (k := m.plc.length - n)
    have hLt := inL_dom (φ := tφ K m) (m := m) (k := m.plc.length - n)
    have hLl := inL_dom (φ := lφ K m) (m := m) (k := m.plc.length - n)
    have gh := (inL_at (φ := hφ K m) hin).trans hφs
    have gt := (inL_at (φ := tφ K m) hin).trans tφs
    have gl := (inL_at (φ := lφ K m) hin).trans lφs
    have zh : Sz 4000 s.heft := (hk.hft _ _ hs).mono (by decide)
    have zt : Sz 4000 (s.heft * far m p + mom s) := (h8.turnz hs).mono (by decide)
    cases s with
    | w a =>
      have hn0 : ¬ isR m p = true := by unfold isR; rw [hs]; exact fun z => nomatch z
      refine sx_yes (et_is (et_isW (ev_var 0) (ev_var 7) (by rw [hs]; rfl)) (isW_iff.mpr ⟨a, hs⟩)) ?_
      refine sx_mid (fun δ => δ = [some (.im (dRw K m)), some (.im (dFn (fφ K m))), some (.im (dFn (gφ K m))), some (.ow (oFn (inL (hφ K m) (m.plc.drop (m.plc.length - (n + 1)))))), some (.ow (oFn (inL (tφ K m) (m.plc.drop (m.plc.length - n))))), some (.ow (oFn (inL (lφ K m) (m.plc.drop (m.plc.length - n))))), some (.ow (oL (((m.plc.drop (m.plc.length - n)).filter (isR m)).reverse.map (dPr K m)))), some (.im (dC p)), s8, s9]) ?_ ?_
      · refine sx_dput 3 rfl (ev_sub (ev_getD (ev_var 0) (ev_var 7) (mφ_w hs)) ev_c (rv_ixT 0 rfl rfl)) (ev_var 7) _ hLh (by omega) ?_
        have eh : (fun q => if q = p then some (dR K a) else inL (hφ K m) (m.plc.drop (m.plc.length - n)) q) = _ := eh
        rw [← eh]; rfl
      rintro _ rfl
      refine sx_mid (fun δ => δ = [some (.im (dRw K m)), some (.im (dFn (fφ K m))), some (.im (dFn (gφ K m))), some (.ow (oFn (inL (hφ K m) (m.plc.drop (m.plc.length - (n + 1)))))), some (.ow (oFn (inL (tφ K m) (m.plc.drop (m.plc.length - (n + 1)))))), some (.ow (oFn (inL (lφ K m) (m.plc.drop (m.plc.length - n))))), some (.ow (oL (((m.plc.drop (m.plc.length - n)).filter (isR m)).reverse.map (dPr K m)))), some (.im (dC p)), s8, s9]) ?_ ?_
      · refine sx_dput 4 rfl (ev_call (ea_cons (ev_getO 3 rfl (ev_var 7) gh) (ea_cons (ev_getD (ev_var 1) (ev_var 7) fφs) ea_nil)) ⟨_, Fr.of (far m p), zh, zf, rfl, rfl⟩) (ev_var 7) _ hLt (by omega) ?_
        have e0 : (Mb.w a).heft * (Fr.of (far m p)).v = (Mb.w a).heft * far m p + mom (.w a) := by
          show (Mb.w a).heft * far m p = (Mb.w a).heft * far m p + 0
          grind
        rw [e0, ← et]; rfl
      rintro _ rfl
      refine sx_dput 5 rfl (d := dR K (mom (.w a))) (ev_int (K := K) (ea_cons ev_c (ea_cons ev_c ea_nil))) (ev_var 7) _ hLl (by omega) ⟨some (.im (dC p)), s8, s9, ?_⟩
      have e3 : ((m.plc.drop (m.plc.length - (n + 1))).filter (isR m)) = (m.plc.drop (m.plc.length - n)).filter (isR m) := by rw [ed, List.filter_cons_of_neg hn0]
      rw [e3, ← el]; rfl
    | r la l ra m' =>
      obtain ⟨k1, k2⟩ := get_kid hs
      obtain ⟨c1, c2⟩ := kids_in hn ep hs
      have hr : isR m p = true := isR_iff.mpr ⟨la, ra, row_r.mpr ⟨l, m', hs⟩⟩
      obtain ⟨f1, f2⟩ := far_snoc hs
      have hn0 : isW m p = false := by unfold isW; rw [hs]
      have a1 : p.length + [108].length ≤ 100000 := by simp only [List.length_singleton]; omega
      have a2 : p.length + [114].length ≤ 100000 := a1
      have kl : ∀ {δ : DEnv}, δ[7]? = some (some (.im (dC p))) → Ev (fun _ => E) (tOp rAddU (tVar 7) (tC (.str "l"))) δ (.ok (dC (p ++ [108]))) := fun h => ev_op (ev_var 7 h) (ev_str [108] rfl) (rv_addS a1)
      have kr : ∀ {δ : DEnv}, δ[7]? = some (some (.im (dC p))) → Ev (fun _ => E) (tOp rAddU (tVar 7) (tC (.str "r"))) δ (.ok (dC (p ++ [114]))) := fun h => ev_op (ev_var 7 h) (ev_str [114] rfl) (rv_addS a2)
      have h1 : inL (hφ K m) (m.plc.drop (m.plc.length - n)) (p ++ [108]) = some (dR K l.heft) := (inL_at c1).trans (by unfold hφ; rw [k1]; rfl)
      have h2 : inL (hφ K m) (m.plc.drop (m.plc.length - n)) (p ++ [114]) = some (dR K m'.heft) := (inL_at c2).trans (by unfold hφ; rw [k2]; rfl)
      have t1 : inL (tφ K m) (m.plc.drop (m.plc.length - n)) (p ++ [108]) = some (dR K (l.heft * far m (p ++ [108]) + mom l)) := (inL_at c1).trans (by unfold tφ; rw [k1]; rfl)
      have t2 : inL (tφ K m) (m.plc.drop (m.plc.length - n)) (p ++ [114]) = some (dR K (m'.heft * far m (p ++ [114]) + mom m')) := (inL_at c2).trans (by unfold tφ; rw [k2]; rfl)
      have l1 : inL (lφ K m) (m.plc.drop (m.plc.length - n)) (p ++ [108]) = some (dR K (mom l)) := (inL_at c1).trans (by unfold lφ; rw [k1]; rfl)
      have l2 : inL (lφ K m) (m.plc.drop (m.plc.length - n)) (p ++ [114]) = some (dR K (mom m')) := (inL_at c2).trans (by unfold lφ; rw [k2]; rfl)
      have zl : Sz 1100 (mom l) := h8.momz k1
      have zr : Sz 1100 (mom m') := h8.momz k2
      refine sx_no (et_is (et_isW (ev_var 0) (ev_var 7) (by rw [hs]; rfl)) hn0) ?_
      refine sx_mid (fun δ => δ = [some (.im (dRw K m)), some (.im (dFn (fφ K m))), some (.im (dFn (gφ K m))), some (.ow (oFn (inL (hφ K m) (m.plc.drop (m.plc.length - (n + 1)))))), some (.ow (oFn (inL (tφ K m) (m.plc.drop (m.plc.length - n))))), some (.ow (oFn (inL (lφ K m) (m.plc.drop (m.plc.length - n))))), some (.ow (oL (((m.plc.drop (m.plc.length - n)).filter (isR m)).reverse.map (dPr K m)))), some (.im (dC p)), s8, s9]) ?_ ?_
      · refine sx_dput 3 rfl (ev_call (ea_cons (ev_getO 3 rfl (kl rfl) h1) (ea_cons (ev_getO 3 rfl (kr rfl) h2) ea_nil)) ⟨l.heft, m'.heft, (hk.hft _ _ k1).mono (by decide), (hk.hft _ _ k2).mono (by decide), rfl, rfl⟩) (ev_var 7) _ hLh (by omega) ?_
        have eh : (fun q => if q = p then some (dR K (l.heft + m'.heft)) else inL (hφ K m) (m.plc.drop (m.plc.length - n)) q) = _ := eh
        rw [← eh]; rfl
      rintro _ rfl
      refine sx_mid (fun δ => δ = [some (.im (dRw K m)), some (.im (dFn (fφ K m))), some (.im (dFn (gφ K m))), some (.ow (oFn (inL (hφ K m) (m.plc.drop (m.plc.length - (n + 1)))))), some (.ow (oFn (inL (tφ K m) (m.plc.drop (m.plc.length - (n + 1)))))), some (.ow (oFn (inL (lφ K m) (m.plc.drop (m.plc.length - n))))), some (.ow (oL (((m.plc.drop (m.plc.length - n)).filter (isR m)).reverse.map (dPr K m)))), some (.im (dC p)), s8, s9]) ?_ ?_
      · refine sx_dput 4 rfl (ev_call (ea_cons (ev_getO 4 rfl (kl rfl) t1) (ea_cons (ev_getO 4 rfl (kr rfl) t2) ea_nil)) ⟨_, _, (h8.turnz k1).mono (by decide), (h8.turnz k2).mono (by decide), rfl, rfl⟩) (ev_var 7) _ hLt (by omega) ?_
        have e0 : l.heft * far m (p ++ [108]) + mom l + (m'.heft * far m (p ++ [114]) + mom m') = (Mb.r la l ra m').heft * far m p + mom (.r la l ra m') := by
          rw [f1, f2]
          show _ = (l.heft + m'.heft) * far m p + ((ra * m'.heft - la * l.heft) + (mom l + mom m'))
          grind
        rw [e0, ← et]; rfl
      rintro _ rfl
      refine sx_seq (sx_asg (ev_call (ea_cons (ev_getO 5 rfl (kl rfl) l1) (ea_cons (ev_getO 5 rfl (kr rfl) l2) ea_nil)) ⟨_, _, zl.mono (by decide), zr.mono (by decide), rfl, rfl⟩) ?_)
      obtain ⟨z1, z2⟩ := hk.arm _ _ _ _ _ hs
      have zg : Sz 4000 (ra * m'.heft - la * l.heft) := ((z2.mul (hk.hft _ _ k2)).sub (z1.mul (hk.hft _ _ k1))).mono (by decide)
      refine sx_mid (fun δ => δ = [some (.im (dRw K m)), some (.im (dFn (fφ K m))), some (.im (dFn (gφ K m))), some (.ow (oFn (inL (hφ K m) (m.plc.drop (m.plc.length - (n + 1)))))), some (.ow (oFn (inL (tφ K m) (m.plc.drop (m.plc.length - (n + 1)))))), some (.ow (oFn (inL (lφ K m) (m.plc.drop (m.plc.length - (n + 1)))))), some (.ow (oL (((m.plc.drop (m.plc.length - n)).filter (isR m)).reverse.map (dPr K m)))), some (.im (dC p)), some (.im (dR K (mom l + mom m'))), s9]) ?_ ?_
      · refine sx_dput 5 rfl (ev_call (ea_cons (ev_getD (ev_var 2) (ev_var 7) (gφ_r hs)) (ea_cons (ev_var 8) ea_nil)) ⟨_, _, zg, (zl.add zr).mono (by decide), rfl, rfl⟩) (ev_var 7) _ hLl (by omega) ?_
        rw [← el]; rfl
      rintro _ rfl
      refine sx_seq (sx_asg (d := dR K (mom (.r la l ra m'))) (ev_eq (ev_call (ea_cons (ev_getO 4 rfl (ev_var 7) gt) (ea_cons (ev_call (ea_cons (ev_getO 3 rfl (ev_var 7) gh) (ea_cons (ev_getD (ev_var 1) (ev_var 7) fφs) ea_nil)) ⟨_, Fr.of (far m p), zh, zf, rfl, rfl⟩) ea_nil)) ⟨_, (Mb.r la l ra m').heft * far m p, zt, ((hk.hft _ _ hs).mul (h8.farz hpl)).mono (by decide), rfl, rfl⟩) ?_) ?_)
      · congr 1
        grind
      have em := momAt_s hs
      refine sx_app 6 rfl (ev_tup (K := K) (ea_cons (ev_var 9) (ea_cons (ev_getO 5 rfl (ev_var 7) gl) ea_nil)) (show 2 ≤ 1000 by decide)) ?_ ⟨some (.im (dC p)), some (.im (dR K (mom l + mom m'))), some (.im (dR K (mom (.r la l ra m')))), ?_⟩
      · rw [List.length_map, List.length_reverse]
        refine Nat.lt_of_le_of_lt (List.length_filter_le _ _) ?_
        rw [List.length_drop]; omega
      · rw [ed, List.filter_cons_of_pos hr, List.reverse_cons, List.map_append, ← em]; rfl
  · rintro δ' ⟨s7, s8, s9, rfl⟩
    refine ⟨some (.ow (oFn (inL (hφ K m) (m.plc.drop (m.plc.length - (m.plc.map fun p => dC p).length))))), some (.ow (oFn (inL (tφ K m) (m.plc.drop (m.plc.length - (m.plc.map fun p => dC p).length))))), some (.ow (oFn (inL (lφ K m) (m.plc.drop (m.plc.length - (m.plc.map fun p => dC p).length))))), s7, s8, s9, ?_⟩
    congr 6
    rw [List.length_map, Nat.sub_self, List.drop_zero]
/-- level just where no middle is off -/
theorem tips_nil {m : Mb} : tips m = [] ↔ ∀ q la l ra n, m.get q = some (.r la l ra n) → la * l.heft = ra * n.heft := by
  rw [tips_rpl, List.filter_eq_nil_iff]
  constructor
  · intro h q la l ra n hg
    have := h q (mem_rpl.mpr ⟨la, ra, row_r.mpr ⟨l, n, hg⟩⟩)
    unfold tp at this
    rw [plv_r hg] at this
    simpa using this
  · intro h q hq
    obtain ⟨la, ra, e⟩ := mem_rpl.mp hq
    obtain ⟨l, n, hg⟩ := row_r.mp e
    unfold tp
    rw [plv_r hg]
    simpa using h q la l ra n hg
theorem mom_zero {m : Mb} (h : tips m = []) : ∀ {s : Mb} {q : List Nat}, m.get q = some s → mom s = 0
  | .w _, _, _ => rfl
  | .r la l ra n, q, e => by
    obtain ⟨k1, k2⟩ := get_kid e
    have i1 := mom_zero h k1
    have i2 := mom_zero h k2
    have g := tips_nil.mp h q la l ra n e
    show (ra * n.heft - la * l.heft) + (mom l + mom n) = 0
    rw [i1, i2, g]; grind
theorem mids_iff {m : Mb} : tips m = [] ↔ ∀ q, q ∈ rpl m → momAt m q = 0 := by
  constructor
  · intro h q hq
    obtain ⟨la, ra, e⟩ := mem_rpl.mp hq
    obtain ⟨l, n, hg⟩ := row_r.mp e
    rw [momAt_s hg]
    exact mom_zero h hg
  · intro h
    refine tips_nil.mpr fun q la l ra n hg => ?_
    have z : ∀ {s : Mb} {q : List Nat}, m.get q = some s → mom s = 0 := fun {s q} e => by
      cases s with
      | w a => rfl
      | r la l ra n =>
        have := h q (mem_rpl.mpr ⟨la, ra, row_r.mpr ⟨l, n, e⟩⟩)
        rwa [momAt_s e] at this
    obtain ⟨k1, k2⟩ := get_kid hg
    have e0 : (ra * n.heft - la * l.heft) + (mom l + mom n) = 0 := z hg
    rw [z k1, z k2] at e0
    grind

/-! ### law k06 -/
theorem M8.tx {n : Nat} {m : Mb} (h : M8 n m) : (tx m).length ≤ 100000 := by
  have h1 := tx_len8 (m := m) (fun q la l ra s e => by
    obtain ⟨_, _, _, _, y1, y2, _⟩ := h.arm e
    exact ⟨y1, y2⟩) (fun q s e => h.ok.hft q s e)
  have := h.cnt
  omega
abbrev dPq (K : PySem.W.Frag) (m : Mb) (q : List Nat) : Dn := dT K [dC q, dR K (plv m q).2.1, dR K (plv m q).2.2]
theorem inT_put {φ : List Nat → Option Dn} {L : List (List Nat)} {n : Nat} {p : List Nat} {d : Dn} (ep : L[n]? = some p) (h : φ p = some d) : (fun q => if q = p then some d else inL φ (L.take n) q) = inL φ (L.take (n + 1)) := by
  funext q
  rw [take_snoc ep]
  unfold inL
  by_cases hq : q = p
  · subst hq
    rw [if_pos rfl, if_pos (List.mem_append_right _ List.mem_cons_self), h]
  · rw [if_neg hq]
    by_cases h2 : q ∈ L.take n
    · rw [if_pos h2, if_pos (List.mem_append_left _ h2)]
    · rw [if_neg h2, if_neg fun z => (List.mem_append.mp z).elim h2 fun w => hq (List.mem_singleton.mp w)]
theorem inT_dom {φ : List Nat → Option Dn} {L M : List (List Nat)} {n : Nat} (h : ∀ q, q ∈ L → q ∈ M) : ∀ q, (inL φ (L.take n) q).isSome = true → q ∈ M := fun q hq => by
  unfold inL at hq
  split at hq
  · rename_i z; exact h q (List.mem_of_mem_take z)
  · cases hq
theorem inT_zero {φ : List Nat → Option Dn} {L : List (List Nat)} : inL φ (L.take 0) = fun _ => none := by
  funext q
  unfold inL
  exact if_neg (by rw [List.take_zero]; exact List.not_mem_nil)
theorem inT_all {φ : List Nat → Option Dn} {L : List (List Nat)} {n : Nat} (hn : L.length ≤ n) (h : ∀ q, q ∉ L → φ q = none) : inL φ (L.take n) = φ := by
  funext q
  unfold inL
  rw [List.take_of_length_le hn]
  by_cases hq : q ∈ L
  · rw [if_pos hq]
  · rw [if_neg hq, h q hq]
theorem ok_law {P : Program} {w : World} {K : PySem.W.Frag} {mg : Str → Option Value} {base : Heap} (T : Top K mg) : FnOk P w K mg base CX0 110 T.f_law T.fd_law ["_law_script"] (spD (SLaw K)) := by
  refine fn0 T.d_law.F sc_law (fun ds r h => by obtain ⟨ns, hl, rfl, rfl⟩ := h; rfl) fun cdv A outer s H E ds r hr h => ?_
  obtain ⟨ns, hl, rfl, rfl⟩ := h
  have hu := hu_of hr
  have hu64 := hr.units
  refine ⟨_, pss_cons (ps_set (i := 1) sc_law.nd rfl (Or.inl rfl) (pe_op op_mod (pe_cl T.d__law_cell_at (ok__law_cell_at T) (hr.mono (by decide)) pass0 (pa_cons (pv 0) (pa_cons pe_int pa_nil))) pe_int))
      (pss_cons (ps_set (i := 2) sc_law.nd rfl (Or.inl rfl) (pe_op op_mod (pv 1) pe_int))
      (pss_cons (ps_set (i := 3) sc_law.nd rfl (Or.inr rfl) (pe_cl T.d__law_grown (ok__law_grown T) (hr.mono (by decide)) pass0 (pa_cons (pv 0) (pa_cons (pv 2) (pa_cons (pe_op op_mod (pe_op op_fdivW (pv 1) pe_int) pe_int) pa_nil)))))
      (pss_cons (ps_set (i := 3) sc_law.nd rfl (Or.inr rfl) (pe_cl T.d__law_tipped (ok__law_tipped T) (hr.mono (by decide)) pass0 (pa_cons (pv 3) (pa_cons (pv 2) (pa_cons (pe_cl T.d__law_mixed (ok__law_mixed T) (hr.mono (by decide)) pass0 (pa_cons (pe_cl T.d__law_cell_at (ok__law_cell_at T) (hr.mono (by decide)) pass0 (pa_cons (pv 0) (pa_cons pe_int pa_nil))) (pa_cons pe_int pa_nil))) pa_nil)))))
      (pss_cons (ps_set (i := 4) sc_law.nd rfl (Or.inl rfl) (pe_cl T.d_read (ok_read T) (hr.mono (by decide)) passL (pa_cons (pe_cl T.d__law_written (ok__law_written T 70) (hr.mono (by decide)) pass0 (pa_cons (pv 3) (pa_cons pe_str pa_nil))) pa_nil)))
      (pss_cons (ps_if (pt_cmpR (op_eqU hu64) (pe_op op_mod (pe_op op_fdivW (pv 1) pe_int) pe_int) pe_int (nomark _)) (pss_cons (ps_set (i := 4) sc_law.nd rfl (Or.inl rfl) (pe_cl T.d__law_made (ok__law_made T 70) (hr.mono (by decide)) pass0 (pa_cons (pv 3) (pa_cons pe_str (pa_cons (pe_sub hu (pe_lst (pa_cons pe_non (pa_cons pe_dnewT pa_nil))) (pe_op op_mod (pe_op op_fdivW (pv 1) pe_int) pe_int) (fun _ _ => rfl)) pa_nil)))))
      (pss_one (ps_if (pt_cmpR op_lt (pe_callB call_lenV rfl T.z_len PySem.boot_len (pa_cons (pv 3) pa_nil)) pe_int (nomark _)) (pss_cons (ps_set (i := 5) sc_law.nd rfl (Or.inl rfl) (pe_cl T.d__law_ends (ok__law_ends T) (hr.mono (by decide)) pass0 (pa_cons (pv 1) (pa_cons (pv 2) pa_nil))))
      (pss_cons (ps_set (i := 4) sc_law.nd rfl (Or.inl rfl) (pe_mkC T.mk_Rod (ok_Rod___init__ T) (hr.mono (by decide)) T.o_Rod.g T.d_Rod___init__.b passL (pa_cons (pe_sub hu (pv 5) pe_int (fun _ _ => rfl)) (pa_cons (pv 4) (pa_cons (pe_sub hu (pv 5) pe_int (fun _ _ => rfl)) (pa_cons (pv 4) pa_nil))))))
      (pss_one (ps_set (i := 3) sc_law.nd rfl (Or.inr rfl) (pe_cl T.d__law_twice (ok__law_twice T) (hr.mono (by decide)) pass0 (pa_cons (pv 3) (pa_cons (pv 5) pa_nil))))))) pss_nil))) pss_nil)
      (pss_cons (ps_set (i := 6) sc_law.nd rfl (Or.inl rfl) (pe_callB (call_sortedDO rfl) rfl T.z_sorted (by decide +kernel) (pa_cons (pv 3) pa_nil)))
      (pss_cons (ps_set (i := 7) sc_law.nd rfl (Or.inl rfl) (pe_cl T.d_drawn (ok_drawn T) (hr.mono (by decide)) passL (pa_cons (pv 4) pa_nil)))
      (pss_cons (ps_set (i := 8) sc_law.nd rfl (Or.inl rfl) (pe_cl T.d_pulls (ok_pulls T) (hr.mono (by decide)) passL (pa_cons (pv 4) pa_nil)))
      (pss_cons (ps_if (pt_not (pt_val (pe_cl T.d__law_listed (ok__law_listed T) (hr.mono (by decide)) pass0 (pa_cons (pv 7) (pa_cons (pv 6) (pa_cons pe_int pa_nil)))))) (pss_one (ps_ret pe_bl)) pss_nil)
      (pss_cons (ps_if (pt_not (pt_val (pe_cl T.d__law_listed (ok__law_listed T) (hr.mono (by decide)) pass0 (pa_cons (pv 8) (pa_cons (pe_lc (own := [("_law_place", 10)]) (g := gName 10) rfl sc_law.nd (pi_list (pv 6)) (blkOk_by (own := [("_law_place", 10)]) (N := n_law) (sc := defScope s_law) (by decide +kernel)) (fun _ _ _ _ _ => pg_name (i := 10) sc_law.nd rfl (Or.inl rfl)) (fun _ _ _ _ _ => pts_one (pt_cmpR (r := rEqU K) (op_eqU hu64) (pe_callB (r := rLenV K) call_lenV rfl T.z_len PySem.boot_len (pa_cons (pe_subK K rfl hu (pv 3) (pv 10) (fun _ _ => rfl)) pa_nil)) pe_int (nomark _))) (fun _ _ _ _ _ => (pv 10))) (pa_cons pe_int pa_nil)))))) (pss_one (ps_ret pe_bl)) pss_nil)
      (pss_cons (ps_set (i := 9) sc_law.nd rfl (Or.inl rfl) pe_dnewK)
      (pss_cons (ps_for PassesOwn.never rfl (pi_list (pv 7)) (pg_tup rfl (pgs_cons (pg_name (i := 10) sc_law.nd rfl (Or.inl rfl)) (pgs_cons (pg_name (i := 11) sc_law.nd rfl (Or.inl rfl)) pgs_nil))) (pss_one (ps_dput hu (pv 9) (pv 10) (pv 11) rfl)))
      (pss_cons (ps_set (i := 12) sc_law.nd rfl (Or.inl rfl) pe_dnewK)
      (pss_cons (ps_for PassesOwn.never rfl (pi_list (pv 8)) (pg_tup rfl (pgs_cons (pg_name (i := 10) sc_law.nd rfl (Or.inl rfl)) (pgs_cons (pg_name (i := 13) sc_law.nd rfl (Or.inl rfl)) (pgs_cons (pg_name (i := 14) sc_law.nd rfl (Or.inl rfl)) pgs_nil)))) (pss_one (ps_dput hu (pv 12) (pv 10) (pe_cl T.d__law_less (ok__law_less T) (hr.mono (by decide)) pass0 (pa_cons (pv 14) (pa_cons (pv 13) pa_nil))) rfl)))
      (pss_cons (ps_if (pt_not (pt_val (pe_cl T.d__law_hung (ok__law_hung T) (hr.mono (by decide)) pass0 (pa_cons (pv 9) (pa_cons (pv 3) pa_nil))))) (pss_one (ps_ret pe_bl)) pss_nil)
      (pss_cons (ps_set (i := 15) sc_law.nd rfl (Or.inl rfl) (pe_cl T.d__law_middles (ok__law_middles T) (hr.mono (by decide)) pass0 (pa_cons (pv 3) (pa_cons (pv 9) (pa_cons (pv 12) pa_nil)))))
      (pss_cons (ps_for PassesOwn.never rfl (pi_list (pv 15)) (pg_tup rfl (pgs_cons (pg_name (i := 16) sc_law.nd rfl (Or.inl rfl)) (pgs_cons (pg_name (i := 17) sc_law.nd rfl (Or.inl rfl)) pgs_nil))) (pss_one (ps_if (pt_cmpR (op_neU hu64) (pv 16) (pv 17) (nomark _)) (pss_one (ps_ret pe_bl)) pss_nil)))
      (pss_cons (ps_set (i := 18) sc_law.nd rfl (Or.inl rfl) (pe_callTy call_listL rfl T.z_list (by decide +kernel) (pa_cons (pv 7) pa_nil)))
      (pss_cons (ps_expr (pe_bm PySem.F.plainAttrs_list PySem.F.slot_list_append PySem.F.type_list_append mt_append (pv 7) (pa_cons pe_non pa_nil)))
      (pss_cons (ps_set (i := 19) sc_law.nd rfl (Or.inl rfl) (pe_cl T.d_hangs_level (ok_hangs_level T) (hr.mono (by decide)) passL (pa_cons (pv 4) pa_nil)))
      (pss_cons (ps_if (PW.pt (pw_or (pt_not (pt_val (pe_callB call_isiU rfl T.z_isinstance (by decide +kernel) (pa_cons (pv 19) (pa_cons (pe_bltn (v := .ty "bool") (u := .type "bool") rfl T.z_bool (by decide +kernel) rfl) pa_nil))))) (pw_or1 (pt_cmpR (op_neU hu64) (pv 19) (pe_callB (cr_all rfl) rfl T.z_all (by decide +kernel) (pa_cons (pe_lc (own := [("_law_here", 16), ("_law_due", 17)]) (g := gTup K 2 (gCons (gName 16) (gCons (gName 17) (gNil)))) (tt := tYes) rfl sc_law.nd (pi_list (pv 15)) (blkOk_by (own := [("_law_here", 16), ("_law_due", 17)]) (N := n_law) (sc := defScope s_law) (by decide +kernel)) (fun _ _ _ _ _ => pg_tup rfl (pgs_cons (pg_name (i := 16) sc_law.nd rfl (Or.inl rfl)) (pgs_cons (pg_name (i := 17) sc_law.nd rfl (Or.inl rfl)) pgs_nil))) (fun _ _ _ _ _ => pts_nil) (fun _ _ _ _ _ => (pe_cmpR (r := rEqU K) (op_eqU hu64) (pv 16) (pe_tup (pa_cons pe_int (pa_cons pe_int pa_nil))) (nomark _)))) pa_nil)) (nomark _))))) (pss_one (ps_ret pe_bl)) pss_nil)
      (pss_one (ps_ret (pe_cmpR (op_eqU hu64) (pe_cl T.d_drawn (ok_drawn T) (hr.mono (by decide)) passL (pa_cons (pv 4) pa_nil)) (pv 18) (nomark _))))))))))))))))))))))))), ?_⟩
  have cell : ∀ k : Nat, SCell K [dL K (ns.map fun i => dI i), dI (k : Int)] (.ok (dI (cellAt ns k))) := fun k => ⟨ns, k, hl, rfl, rfl⟩
  refine sx_seq (sx_asg (ev_op (ev_call (ea_cons (ev_var 0) (ea_cons ev_c ea_nil)) (cell 0)) ev_c (rv_mod (by decide))) ?_)
  have hh : 0 ≤ cellAt ns 0 % 1000003 := by omega
  generalize cellAt ns 0 % 1000003 = head at hh ⊢
  refine sx_seq (sx_asg (ev_op (ev_var 1) ev_c (rv_mod (by decide))) ?_)
  generalize head % 5 = kind
  refine sx_seq (sx_asgO (eo_call (ea_cons (ev_var 0) (ea_cons (ev_var 2) (ea_cons (ev_op (ev_op (ev_var 1) ev_c (rv_div ⟨by decide, by decide +kernel⟩)) ev_c (rv_mod (by decide))) ea_nil))) ⟨ns, _, _, hl, rfl, rfl⟩) ?_)
  refine sx_seq (sx_asgT 3 rfl (ea_cons (ev_var 2) (ea_cons (ev_mix (ev_call (ea_cons (ev_var 0) (ea_cons ev_c ea_nil)) (cell 1)) ev_c (by decide)) ea_nil)) ⟨kind, rfl, rfl, rfl⟩ ?_)
  refine sx_openO 3 rfl fun m ht => ?_
  obtain ⟨n, h8⟩ := ht.m8
  refine sx_pubF (φ := mφ K m) 3 rfl ?_
  have hk2 : Mok 2500 m := h8.ok.mono (by decide)
  have hdm := h8.dep
  refine sx_seq (sx_asg (ev_call (ea_cons (ev_call (ea_cons (ev_var 3) (ea_cons (ev_str [] rfl) ea_nil)) ⟨m, m, [], h8.ok.mono (by decide), Mb.get_nil m, by omega, rfl, rfl⟩) ea_nil) ⟨m, h8.ok.mono (by decide), h8.tx, rfl, rfl⟩) ?_)
  refine sx_mid (fun δ => ∃ m s5, M8 n m ∧ δ = [some (.im (dL K (ns.map fun i => dI i))), some (.im (dI head)), some (.im (dI kind)), some (.im (dRw K m)), some (.im (dMb T m)), s5, none, none, none, none, none, none, none, none, none, none, none, none, none, none]) ?_ ?_
  · have hlen := m.plc_len
    refine sx_if (et_test (ev_op (ev_op (ev_op (ev_var 1) ev_c (rv_div ⟨by decide, by decide +kernel⟩)) ev_c (rv_mod (by decide))) ev_c (by walk_at "hm_eq"))) (fun h => ?_) (fun h => sx_nil ⟨m, _, h8, rfl⟩)
    refine sx_seq (sx_asg (ev_made0 T hk2 (ev_var 3) (ev_str [] rfl) (ev_op (ev_op (ev_var 1) ev_c (rv_div ⟨by decide, by decide +kernel⟩)) ev_c (rv_mod (by decide))) (by omega)) ?_)
    refine sx_if (et_test (ev_op (ev_cb (ea_cons (ev_var 3) ea_nil) (rc_lenF m.plc (fun p => mφ_some) m.plc_nodup)) ev_c rv_lt)) (fun h => ?_) (fun h => sx_nil ⟨m, _, h8, rfl⟩)
    have h2 := of_decide_eq_true h
    refine sx_seq (sx_asgE (ev_call (ea_cons (ev_var 1) (ea_cons (ev_var 2) ea_nil)) ⟨_, _, rfl, rfl⟩) fun ab hab => ?_)
    obtain ⟨la, ra⟩ := ab
    obtain ⟨l0, r0, lz, rz, lq, rq, _⟩ := hab
    have z := (h8.ok.hft [] m (Mb.get_nil m))
    refine sx_seq (sx_asg (ev_mkR T (ea_cons (ev_sub (ev_var 5) ev_c (rv_ixT 0 rfl rfl)) (ea_cons (ev_var 4) (ea_cons (ev_sub (ev_var 5) ev_c (rv_ixT 1 rfl rfl)) (ea_cons (ev_var 4) ea_nil)))) (lz.mono (by decide)) (rz.mono (by decide)) (z.mono (by decide)) (z.mono (by decide)) l0 r0) ?_)
    exact sx_asg (ev_pubF (eo_call (ea_cons (ev_var 3) (ea_cons (ev_var 5) ea_nil)) ⟨m, (la, ra), by omega, rfl, rfl⟩)) ⟨.r la m ra m, _, h8.two (by omega) l0 r0 lq rq, rfl⟩
  clear h8 ht hk2 hdm m
  rintro _ ⟨m, s5, h8, rfl⟩
  have hk := h8.ok
  have hc := hk.cnt
  have hd := hk.dep
  have hlen := m.plc_len
  have hk2 : Mok 2500 m := hk.mono (by decide)
  have hrl : (rpl m).length ≤ m.plc.length := List.length_filter_le _ _
  refine sx_seq (sx_asg (ev_pubL (K := K) (eo_cb (ea_cons (ev_var 3) ea_nil) (ro_sortedF m.plc (fun p => mφ_some) m.plc_sorted (by omega)))) ?_)
  refine sx_seq (sx_asgO (eo_call (ea_cons (ev_var 4) ea_nil) ⟨n, m, h8, rfl, rfl⟩) ?_)
  have epl : (pls m).map (dPl K) = (rpl m).map (dPq K m) := by
    rw [pls_rpl, List.map_map]
    refine List.map_congr_left fun q _ => ?_
    show dT K [dC (plv m q).1, _, _] = _
    rw [plv_fst]
  refine sx_seq (sx_asg (d := dL K ((rpl m).map (dPq K m))) (ev_eq (ev_pubL (K := K) (eo_call (ea_cons (ev_var 4) ea_nil) ⟨m, hk2, rfl, rfl⟩)) (by rw [epl])) ?_)
  have farz : ∀ p, p ∈ m.plc → Sz 4000 (far m p) := fun p hp => by
    obtain ⟨s, hs⟩ := Option.isSome_iff_exists.mp (Mb.mem_plc.mp hp)
    exact (h8.farz (hk.len hs)).mono (by decide)
  have plz : ∀ q, q ∈ rpl m → Sz 4000 (plv m q).2.1 ∧ Sz 4000 (plv m q).2.2 := fun q hq => by
    obtain ⟨la, ra, e⟩ := mem_rpl.mp hq
    obtain ⟨l, s, hg⟩ := row_r.mp e
    obtain ⟨z1, z2⟩ := hk.arm _ _ _ _ _ hg
    obtain ⟨k1, k2⟩ := get_kid hg
    rw [plv_r hg]
    exact ⟨(z1.mul (hk.hft _ _ k1)).mono (by decide), (z2.mul (hk.hft _ _ k2)).mono (by decide)⟩
  have e1 : m.plc.map (dHg K m) = (m.plc.map fun p => (p, [far m p])).map (dWr K) := by rw [List.map_map]; rfl
  have e2 : (m.plc.map fun p => dC p) = (m.plc.map fun p => (p, [far m p])).map fun x => dC x.1 := by rw [List.map_map]; rfl
  have e3 : (rpl m).map (dPq K m) = ((rpl m).map fun q => (q, [(plv m q).2.1, (plv m q).2.2])).map (dWr K) := by rw [List.map_map]; rfl
  have e4 : ((rpl m).map fun p => dC p) = ((rpl m).map fun q => (q, [(plv m q).2.1, (plv m q).2.2])).map fun x => dC x.1 := by rw [List.map_map]; rfl
  have l1 : SListed6 K [dL K (m.plc.map (dHg K m)), dL K (m.plc.map fun p => dC p), dI 1] (.ok (dB true)) := ⟨m.plc.map fun p => (p, [far m p]), 1, by decide, fun x hx => by
    obtain ⟨p, hp, rfl⟩ := List.mem_map.mp hx
    exact ⟨rfl, fun q hq => by rw [List.mem_singleton.mp hq]; exact farz p hp⟩, by rw [List.length_map]; omega, by rw [e1, e2]; rfl, rfl⟩
  have l2 : SListed6 K [dL K ((rpl m).map (dPq K m)), dL K ((rpl m).map fun p => dC p), dI 2] (.ok (dB true)) := ⟨(rpl m).map fun q => (q, [(plv m q).2.1, (plv m q).2.2]), 2, by decide, fun x hx => by
    obtain ⟨p, hp, rfl⟩ := List.mem_map.mp hx
    refine ⟨rfl, fun q hq => ?_⟩
    rcases List.mem_cons.mp hq with rfl | hq
    · exact (plz p hp).1
    · rw [List.mem_singleton.mp hq]; exact (plz p hp).2, by rw [List.length_map]; omega, by rw [e3, e4]; rfl, rfl⟩
  refine sx_seq (sx_no (et_lendL (K := K) 7 rfl (et_not (b := true) (et_B (ev_call (ea_cons (ev_var 7) (ea_cons (ev_var 6) (ea_cons ev_c ea_nil))) l1)))) (sx_nil ?_))
  refine sx_seq (sx_no (et_not (b := true) (et_B (ev_call (ea_cons (ev_var 8) (ea_cons (ev_pubL (K := K) (eo_lcL m.plc (fun p => dC p) (isR m) (fun p => dC p) (ev_var 6) (by omega) (fun p hp => et_isR (ev_var 3) (ev_var 10) (Mb.mem_plc.mp hp)) (fun p hp hb => (ev_var 10)))) (ea_cons ev_c ea_nil))) l2))) (sx_nil ?_))
  refine sx_seq (sx_asgO eo_dnewF ?_)
  refine sx_mid (fun δ => ∃ s10 s11, δ = [some (.im (dL K (ns.map fun i => dI i))), some (.im (dI head)), some (.im (dI kind)), some (.im (dRw K m)), some (.im (dMb T m)), s5, some (.im (dL K (m.plc.map fun p => dC p))), some (.ow (oL (m.plc.map (dHg K m)))), some (.im (dL K ((rpl m).map (dPq K m)))), some (.ow (oFn (fφ K m))), s10, s11, none, none, none, none, none, none, none, none]) ?_ ?_
  · refine sx_forO2 m.plc (fun p => dC p) (fun p => dR K (far m p)) 7 rfl (fun c k δ => ∃ s10 s11, δ = [some (.im (dL K (ns.map fun i => dI i))), some (.im (dI head)), some (.im (dI kind)), some (.im (dRw K m)), some (.im (dMb T m)), s5, some (.im (dL K (m.plc.map fun p => dC p))), some (.ow c), some (.im (dL K ((rpl m).map (dPq K m)))), some (.ow (oFn (inL (fφ K m) (m.plc.take k)))), s10, s11, none, none, none, none, none, none, none, none]) (fun x vs => ⟨none, none, by rw [inT_zero]; rfl⟩) (by rintro c k δ' ⟨s10, s11, rfl⟩; rfl) ?_ ?_
    · rintro X vs k δ' p ep ⟨s10, s11, rfl⟩
      have hp := List.mem_of_getElem? ep
      obtain ⟨s, hs⟩ := Option.isSome_iff_exists.mp (Mb.mem_plc.mp hp)
      refine sx_dput 9 rfl (ev_var 11) (ev_var 10) m.plc (inT_dom fun _ h => h) (by omega) ⟨some (.im (dC p)), some (.im (dR K (far m p))), ?_⟩
      rw [← inT_put ep (fφ_at (K := K) hs)]; rfl
    · rintro c δ' ⟨s10, s11, rfl⟩
      refine ⟨s10, s11, ?_⟩
      rw [inT_all (Nat.le_refl _) fun q hq => ?_]
      · rfl
      · unfold fφ
        cases e : m.get q with
        | none => rfl
        | some s => exact absurd (Mb.mem_plc.mpr (by rw [e]; rfl)) hq
  rintro _ ⟨s10, s11, rfl⟩
  refine sx_pubF (φ := fφ K m) 9 rfl ?_
  refine sx_seq (sx_asgO eo_dnewF ?_)
  refine sx_mid (fun δ => ∃ s10 s13 s14, δ = [some (.im (dL K (ns.map fun i => dI i))), some (.im (dI head)), some (.im (dI kind)), some (.im (dRw K m)), some (.im (dMb T m)), s5, some (.im (dL K (m.plc.map fun p => dC p))), some (.ow (oL (m.plc.map (dHg K m)))), some (.im (dL K ((rpl m).map (dPq K m)))), some (.im (dFn (fφ K m))), s10, s11, some (.ow (oFn (gφ K m))), s13, s14, none, none, none, none, none]) ?_ ?_
  · refine sx_forL3 (rpl m) (fun q => dC q) (fun q => dR K (plv m q).2.1) (fun q => dR K (plv m q).2.2) (ev_var 8) (fun k δ => ∃ s10 s13 s14, δ = [some (.im (dL K (ns.map fun i => dI i))), some (.im (dI head)), some (.im (dI kind)), some (.im (dRw K m)), some (.im (dMb T m)), s5, some (.im (dL K (m.plc.map fun p => dC p))), some (.ow (oL (m.plc.map (dHg K m)))), some (.im (dL K ((rpl m).map (dPq K m)))), some (.im (dFn (fφ K m))), s10, s11, some (.ow (oFn (inL (gφ K m) ((rpl m).take k)))), s13, s14, none, none, none, none, none]) ⟨s10, none, none, by rw [inT_zero]; rfl⟩ ?_ ?_
    · rintro k δ' q eq ⟨s10, s13, s14, rfl⟩
      have hq := List.mem_of_getElem? eq
      obtain ⟨y1, y2⟩ := plz q hq
      have hg : gφ K m q = some (dR K ((plv m q).2.2 - (plv m q).2.1)) := by
        unfold gφ
        rw [if_pos (isR_iff.mpr (mem_rpl.mp hq))]
        rfl
      refine sx_dput 12 rfl (ev_call (ea_cons (ev_var 14) (ea_cons (ev_var 13) ea_nil)) ⟨_, _, y2, y1, rfl, rfl⟩) (ev_var 10) (rpl m) (inT_dom fun _ h => h) (by omega) ⟨some (.im (dC q)), some (.im (dR K (plv m q).2.1)), some (.im (dR K (plv m q).2.2)), ?_⟩
      rw [← inT_put eq hg]; rfl
    · rintro δ' ⟨s10, s13, s14, rfl⟩
      refine ⟨s10, s13, s14, ?_⟩
      rw [inT_all (Nat.le_refl _) fun q hq => ?_]
      have : ¬ isR m q = true := fun z => hq (mem_rpl.mpr (isR_iff.mp z))
      unfold gφ
      rw [if_neg this]
  clear s10
  rintro _ ⟨s10, s13, s14, rfl⟩
  refine sx_pubF (φ := gφ K m) 12 rfl ?_
  refine sx_seq (sx_no (et_not (b := true) (et_B (ev_call (ea_cons (ev_var 9) (ea_cons (ev_var 3) ea_nil)) ⟨n, m, h8, rfl, rfl⟩))) (sx_nil ?_))
  refine sx_seq (sx_asg (ev_pubL (K := K) (eo_call (ea_cons (ev_var 3) (ea_cons (ev_var 9) (ea_cons (ev_var 12) ea_nil))) ⟨n, m, h8, rfl, rfl⟩)) ?_)
  have hrev : (rpl m).reverse.length ≤ 10000 := by rw [List.length_reverse]; omega
  refine sx_mid (fun δ => ∃ s16 s17, δ = [some (.im (dL K (ns.map fun i => dI i))), some (.im (dI head)), some (.im (dI kind)), some (.im (dRw K m)), some (.im (dMb T m)), s5, some (.im (dL K (m.plc.map fun p => dC p))), some (.ow (oL (m.plc.map (dHg K m)))), some (.im (dL K ((rpl m).map (dPq K m)))), some (.im (dFn (fφ K m))), s10, s11, some (.im (dFn (gφ K m))), s13, s14, some (.im (dL K ((rpl m).reverse.map (dPr K m)))), s16, s17, none, none]) ?_ ?_
  · refine sx_forL2 (rpl m).reverse (fun q => dR K (momAt m q)) (fun q => dR K (momAt m q)) (ev_var 15) (fun k δ => ∃ s16 s17, δ = [some (.im (dL K (ns.map fun i => dI i))), some (.im (dI head)), some (.im (dI kind)), some (.im (dRw K m)), some (.im (dMb T m)), s5, some (.im (dL K (m.plc.map fun p => dC p))), some (.ow (oL (m.plc.map (dHg K m)))), some (.im (dL K ((rpl m).map (dPq K m)))), some (.im (dFn (fφ K m))), s10, s11, some (.im (dFn (gφ K m))), s13, s14, some (.im (dL K ((rpl m).reverse.map (dPr K m)))), s16, s17, none, none]) ⟨none, none, rfl⟩ ?_ ?_
    · rintro k δ' q eq ⟨s16, s17, rfl⟩
      exact sx_no (et_is (et_test (ev_op (ev_var 16) (ev_var 17) rv_neR)) (by simp)) (sx_nil ⟨_, _, rfl⟩)
    · rintro δ' ⟨s16, s17, rfl⟩
      exact ⟨s16, s17, rfl⟩
  rintro _ ⟨s16, s17, rfl⟩
  refine sx_seq (sx_asgO (eo_listO 7 rfl) ?_)
  refine sx_pubL (K := K) 18 rfl ?_
  refine sx_seq (sx_app 7 rfl ev_c (by rw [List.length_map]; omega) ?_)
  refine sx_seq (sx_asg (ev_call (ea_cons (ev_var 4) ea_nil) ⟨m, hk2, rfl, rfl⟩) ?_)
  have hb := rc_all (K := K) (bs := (rpl m).reverse.map fun q => decide (momAt m q = ((0 : Int) : Rat)))
  rw [List.map_map] at hb
  have ea : ((rpl m).reverse.map fun q => decide (momAt m q = ((0 : Int) : Rat))).all id = decide (tips m = []) := by
    rw [Bool.eq_iff_iff, List.all_eq_true, decide_eq_true_iff, mids_iff]
    constructor
    · intro h q hq
      exact of_decide_eq_true (h _ (List.mem_map.mpr ⟨q, List.mem_reverse.mpr hq, rfl⟩))
    · intro h b hb
      obtain ⟨q, hq, rfl⟩ := List.mem_map.mp hb
      exact decide_eq_true (h q (List.mem_reverse.mp hq))
  rw [ea] at hb
  refine sx_seq (sx_no (et_or (a := false) (b := false) (et_not (b := true) (et_B (ev_cb (ea_cons (ev_var 19) (ea_cons ev_c ea_nil)) (rc_isiB ty_B (by decide +kernel))))) (fun h => (et_is (et_test (ev_op (ev_var 19) (ev_cb (ea_cons (ev_pubL (K := K) (eo_lcL2 (rpl m).reverse (fun q => dR K (momAt m q)) (fun q => dR K (momAt m q)) (fun q => dB (decide (momAt m q = ((0 : Int) : Rat)))) (ev_var 15) hrev (fun q hq => (ev_op (ev_var 16) (ev_int (K := K) (ea_cons ev_c (ea_cons ev_c ea_nil))) rv_eqR)))) ea_nil) hb) rv_neB)) (by simp)))) (sx_nil ?_))
  have e5 : m.plc.map (dHg K m) = (m.plc.map fun p => (p, far m p)).map fun x => dT K [dC x.1, dR K x.2] := by rw [List.map_map]; rfl
  refine sx_ret (ev_op (ev_eq (ev_pubL (K := K) (eo_call (ea_cons (ev_var 4) ea_nil) ⟨n, m, h8, rfl, rfl⟩)) (y := dL K ((m.plc.map fun p => (p, far m p)).map fun x => dT K [dC x.1, dR K x.2])) (by rw [e5])) (ev_var (d := dL K ((m.plc.map fun p => (p, far m p)).map fun x => dT K [dC x.1, dR K x.2])) 18 (by rw [← e5]; rfl)) (rv_eqPairs fun x hx => ?_)) rfl
  obtain ⟨p, hp, rfl⟩ := List.mem_map.mp hx
  exact Mb.okC_get (Mb.mem_plc.mp hp)

/-! ### the end -/
theorem all_mk {P : Program} {w : World} {K : PySem.W.Frag} {h : Heap} {mg : Str → Option Value} {fa : Addr} (X : K.In h) (G : h.Ns mainGlobals mg) (hfa : mg "law" = some (.ref fa))
    {f_divisor f_fraction f_plus f_minus f_times f_under f_pulls f_first_tipping f_hangs_level f_drawn f_figures_end f_number_at f_past f_thing_at f_read f__law_cell_at f__law_whole f__law_same f__law_lowest f__law_sum f__law_less f__law_product f__law_quotient f__law_mixed f__law_amount f__law_arms f__law_spot f__law_grown f__law_tipped f__law_made f__law_twice f__law_ends f__law_number f__law_written f__law_is_row f__law_listed f__law_hung f__law_middles f_law f_Hung_places f_Hung_at f_Weight___init__ f_Weight_heft f_Rod___init__ f_Rod_heft f_Rod_places f_Rod_at c_MobileError c_NoNumber c_NoPlace c_NoText c_Hung c_Weight c_Rod a_NOUGHT : Addr}
    {od0 an0 od1 an1 od2 an2 od3 an3 od4 an4 od5 an5 od6 an6 od7 an7 od8 an8 od9 an9 od10 an10 od11 an11 od12 an12 od13 an13 od14 an14 od15 an15 od16 an16 od17 an17 od18 an18 od19 an19 od20 an20 od21 an21 od22 an22 od23 an23 od24 an24 od25 an25 od26 an26 od27 an27 od28 an28 od29 an29 od30 an30 od31 an31 od32 an32 od33 an33 od34 an34 od35 an35 od36 an36 od37 an37 od38 an38 : Option Addr} {sl0 sl1 sl2 sl3 sl4 sl5 sl6 sl7 sl8 sl9 sl10 sl11 sl12 sl13 sl14 sl15 sl16 sl17 sl18 sl19 sl20 sl21 sl22 sl23 sl24 sl25 sl26 sl27 sl28 sl29 sl30 sl31 sl32 sl33 sl34 sl35 sl36 sl37 sl38 : Array (Option Value)} {oc0 kV0 dc0 pm0 cd0 ct0 oc1 kV1 dc1 pm1 cd1 ct1 oc2 kV2 dc2 pm2 cd2 ct2 oc3 kV3 dc3 pm3 cd3 ct3 oc4 kV4 dc4 pm4 cd4 ct4 oc5 kV5 dc5 pm5 cd5 ct5 oc6 kV6 dc6 pm6 cd6 ct6 oc7 kV7 dc7 pm7 cd7 ct7 oc8 kV8 dc8 pm8 cd8 ct8 oc9 kV9 dc9 pm9 cd9 ct9 oc10 kV10 dc10 pm10 cd10 ct10 oc11 kV11 dc11 pm11 cd11 ct11 oc12 kV12 dc12 pm12 cd12 ct12 oc13 kV13 dc13 pm13 cd13 ct13 oc14 kV14 dc14 pm14 cd14 ct14 oc15 kV15 dc15 pm15 cd15 ct15 oc16 kV16 dc16 pm16 cd16 ct16 oc17 kV17 dc17 pm17 cd17 ct17 oc18 kV18 dc18 pm18 cd18 ct18 oc19 kV19 dc19 pm19 cd19 ct19 oc20 kV20 dc20 pm20 cd20 ct20 oc21 kV21 dc21 pm21 cd21 ct21 oc22 kV22 dc22 pm22 cd22 ct22 oc23 kV23 dc23 pm23 cd23 ct23 oc24 kV24 dc24 pm24 cd24 ct24 oc25 kV25 dc25 pm25 cd25 ct25 oc26 kV26 dc26 pm26 cd26 ct26 oc27 kV27 dc27 pm27 cd27 ct27 oc28 kV28 dc28 pm28 cd28 ct28 oc29 kV29 dc29 pm29 cd29 ct29 oc30 kV30 dc30 pm30 cd30 ct30 oc31 kV31 dc31 pm31 cd31 ct31 oc32 kV32 dc32 pm32 cd32 ct32 oc33 kV33 dc33 pm33 cd33 ct33 oc34 kV34 dc34 pm34 cd34 ct34 oc35 kV35 dc35 pm35 cd35 ct35 oc36 kV36 dc36 pm36 cd36 ct36 oc37 kV37 dc37 pm37 cd37 ct37 oc38 kV38 dc38 pm38 cd38 ct38 : Value}
    (a0 : PySem.W.nsIn K mainGlobals "divisor" = some (some (.ref f_divisor))) (l0 : K.lookup f_divisor = some ⟨oc0, od0, .func (PySem.W.fnOf "divisor" "divisor" (defArgs s_divisor) (defBody s_divisor) (defScope s_divisor) .none kV0 dc0 pm0 an0 cd0 ct0), sl0⟩) (cc0 : PySem.W.codeIn K cd0 "divisor" = true) (k0 : PySem.W.keepIn K (.ref f_divisor) = true)
    (a1 : PySem.W.nsIn K mainGlobals "fraction" = some (some (.ref f_fraction))) (l1 : K.lookup f_fraction = some ⟨oc1, od1, .func (PySem.W.fnOf "fraction" "fraction" (defArgs s_fraction) (defBody s_fraction) (defScope s_fraction) .none kV1 dc1 pm1 an1 cd1 ct1), sl1⟩) (cc1 : PySem.W.codeIn K cd1 "fraction" = true) (k1 : PySem.W.keepIn K (.ref f_fraction) = true)
    (a2 : PySem.W.nsIn K mainGlobals "plus" = some (some (.ref f_plus))) (l2 : K.lookup f_plus = some ⟨oc2, od2, .func (PySem.W.fnOf "plus" "plus" (defArgs s_plus) (defBody s_plus) (defScope s_plus) .none kV2 dc2 pm2 an2 cd2 ct2), sl2⟩) (cc2 : PySem.W.codeIn K cd2 "plus" = true) (k2 : PySem.W.keepIn K (.ref f_plus) = true)
    (a3 : PySem.W.nsIn K mainGlobals "minus" = some (some (.ref f_minus))) (l3 : K.lookup f_minus = some ⟨oc3, od3, .func (PySem.W.fnOf "minus" "minus" (defArgs s_minus) (defBody s_minus) (defScope s_minus) .none kV3 dc3 pm3 an3 cd3 ct3), sl3⟩) (cc3 : PySem.W.codeIn K cd3 "minus" = true) (k3 : PySem.W.keepIn K (.ref f_minus) = true)
    (a4 : PySem.W.nsIn K mainGlobals "times" = some (some (.ref f_times))) (l4 : K.lookup f_times = some ⟨oc4, od4, .func (PySem.W.fnOf "times" "times" (defArgs s_times) (defBody s_times) (defScope s_times) .none kV4 dc4 pm4 an4 cd4 ct4), sl4⟩) (cc4 : PySem.W.codeIn K cd4 "times" = true) (k4 : PySem.W.keepIn K (.ref f_times) = true)
    (a5 : PySem.W.nsIn K mainGlobals "under" = some (some (.ref f_under))) (l5 : K.lookup f_under = some ⟨oc5, od5, .func (PySem.W.fnOf "under" "under" (defArgs s_under) (defBody s_under) (defScope s_under) .none kV5 dc5 pm5 an5 cd5 ct5), sl5⟩) (cc5 : PySem.W.codeIn K cd5 "under" = true) (k5 : PySem.W.keepIn K (.ref f_under) = true)
    (a6 : PySem.W.nsIn K mainGlobals "pulls" = some (some (.ref f_pulls))) (l6 : K.lookup f_pulls = some ⟨oc6, od6, .func (PySem.W.fnOf "pulls" "pulls" (defArgs s_pulls) (defBody s_pulls) (defScope s_pulls) .none kV6 dc6 pm6 an6 cd6 ct6), sl6⟩) (cc6 : PySem.W.codeIn K cd6 "pulls" = true) (k6 : PySem.W.keepIn K (.ref f_pulls) = true)
    (a7 : PySem.W.nsIn K mainGlobals "first_tipping" = some (some (.ref f_first_tipping))) (l7 : K.lookup f_first_tipping = some ⟨oc7, od7, .func (PySem.W.fnOf "first_tipping" "first_tipping" (defArgs s_first_tipping) (defBody s_first_tipping) (defScope s_first_tipping) .none kV7 dc7 pm7 an7 cd7 ct7), sl7⟩) (cc7 : PySem.W.codeIn K cd7 "first_tipping" = true) (k7 : PySem.W.keepIn K (.ref f_first_tipping) = true)
    (a8 : PySem.W.nsIn K mainGlobals "hangs_level" = some (some (.ref f_hangs_level))) (l8 : K.lookup f_hangs_level = some ⟨oc8, od8, .func (PySem.W.fnOf "hangs_level" "hangs_level" (defArgs s_hangs_level) (defBody s_hangs_level) (defScope s_hangs_level) .none kV8 dc8 pm8 an8 cd8 ct8), sl8⟩) (cc8 : PySem.W.codeIn K cd8 "hangs_level" = true) (k8 : PySem.W.keepIn K (.ref f_hangs_level) = true)
    (a9 : PySem.W.nsIn K mainGlobals "drawn" = some (some (.ref f_drawn))) (l9 : K.lookup f_drawn = some ⟨oc9, od9, .func (PySem.W.fnOf "drawn" "drawn" (defArgs s_drawn) (defBody s_drawn) (defScope s_drawn) .none kV9 dc9 pm9 an9 cd9 ct9), sl9⟩) (cc9 : PySem.W.codeIn K cd9 "drawn" = true) (k9 : PySem.W.keepIn K (.ref f_drawn) = true)
    (a10 : PySem.W.nsIn K mainGlobals "figures_end" = some (some (.ref f_figures_end))) (l10 : K.lookup f_figures_end = some ⟨oc10, od10, .func (PySem.W.fnOf "figures_end" "figures_end" (defArgs s_figures_end) (defBody s_figures_end) (defScope s_figures_end) .none kV10 dc10 pm10 an10 cd10 ct10), sl10⟩) (cc10 : PySem.W.codeIn K cd10 "figures_end" = true) (k10 : PySem.W.keepIn K (.ref f_figures_end) = true)
    (a11 : PySem.W.nsIn K mainGlobals "number_at" = some (some (.ref f_number_at))) (l11 : K.lookup f_number_at = some ⟨oc11, od11, .func (PySem.W.fnOf "number_at" "number_at" (defArgs s_number_at) (defBody s_number_at) (defScope s_number_at) .none kV11 dc11 pm11 an11 cd11 ct11), sl11⟩) (cc11 : PySem.W.codeIn K cd11 "number_at" = true) (k11 : PySem.W.keepIn K (.ref f_number_at) = true)
    (a12 : PySem.W.nsIn K mainGlobals "past" = some (some (.ref f_past))) (l12 : K.lookup f_past = some ⟨oc12, od12, .func (PySem.W.fnOf "past" "past" (defArgs s_past) (defBody s_past) (defScope s_past) .none kV12 dc12 pm12 an12 cd12 ct12), sl12⟩) (cc12 : PySem.W.codeIn K cd12 "past" = true) (k12 : PySem.W.keepIn K (.ref f_past) = true)
    (a13 : PySem.W.nsIn K mainGlobals "thing_at" = some (some (.ref f_thing_at))) (l13 : K.lookup f_thing_at = some ⟨oc13, od13, .func (PySem.W.fnOf "thing_at" "thing_at" (defArgs s_thing_at) (defBody s_thing_at) (defScope s_thing_at) .none kV13 dc13 pm13 an13 cd13 ct13), sl13⟩) (cc13 : PySem.W.codeIn K cd13 "thing_at" = true) (k13 : PySem.W.keepIn K (.ref f_thing_at) = true)
    (a14 : PySem.W.nsIn K mainGlobals "read" = some (some (.ref f_read))) (l14 : K.lookup f_read = some ⟨oc14, od14, .func (PySem.W.fnOf "read" "read" (defArgs s_read) (defBody s_read) (defScope s_read) .none kV14 dc14 pm14 an14 cd14 ct14), sl14⟩) (cc14 : PySem.W.codeIn K cd14 "read" = true) (k14 : PySem.W.keepIn K (.ref f_read) = true)
    (a15 : PySem.W.nsIn K mainGlobals "_law_cell_at" = some (some (.ref f__law_cell_at))) (l15 : K.lookup f__law_cell_at = some ⟨oc15, od15, .func (PySem.W.fnOf "_law_cell_at" "_law_cell_at" (defArgs s__law_cell_at) (defBody s__law_cell_at) (defScope s__law_cell_at) .none kV15 dc15 pm15 an15 cd15 ct15), sl15⟩) (cc15 : PySem.W.codeIn K cd15 "_law_cell_at" = true) (k15 : PySem.W.keepIn K (.ref f__law_cell_at) = true)
    (a16 : PySem.W.nsIn K mainGlobals "_law_whole" = some (some (.ref f__law_whole))) (l16 : K.lookup f__law_whole = some ⟨oc16, od16, .func (PySem.W.fnOf "_law_whole" "_law_whole" (defArgs s__law_whole) (defBody s__law_whole) (defScope s__law_whole) .none kV16 dc16 pm16 an16 cd16 ct16), sl16⟩) (cc16 : PySem.W.codeIn K cd16 "_law_whole" = true) (k16 : PySem.W.keepIn K (.ref f__law_whole) = true)
    (a17 : PySem.W.nsIn K mainGlobals "_law_same" = some (some (.ref f__law_same))) (l17 : K.lookup f__law_same = some ⟨oc17, od17, .func (PySem.W.fnOf "_law_same" "_law_same" (defArgs s__law_same) (defBody s__law_same) (defScope s__law_same) .none kV17 dc17 pm17 an17 cd17 ct17), sl17⟩) (cc17 : PySem.W.codeIn K cd17 "_law_same" = true) (k17 : PySem.W.keepIn K (.ref f__law_same) = true)
    (a18 : PySem.W.nsIn K mainGlobals "_law_lowest" = some (some (.ref f__law_lowest))) (l18 : K.lookup f__law_lowest = some ⟨oc18, od18, .func (PySem.W.fnOf "_law_lowest" "_law_lowest" (defArgs s__law_lowest) (defBody s__law_lowest) (defScope s__law_lowest) .none kV18 dc18 pm18 an18 cd18 ct18), sl18⟩) (cc18 : PySem.W.codeIn K cd18 "_law_lowest" = true) (k18 : PySem.W.keepIn K (.ref f__law_lowest) = true)
    (a19 : PySem.W.nsIn K mainGlobals "_law_sum" = some (some (.ref f__law_sum))) (l19 : K.lookup f__law_sum = some ⟨oc19, od19, .func (PySem.W.fnOf "_law_sum" "_law_sum" (defArgs s__law_sum) (defBody s__law_sum) (defScope s__law_sum) .none kV19 dc19 pm19 an19 cd19 ct19), sl19⟩) (cc19 : PySem.W.codeIn K cd19 "_law_sum" = true) (k19 : PySem.W.keepIn K (.ref f__law_sum) = true)
    (a20 : PySem.W.nsIn K mainGlobals "_law_less" = some (some (.ref f__law_less))) (l20 : K.lookup f__law_less = some ⟨oc20, od20, .func (PySem.W.fnOf "_law_less" "_law_less" (defArgs s__law_less) (defBody s__law_less) (defScope s__law_less) .none kV20 dc20 pm20 an20 cd20 ct20), sl20⟩) (cc20 : PySem.W.codeIn K cd20 "_law_less" = true) (k20 : PySem.W.keepIn K (.ref f__law_less) = true)
    (a21 : PySem.W.nsIn K mainGlobals "_law_product" = some (some (.ref f__law_product))) (l21 : K.lookup f__law_product = some ⟨oc21, od21, .func (PySem.W.fnOf "_law_product" "_law_product" (defArgs s__law_product) (defBody s__law_product) (defScope s__law_product) .none kV21 dc21 pm21 an21 cd21 ct21), sl21⟩) (cc21 : PySem.W.codeIn K cd21 "_law_product" = true) (k21 : PySem.W.keepIn K (.ref f__law_product) = true)
    (a22 : PySem.W.nsIn K mainGlobals "_law_quotient" = some (some (.ref f__law_quotient))) (l22 : K.lookup f__law_quotient = some ⟨oc22, od22, .func (PySem.W.fnOf "_law_quotient" "_law_quotient" (defArgs s__law_quotient) (defBody s__law_quotient) (defScope s__law_quotient) .none kV22 dc22 pm22 an22 cd22 ct22), sl22⟩) (cc22 : PySem.W.codeIn K cd22 "_law_quotient" = true) (k22 : PySem.W.keepIn K (.ref f__law_quotient) = true)
    (a23 : PySem.W.nsIn K mainGlobals "_law_mixed" = some (some (.ref f__law_mixed))) (l23 : K.lookup f__law_mixed = some ⟨oc23, od23, .func (PySem.W.fnOf "_law_mixed" "_law_mixed" (defArgs s__law_mixed) (defBody s__law_mixed) (defScope s__law_mixed) .none kV23 dc23 pm23 an23 cd23 ct23), sl23⟩) (cc23 : PySem.W.codeIn K cd23 "_law_mixed" = true) (k23 : PySem.W.keepIn K (.ref f__law_mixed) = true)
    (a24 : PySem.W.nsIn K mainGlobals "_law_amount" = some (some (.ref f__law_amount))) (l24 : K.lookup f__law_amount = some ⟨oc24, od24, .func (PySem.W.fnOf "_law_amount" "_law_amount" (defArgs s__law_amount) (defBody s__law_amount) (defScope s__law_amount) .none kV24 dc24 pm24 an24 cd24 ct24), sl24⟩) (cc24 : PySem.W.codeIn K cd24 "_law_amount" = true) (k24 : PySem.W.keepIn K (.ref f__law_amount) = true)
    (a25 : PySem.W.nsIn K mainGlobals "_law_arms" = some (some (.ref f__law_arms))) (l25 : K.lookup f__law_arms = some ⟨oc25, od25, .func (PySem.W.fnOf "_law_arms" "_law_arms" (defArgs s__law_arms) (defBody s__law_arms) (defScope s__law_arms) .none kV25 dc25 pm25 an25 cd25 ct25), sl25⟩) (cc25 : PySem.W.codeIn K cd25 "_law_arms" = true) (k25 : PySem.W.keepIn K (.ref f__law_arms) = true)
    (a26 : PySem.W.nsIn K mainGlobals "_law_spot" = some (some (.ref f__law_spot))) (l26 : K.lookup f__law_spot = some ⟨oc26, od26, .func (PySem.W.fnOf "_law_spot" "_law_spot" (defArgs s__law_spot) (defBody s__law_spot) (defScope s__law_spot) .none kV26 dc26 pm26 an26 cd26 ct26), sl26⟩) (cc26 : PySem.W.codeIn K cd26 "_law_spot" = true) (k26 : PySem.W.keepIn K (.ref f__law_spot) = true)
    (a27 : PySem.W.nsIn K mainGlobals "_law_grown" = some (some (.ref f__law_grown))) (l27 : K.lookup f__law_grown = some ⟨oc27, od27, .func (PySem.W.fnOf "_law_grown" "_law_grown" (defArgs s__law_grown) (defBody s__law_grown) (defScope s__law_grown) .none kV27 dc27 pm27 an27 cd27 ct27), sl27⟩) (cc27 : PySem.W.codeIn K cd27 "_law_grown" = true) (k27 : PySem.W.keepIn K (.ref f__law_grown) = true)
    (a28 : PySem.W.nsIn K mainGlobals "_law_tipped" = some (some (.ref f__law_tipped))) (l28 : K.lookup f__law_tipped = some ⟨oc28, od28, .func (PySem.W.fnOf "_law_tipped" "_law_tipped" (defArgs s__law_tipped) (defBody s__law_tipped) (defScope s__law_tipped) .none kV28 dc28 pm28 an28 cd28 ct28), sl28⟩) (cc28 : PySem.W.codeIn K cd28 "_law_tipped" = true) (k28 : PySem.W.keepIn K (.ref f__law_tipped) = true)
    (a29 : PySem.W.nsIn K mainGlobals "_law_made" = some (some (.ref f__law_made))) (l29 : K.lookup f__law_made = some ⟨oc29, od29, .func (PySem.W.fnOf "_law_made" "_law_made" (defArgs s__law_made) (defBody s__law_made) (defScope s__law_made) .none kV29 dc29 pm29 an29 cd29 ct29), sl29⟩) (cc29 : PySem.W.codeIn K cd29 "_law_made" = true) (k29 : PySem.W.keepIn K (.ref f__law_made) = true)
    (a30 : PySem.W.nsIn K mainGlobals "_law_twice" = some (some (.ref f__law_twice))) (l30 : K.lookup f__law_twice = some ⟨oc30, od30, .func (PySem.W.fnOf "_law_twice" "_law_twice" (defArgs s__law_twice) (defBody s__law_twice) (defScope s__law_twice) .none kV30 dc30 pm30 an30 cd30 ct30), sl30⟩) (cc30 : PySem.W.codeIn K cd30 "_law_twice" = true) (k30 : PySem.W.keepIn K (.ref f__law_twice) = true)
    (a31 : PySem.W.nsIn K mainGlobals "_law_ends" = some (some (.ref f__law_ends))) (l31 : K.lookup f__law_ends = some ⟨oc31, od31, .func (PySem.W.fnOf "_law_ends" "_law_ends" (defArgs s__law_ends) (defBody s__law_ends) (defScope s__law_ends) .none kV31 dc31 pm31 an31 cd31 ct31), sl31⟩) (cc31 : PySem.W.codeIn K cd31 "_law_ends" = true) (k31 : PySem.W.keepIn K (.ref f__law_ends) = true)
    (a32 : PySem.W.nsIn K mainGlobals "_law_number" = some (some (.ref f__law_number))) (l32 : K.lookup f__law_number = some ⟨oc32, od32, .func (PySem.W.fnOf "_law_number" "_law_number" (defArgs s__law_number) (defBody s__law_number) (defScope s__law_number) .none kV32 dc32 pm32 an32 cd32 ct32), sl32⟩) (cc32 : PySem.W.codeIn K cd32 "_law_number" = true) (k32 : PySem.W.keepIn K (.ref f__law_number) = true)
    (a33 : PySem.W.nsIn K mainGlobals "_law_written" = some (some (.ref f__law_written))) (l33 : K.lookup f__law_written = some ⟨oc33, od33, .func (PySem.W.fnOf "_law_written" "_law_written" (defArgs s__law_written) (defBody s__law_written) (defScope s__law_written) .none kV33 dc33 pm33 an33 cd33 ct33), sl33⟩) (cc33 : PySem.W.codeIn K cd33 "_law_written" = true) (k33 : PySem.W.keepIn K (.ref f__law_written) = true)
    (a34 : PySem.W.nsIn K mainGlobals "_law_is_row" = some (some (.ref f__law_is_row))) (l34 : K.lookup f__law_is_row = some ⟨oc34, od34, .func (PySem.W.fnOf "_law_is_row" "_law_is_row" (defArgs s__law_is_row) (defBody s__law_is_row) (defScope s__law_is_row) .none kV34 dc34 pm34 an34 cd34 ct34), sl34⟩) (cc34 : PySem.W.codeIn K cd34 "_law_is_row" = true) (k34 : PySem.W.keepIn K (.ref f__law_is_row) = true)
    (a35 : PySem.W.nsIn K mainGlobals "_law_listed" = some (some (.ref f__law_listed))) (l35 : K.lookup f__law_listed = some ⟨oc35, od35, .func (PySem.W.fnOf "_law_listed" "_law_listed" (defArgs s__law_listed) (defBody s__law_listed) (defScope s__law_listed) .none kV35 dc35 pm35 an35 cd35 ct35), sl35⟩) (cc35 : PySem.W.codeIn K cd35 "_law_listed" = true) (k35 : PySem.W.keepIn K (.ref f__law_listed) = true)
    (a36 : PySem.W.nsIn K mainGlobals "_law_hung" = some (some (.ref f__law_hung))) (l36 : K.lookup f__law_hung = some ⟨oc36, od36, .func (PySem.W.fnOf "_law_hung" "_law_hung" (defArgs s__law_hung) (defBody s__law_hung) (defScope s__law_hung) .none kV36 dc36 pm36 an36 cd36 ct36), sl36⟩) (cc36 : PySem.W.codeIn K cd36 "_law_hung" = true) (k36 : PySem.W.keepIn K (.ref f__law_hung) = true)
    (a37 : PySem.W.nsIn K mainGlobals "_law_middles" = some (some (.ref f__law_middles))) (l37 : K.lookup f__law_middles = some ⟨oc37, od37, .func (PySem.W.fnOf "_law_middles" "_law_middles" (defArgs s__law_middles) (defBody s__law_middles) (defScope s__law_middles) .none kV37 dc37 pm37 an37 cd37 ct37), sl37⟩) (cc37 : PySem.W.codeIn K cd37 "_law_middles" = true) (k37 : PySem.W.keepIn K (.ref f__law_middles) = true)
    (a38 : PySem.W.nsIn K mainGlobals "law" = some (some (.ref f_law))) (l38 : K.lookup f_law = some ⟨oc38, od38, .func (PySem.W.fnOf "law" "law" (defArgs s_law) (defBody s_law) (defScope s_law) .none kV38 dc38 pm38 an38 cd38 ct38), sl38⟩) (cc38 : PySem.W.codeIn K cd38 "law" = true) (k38 : PySem.W.keepIn K (.ref f_law) = true)
    (xa_MobileError : PySem.W.nsIn K mainGlobals "MobileError" = some (some (.ref c_MobileError))) (xq_MobileError : PySem.W.excIn K c_MobileError [.type "ValueError", .type "Exception", .type "BaseException", .type "object"] "ValueError.__new__" = true) (xk_MobileError : PySem.W.keepIn K (.ref c_MobileError) = true) (xb_MobileError : PySem.W.subIn K (.ref c_MobileError) (.type "BaseException") = some true) (xt_MobileError : PySem.W.typeIn K (.ref c_MobileError) = some (.type "type"))
    (xg_MobileError : PySem.W.findIn K (.ref c_MobileError) "__getattribute__" = some (some (.builtin "BaseException.__getattribute__"))) (xh_MobileError : PySem.W.findIn K (.ref c_MobileError) "__getattr__" = some none) (xd_MobileError : PySem.W.hasDictIn K c_MobileError = true) (xc_MobileError : PySem.W.findIn K (.ref c_MobileError) "__class__" = some (some (.builtin "object.__class__"))) (xm_MobileError : PySem.W.mroIn K c_MobileError (.type "object") = some true) (v_MobileError : PySem.W.subIn K (.ref c_MobileError) (.type "ValueError") = some true)
    (xa_NoNumber : PySem.W.nsIn K mainGlobals "NoNumber" = some (some (.ref c_NoNumber))) (xq_NoNumber : PySem.W.excIn K c_NoNumber [.type "ValueError", .type "Exception", .type "BaseException", .type "object"] "ValueError.__new__" = true) (xk_NoNumber : PySem.W.keepIn K (.ref c_NoNumber) = true) (xb_NoNumber : PySem.W.subIn K (.ref c_NoNumber) (.type "BaseException") = some true) (xt_NoNumber : PySem.W.typeIn K (.ref c_NoNumber) = some (.type "type"))
    (xg_NoNumber : PySem.W.findIn K (.ref c_NoNumber) "__getattribute__" = some (some (.builtin "BaseException.__getattribute__"))) (xh_NoNumber : PySem.W.findIn K (.ref c_NoNumber) "__getattr__" = some none) (xd_NoNumber : PySem.W.hasDictIn K c_NoNumber = true) (xc_NoNumber : PySem.W.findIn K (.ref c_NoNumber) "__class__" = some (some (.builtin "object.__class__"))) (xm_NoNumber : PySem.W.mroIn K c_NoNumber (.type "object") = some true) (v_NoNumber : PySem.W.subIn K (.ref c_NoNumber) (.type "ValueError") = some true)
    (xa_NoPlace : PySem.W.nsIn K mainGlobals "NoPlace" = some (some (.ref c_NoPlace))) (xq_NoPlace : PySem.W.excIn K c_NoPlace [.type "ValueError", .type "Exception", .type "BaseException", .type "object"] "ValueError.__new__" = true) (xk_NoPlace : PySem.W.keepIn K (.ref c_NoPlace) = true) (xb_NoPlace : PySem.W.subIn K (.ref c_NoPlace) (.type "BaseException") = some true) (xt_NoPlace : PySem.W.typeIn K (.ref c_NoPlace) = some (.type "type"))
    (xg_NoPlace : PySem.W.findIn K (.ref c_NoPlace) "__getattribute__" = some (some (.builtin "BaseException.__getattribute__"))) (xh_NoPlace : PySem.W.findIn K (.ref c_NoPlace) "__getattr__" = some none) (xd_NoPlace : PySem.W.hasDictIn K c_NoPlace = true) (xc_NoPlace : PySem.W.findIn K (.ref c_NoPlace) "__class__" = some (some (.builtin "object.__class__"))) (xm_NoPlace : PySem.W.mroIn K c_NoPlace (.type "object") = some true) (v_NoPlace : PySem.W.subIn K (.ref c_NoPlace) (.type "ValueError") = some true)
    (xa_NoText : PySem.W.nsIn K mainGlobals "NoText" = some (some (.ref c_NoText))) (xq_NoText : PySem.W.excIn K c_NoText [.type "ValueError", .type "Exception", .type "BaseException", .type "object"] "ValueError.__new__" = true) (xk_NoText : PySem.W.keepIn K (.ref c_NoText) = true) (xb_NoText : PySem.W.subIn K (.ref c_NoText) (.type "BaseException") = some true) (xt_NoText : PySem.W.typeIn K (.ref c_NoText) = some (.type "type"))
    (xg_NoText : PySem.W.findIn K (.ref c_NoText) "__getattribute__" = some (some (.builtin "BaseException.__getattribute__"))) (xh_NoText : PySem.W.findIn K (.ref c_NoText) "__getattr__" = some none) (xd_NoText : PySem.W.hasDictIn K c_NoText = true) (xc_NoText : PySem.W.findIn K (.ref c_NoText) "__class__" = some (some (.builtin "object.__class__"))) (xm_NoText : PySem.W.mroIn K c_NoText (.type "object") = some true) (v_NoText : PySem.W.subIn K (.ref c_NoText) (.type "ValueError") = some true)
    {Mod0 Man0 Mod1 Man1 Mod2 Man2 Mod3 Man3 Mod4 Man4 Mod5 Man5 Mod6 Man6 Mod7 Man7 : Option Addr} {Msl0 Msl1 Msl2 Msl3 Msl4 Msl5 Msl6 Msl7 : Array (Option Value)} {Moc0 MkV0 Mdc0 Mpm0 Mcd0 Mct0 Moc1 MkV1 Mdc1 Mpm1 Mcd1 Mct1 Moc2 MkV2 Mdc2 Mpm2 Mcd2 Mct2 Moc3 MkV3 Mdc3 Mpm3 Mcd3 Mct3 Moc4 MkV4 Mdc4 Mpm4 Mcd4 Mct4 Moc5 MkV5 Mdc5 Mpm5 Mcd5 Mct5 Moc6 MkV6 Mdc6 Mpm6 Mcd6 Mct6 Moc7 MkV7 Mdc7 Mpm7 Mcd7 Mct7 : Value}
    {DT0 DT6 : Addr} {Doc0 Du0 Doc6 Du6 : Value} {Dod0 Dod6 : Option Addr} {Dn0 Dn6 : Nat} {Dsl0 Dsl6 : Array (Option Value)}
    (ma0 : PySem.W.findIn K (.ref c_Hung) "places" = some (some (.ref f_Hung_places))) (ml0 : K.lookup f_Hung_places = some ⟨Moc0, Mod0, .func (PySem.W.fnOf "places" "Hung.places" (defArgs s_Hung_places) (defBody s_Hung_places) (defScope s_Hung_places) (.ref DT0) MkV0 Mdc0 Mpm0 Man0 Mcd0 Mct0), Msl0⟩) (mc0 : PySem.W.codeIn K Mcd0 "Hung.places" = true) (mk0 : PySem.W.keepIn K (.ref f_Hung_places) = true) (mi0 : PySem.W.isFn K (.ref f_Hung_places) = true)
    (md0 : K.lookup DT0 = some ⟨Doc0, Dod0, .seq #[Du0] Dn0, Dsl0⟩) (mu0 : RelV (.str (cS [])) Du0)
    (ma1 : PySem.W.findIn K (.ref c_Hung) "at" = some (some (.ref f_Hung_at))) (ml1 : K.lookup f_Hung_at = some ⟨Moc1, Mod1, .func (PySem.W.fnOf "at" "Hung.at" (defArgs s_Hung_at) (defBody s_Hung_at) (defScope s_Hung_at) .none MkV1 Mdc1 Mpm1 Man1 Mcd1 Mct1), Msl1⟩) (mc1 : PySem.W.codeIn K Mcd1 "Hung.at" = true) (mk1 : PySem.W.keepIn K (.ref f_Hung_at) = true) (mi1 : PySem.W.isFn K (.ref f_Hung_at) = true)
    (ma2 : PySem.W.findIn K (.ref c_Weight) "__init__" = some (some (.ref f_Weight___init__))) (ml2 : K.lookup f_Weight___init__ = some ⟨Moc2, Mod2, .func (PySem.W.fnOf "__init__" "Weight.__init__" (defArgs s_Weight___init__) (defBody s_Weight___init__) (defScope s_Weight___init__) .none MkV2 Mdc2 Mpm2 Man2 Mcd2 Mct2), Msl2⟩) (mc2 : PySem.W.codeIn K Mcd2 "Weight.__init__" = true) (mk2 : PySem.W.keepIn K (.ref f_Weight___init__) = true) (mi2 : PySem.W.isFn K (.ref f_Weight___init__) = true)
    (ma3 : PySem.W.findIn K (.ref c_Weight) "heft" = some (some (.ref f_Weight_heft))) (ml3 : K.lookup f_Weight_heft = some ⟨Moc3, Mod3, .func (PySem.W.fnOf "heft" "Weight.heft" (defArgs s_Weight_heft) (defBody s_Weight_heft) (defScope s_Weight_heft) .none MkV3 Mdc3 Mpm3 Man3 Mcd3 Mct3), Msl3⟩) (mc3 : PySem.W.codeIn K Mcd3 "Weight.heft" = true) (mk3 : PySem.W.keepIn K (.ref f_Weight_heft) = true) (mi3 : PySem.W.isFn K (.ref f_Weight_heft) = true)
    (ma4 : PySem.W.findIn K (.ref c_Rod) "__init__" = some (some (.ref f_Rod___init__))) (ml4 : K.lookup f_Rod___init__ = some ⟨Moc4, Mod4, .func (PySem.W.fnOf "__init__" "Rod.__init__" (defArgs s_Rod___init__) (defBody s_Rod___init__) (defScope s_Rod___init__) .none MkV4 Mdc4 Mpm4 Man4 Mcd4 Mct4), Msl4⟩) (mc4 : PySem.W.codeIn K Mcd4 "Rod.__init__" = true) (mk4 : PySem.W.keepIn K (.ref f_Rod___init__) = true) (mi4 : PySem.W.isFn K (.ref f_Rod___init__) = true)
    (ma5 : PySem.W.findIn K (.ref c_Rod) "heft" = some (some (.ref f_Rod_heft))) (ml5 : K.lookup f_Rod_heft = some ⟨Moc5, Mod5, .func (PySem.W.fnOf "heft" "Rod.heft" (defArgs s_Rod_heft) (defBody s_Rod_heft) (defScope s_Rod_heft) .none MkV5 Mdc5 Mpm5 Man5 Mcd5 Mct5), Msl5⟩) (mc5 : PySem.W.codeIn K Mcd5 "Rod.heft" = true) (mk5 : PySem.W.keepIn K (.ref f_Rod_heft) = true) (mi5 : PySem.W.isFn K (.ref f_Rod_heft) = true)
    (ma6 : PySem.W.findIn K (.ref c_Rod) "places" = some (some (.ref f_Rod_places))) (ml6 : K.lookup f_Rod_places = some ⟨Moc6, Mod6, .func (PySem.W.fnOf "places" "Rod.places" (defArgs s_Rod_places) (defBody s_Rod_places) (defScope s_Rod_places) (.ref DT6) MkV6 Mdc6 Mpm6 Man6 Mcd6 Mct6), Msl6⟩) (mc6 : PySem.W.codeIn K Mcd6 "Rod.places" = true) (mk6 : PySem.W.keepIn K (.ref f_Rod_places) = true) (mi6 : PySem.W.isFn K (.ref f_Rod_places) = true)
    (md6 : K.lookup DT6 = some ⟨Doc6, Dod6, .seq #[Du6] Dn6, Dsl6⟩) (mu6 : RelV (.str (cS [])) Du6)
    (ma7 : PySem.W.findIn K (.ref c_Rod) "at" = some (some (.ref f_Rod_at))) (ml7 : K.lookup f_Rod_at = some ⟨Moc7, Mod7, .func (PySem.W.fnOf "at" "Rod.at" (defArgs s_Rod_at) (defBody s_Rod_at) (defScope s_Rod_at) .none MkV7 Mdc7 Mpm7 Man7 Mcd7 Mct7), Msl7⟩) (mc7 : PySem.W.codeIn K Mcd7 "Rod.at" = true) (mk7 : PySem.W.keepIn K (.ref f_Rod_at) = true) (mi7 : PySem.W.isFn K (.ref f_Rod_at) = true)
    (oa_Hung : PySem.W.nsIn K mainGlobals "Hung" = some (some (.ref c_Hung))) (op_Hung : PySem.W.plainGet K c_Hung Str.empty = true) (oh_Hung : PySem.W.hasDictIn K c_Hung = true) (oo_Hung : PySem.W.plainOver K c_Hung = true) (os_Hung : PySem.W.findIn K (.ref c_Hung) "__setattr__" = some (some (.builtin "object.__setattr__"))) (ok_Hung : PySem.W.keepIn K (.ref c_Hung) = true) (ot_Hung : PySem.W.typeIn K (.ref c_Hung) = some (.type "type"))
    (oc_Hung : PySem.W.findIn K (.ref c_Hung) "__class__" = some (some (.builtin "object.__class__"))) (om_Hung : PySem.W.mroIn K c_Hung (.type "object") = some true) (oq_Hung : PySem.W.subIn K (.ref c_Hung) (.ref c_Hung) = some true)
    (oa_Weight : PySem.W.nsIn K mainGlobals "Weight" = some (some (.ref c_Weight))) (op_Weight : PySem.W.plainGet K c_Weight Str.empty = true) (oh_Weight : PySem.W.hasDictIn K c_Weight = true) (oo_Weight : PySem.W.plainOver K c_Weight = true) (os_Weight : PySem.W.findIn K (.ref c_Weight) "__setattr__" = some (some (.builtin "object.__setattr__"))) (ok_Weight : PySem.W.keepIn K (.ref c_Weight) = true) (ot_Weight : PySem.W.typeIn K (.ref c_Weight) = some (.type "type"))
    (oc_Weight : PySem.W.findIn K (.ref c_Weight) "__class__" = some (some (.builtin "object.__class__"))) (om_Weight : PySem.W.mroIn K c_Weight (.type "object") = some true) (oq_Weight : PySem.W.subIn K (.ref c_Weight) (.ref c_Weight) = some true)
    (oa_Rod : PySem.W.nsIn K mainGlobals "Rod" = some (some (.ref c_Rod))) (op_Rod : PySem.W.plainGet K c_Rod Str.empty = true) (oh_Rod : PySem.W.hasDictIn K c_Rod = true) (oo_Rod : PySem.W.plainOver K c_Rod = true) (os_Rod : PySem.W.findIn K (.ref c_Rod) "__setattr__" = some (some (.builtin "object.__setattr__"))) (ok_Rod : PySem.W.keepIn K (.ref c_Rod) = true) (ot_Rod : PySem.W.typeIn K (.ref c_Rod) = some (.type "type"))
    (oc_Rod : PySem.W.findIn K (.ref c_Rod) "__class__" = some (some (.builtin "object.__class__"))) (om_Rod : PySem.W.mroIn K c_Rod (.type "object") = some true) (oq_Rod : PySem.W.subIn K (.ref c_Rod) (.ref c_Rod) = some true)
    (w_Weight_Hung : PySem.W.subIn K (.ref c_Weight) (.ref c_Hung) = some true)
    (w_Weight_Weight : PySem.W.subIn K (.ref c_Weight) (.ref c_Weight) = some true)
    (w_Weight_Rod : PySem.W.subIn K (.ref c_Weight) (.ref c_Rod) = some false)
    (w_Rod_Hung : PySem.W.subIn K (.ref c_Rod) (.ref c_Hung) = some true)
    (w_Rod_Weight : PySem.W.subIn K (.ref c_Rod) (.ref c_Weight) = some false)
    (w_Rod_Rod : PySem.W.subIn K (.ref c_Rod) (.ref c_Rod) = some true)
    (if_Weight_places : PySem.W.findIn K (.ref c_Weight) "places" = some (some (.ref f_Hung_places)))
    (if_Weight_at : PySem.W.findIn K (.ref c_Weight) "at" = some (some (.ref f_Hung_at)))
    (nt_Weight : PySem.W.subIn K (.ref c_Weight) (.type "tuple") = some false)
    (nt_Rod : PySem.W.subIn K (.ref c_Rod) (.type "tuple") = some false)
    (im_Weight : PySem.W.makesIn K c_Weight = true)
    (na_Weight_amount : PySem.W.findIn K (.ref c_Weight) "amount" = some none)
    (im_Rod : PySem.W.makesIn K c_Rod = true)
    (na_Rod_left_arm : PySem.W.findIn K (.ref c_Rod) "left_arm" = some none)
    (na_Rod_left : PySem.W.findIn K (.ref c_Rod) "left" = some none)
    (na_Rod_right_arm : PySem.W.findIn K (.ref c_Rod) "right_arm" = some none)
    (na_Rod_right : PySem.W.findIn K (.ref c_Rod) "right" = some none)
    (na_Rod_total : PySem.W.findIn K (.ref c_Rod) "total" = some none)
    {Nod : Option Addr} {Nt0 Nt1 : Tok} {Nn : Nat} {Nsl : Array (Option Value)} (ng : PySem.W.nsIn K mainGlobals "NOUGHT" = some (some (.ref a_NOUGHT))) (nl : K.lookup a_NOUGHT = some ⟨.type "tuple", Nod, .seq #[.int 0 Nt0, .int 1 Nt1] Nn, Nsl⟩)
    {tF : Tok} (nf : PySem.W.nsIn K mainGlobals "FIGURES" = some (some (.str (cS figs) tF)))
    (eN : PySem.W.specialIn K (.builtin "object.__class__") "__get__" = some (some (.builtin "getset_descriptor.__get__"))) (eT : PySem.W.takesIn K (.builtin "object.__class__") = some true)
    (u_MobileError_MobileError : PySem.W.subIn K (.ref c_MobileError) (.ref c_MobileError) = some true)
    (u_MobileError_NoNumber : PySem.W.subIn K (.ref c_MobileError) (.ref c_NoNumber) = some false)
    (u_MobileError_NoPlace : PySem.W.subIn K (.ref c_MobileError) (.ref c_NoPlace) = some false)
    (u_MobileError_NoText : PySem.W.subIn K (.ref c_MobileError) (.ref c_NoText) = some false)
    (u_NoNumber_MobileError : PySem.W.subIn K (.ref c_NoNumber) (.ref c_MobileError) = some true)
    (u_NoNumber_NoNumber : PySem.W.subIn K (.ref c_NoNumber) (.ref c_NoNumber) = some true)
    (u_NoNumber_NoPlace : PySem.W.subIn K (.ref c_NoNumber) (.ref c_NoPlace) = some false)
    (u_NoNumber_NoText : PySem.W.subIn K (.ref c_NoNumber) (.ref c_NoText) = some false)
    (u_NoPlace_MobileError : PySem.W.subIn K (.ref c_NoPlace) (.ref c_MobileError) = some true)
    (u_NoPlace_NoNumber : PySem.W.subIn K (.ref c_NoPlace) (.ref c_NoNumber) = some false)
    (u_NoPlace_NoPlace : PySem.W.subIn K (.ref c_NoPlace) (.ref c_NoPlace) = some true)
    (u_NoPlace_NoText : PySem.W.subIn K (.ref c_NoPlace) (.ref c_NoText) = some false)
    (u_NoText_MobileError : PySem.W.subIn K (.ref c_NoText) (.ref c_MobileError) = some true)
    (u_NoText_NoNumber : PySem.W.subIn K (.ref c_NoText) (.ref c_NoNumber) = some false)
    (u_NoText_NoPlace : PySem.W.subIn K (.ref c_NoText) (.ref c_NoPlace) = some false)
    (u_NoText_NoText : PySem.W.subIn K (.ref c_NoText) (.ref c_NoText) = some true)
    (z_isinstance : PySem.W.nsIn K mainGlobals "isinstance" = some none)
    (z_len : PySem.W.nsIn K mainGlobals "len" = some none)
    (z_abs : PySem.W.nsIn K mainGlobals "abs" = some none)
    (z_str : PySem.W.nsIn K mainGlobals "str" = some none)
    (z_int : PySem.W.nsIn K mainGlobals "int" = some none)
    (z_list : PySem.W.nsIn K mainGlobals "list" = some none)
    (z_sorted : PySem.W.nsIn K mainGlobals "sorted" = some none)
    (z_all : PySem.W.nsIn K mainGlobals "all" = some none)
    (z_zip : PySem.W.nsIn K mainGlobals "zip" = some none)
    (z_reversed : PySem.W.nsIn K mainGlobals "reversed" = some none)
    (z_tuple : PySem.W.nsIn K mainGlobals "tuple" = some none)
    (z_bool : PySem.W.nsIn K mainGlobals "bool" = some none)
    (z_ValueError : PySem.W.nsIn K mainGlobals "ValueError" = some none)
    : ∃ fd : FuncData, (∀ (s : Shared) (v : Value), BindsTo s fd ⟨[v], []⟩ [("_law_script", v)]) ∧ ∀ base : Heap, K.In base → base.Ns mainGlobals mg → FnOk P w K mg base CX0 110 fa fd ["_law_script"] (spD (SLaw K)) := by
  have e := hfa.symm.trans (PySem.W.mg_of X G a38)
  cases e
  have F0 := fun_mk (st := s_divisor) l0 cc0 k0
  have b0 := F0.binds (ps := ["one", "other"]) fun _ _ _ _ _ _ us hl => match us, hl with | [_, _], _ => rfl
  have F1 := fun_mk (st := s_fraction) l1 cc1 k1
  have b1 := F1.binds (ps := ["top", "bottom"]) fun _ _ _ _ _ _ us hl => match us, hl with | [_, _], _ => rfl
  have F2 := fun_mk (st := s_plus) l2 cc2 k2
  have b2 := F2.binds (ps := ["one", "other"]) fun _ _ _ _ _ _ us hl => match us, hl with | [_, _], _ => rfl
  have F3 := fun_mk (st := s_minus) l3 cc3 k3
  have b3 := F3.binds (ps := ["one", "other"]) fun _ _ _ _ _ _ us hl => match us, hl with | [_, _], _ => rfl
  have F4 := fun_mk (st := s_times) l4 cc4 k4
  have b4 := F4.binds (ps := ["one", "other"]) fun _ _ _ _ _ _ us hl => match us, hl with | [_, _], _ => rfl
  have F5 := fun_mk (st := s_under) l5 cc5 k5
  have b5 := F5.binds (ps := ["one", "other"]) fun _ _ _ _ _ _ us hl => match us, hl with | [_, _], _ => rfl
  have F6 := fun_mk (st := s_pulls) l6 cc6 k6
  have b6 := F6.binds (ps := ["mobile"]) fun _ _ _ _ _ _ us hl => match us, hl with | [_], _ => rfl
  have F7 := fun_mk (st := s_first_tipping) l7 cc7 k7
  have b7 := F7.binds (ps := ["mobile"]) fun _ _ _ _ _ _ us hl => match us, hl with | [_], _ => rfl
  have F8 := fun_mk (st := s_hangs_level) l8 cc8 k8
  have b8 := F8.binds (ps := ["mobile"]) fun _ _ _ _ _ _ us hl => match us, hl with | [_], _ => rfl
  have F9 := fun_mk (st := s_drawn) l9 cc9 k9
  have b9 := F9.binds (ps := ["mobile"]) fun _ _ _ _ _ _ us hl => match us, hl with | [_], _ => rfl
  have F10 := fun_mk (st := s_figures_end) l10 cc10 k10
  have b10 := F10.binds (ps := ["text", "at"]) fun _ _ _ _ _ _ us hl => match us, hl with | [_, _], _ => rfl
  have F11 := fun_mk (st := s_number_at) l11 cc11 k11
  have b11 := F11.binds (ps := ["text", "at"]) fun _ _ _ _ _ _ us hl => match us, hl with | [_, _], _ => rfl
  have F12 := fun_mk (st := s_past) l12 cc12 k12
  have b12 := F12.binds (ps := ["text", "at", "sign"]) fun _ _ _ _ _ _ us hl => match us, hl with | [_, _, _], _ => rfl
  have F13 := fun_mk (st := s_thing_at) l13 cc13 k13
  have b13 := F13.binds (ps := ["text", "at"]) fun _ _ _ _ _ _ us hl => match us, hl with | [_, _], _ => rfl
  have F14 := fun_mk (st := s_read) l14 cc14 k14
  have b14 := F14.binds (ps := ["text"]) fun _ _ _ _ _ _ us hl => match us, hl with | [_], _ => rfl
  have F15 := fun_mk (st := s__law_cell_at) l15 cc15 k15
  have b15 := F15.binds (ps := ["_law_script", "_law_k"]) fun _ _ _ _ _ _ us hl => match us, hl with | [_, _], _ => rfl
  have F16 := fun_mk (st := s__law_whole) l16 cc16 k16
  have b16 := F16.binds (ps := ["_law_found"]) fun _ _ _ _ _ _ us hl => match us, hl with | [_], _ => rfl
  have F17 := fun_mk (st := s__law_same) l17 cc17 k17
  have b17 := F17.binds (ps := ["_law_found", "_law_due"]) fun _ _ _ _ _ _ us hl => match us, hl with | [_, _], _ => rfl
  have F18 := fun_mk (st := s__law_lowest) l18 cc18 k18
  have b18 := F18.binds (ps := ["_law_top", "_law_bottom"]) fun _ _ _ _ _ _ us hl => match us, hl with | [_, _], _ => rfl
  have F19 := fun_mk (st := s__law_sum) l19 cc19 k19
  have b19 := F19.binds (ps := ["_law_one", "_law_other"]) fun _ _ _ _ _ _ us hl => match us, hl with | [_, _], _ => rfl
  have F20 := fun_mk (st := s__law_less) l20 cc20 k20
  have b20 := F20.binds (ps := ["_law_one", "_law_other"]) fun _ _ _ _ _ _ us hl => match us, hl with | [_, _], _ => rfl
  have F21 := fun_mk (st := s__law_product) l21 cc21 k21
  have b21 := F21.binds (ps := ["_law_one", "_law_other"]) fun _ _ _ _ _ _ us hl => match us, hl with | [_, _], _ => rfl
  have F22 := fun_mk (st := s__law_quotient) l22 cc22 k22
  have b22 := F22.binds (ps := ["_law_one", "_law_other"]) fun _ _ _ _ _ _ us hl => match us, hl with | [_, _], _ => rfl
  have F23 := fun_mk (st := s__law_mixed) l23 cc23 k23
  have b23 := F23.binds (ps := ["_law_cell", "_law_factor"]) fun _ _ _ _ _ _ us hl => match us, hl with | [_, _], _ => rfl
  have F24 := fun_mk (st := s__law_amount) l24 cc24 k24
  have b24 := F24.binds (ps := ["_law_cell", "_law_kind"]) fun _ _ _ _ _ _ us hl => match us, hl with | [_, _], _ => rfl
  have F25 := fun_mk (st := s__law_arms) l25 cc25 k25
  have b25 := F25.binds (ps := ["_law_cell", "_law_kind"]) fun _ _ _ _ _ _ us hl => match us, hl with | [_, _], _ => rfl
  have F26 := fun_mk (st := s__law_spot) l26 cc26 k26
  have b26 := F26.binds (ps := ["_law_rows", "_law_cell", "_law_shape", "_law_newest"]) fun _ _ _ _ _ _ us hl => match us, hl with | [_, _, _, _], _ => rfl
  have F27 := fun_mk (st := s__law_grown) l27 cc27 k27
  have b27 := F27.binds (ps := ["_law_script", "_law_kind", "_law_shape"]) fun _ _ _ _ _ _ us hl => match us, hl with | [_, _, _], _ => rfl
  have F28 := fun_mk (st := s__law_tipped) l28 cc28 k28
  have b28 := F28.binds (ps := ["_law_rows", "_law_kind", "_law_number_here"]) fun _ _ _ _ _ _ us hl => match us, hl with | [_, _, _], _ => rfl
  have F29 := fun_mk (st := s__law_made) l29 cc29 k29
  have b29 := F29.binds (ps := ["_law_rows", "_law_place", "_law_kept"]) fun _ _ _ _ _ _ us hl => match us, hl with | [_, _, _], _ => rfl
  have F30 := fun_mk (st := s__law_twice) l30 cc30 k30
  have b30 := F30.binds (ps := ["_law_rows", "_law_arms_here"]) fun _ _ _ _ _ _ us hl => match us, hl with | [_, _], _ => rfl
  have F31 := fun_mk (st := s__law_ends) l31 cc31 k31
  have b31 := F31.binds (ps := ["_law_head", "_law_kind"]) fun _ _ _ _ _ _ us hl => match us, hl with | [_, _], _ => rfl
  have F32 := fun_mk (st := s__law_number) l32 cc32 k32
  have b32 := F32.binds (ps := ["_law_one"]) fun _ _ _ _ _ _ us hl => match us, hl with | [_], _ => rfl
  have F33 := fun_mk (st := s__law_written) l33 cc33 k33
  have b33 := F33.binds (ps := ["_law_rows", "_law_place"]) fun _ _ _ _ _ _ us hl => match us, hl with | [_, _], _ => rfl
  have F34 := fun_mk (st := s__law_is_row) l34 cc34 k34
  have b34 := F34.binds (ps := ["_law_row", "_law_place", "_law_many"]) fun _ _ _ _ _ _ us hl => match us, hl with | [_, _, _], _ => rfl
  have F35 := fun_mk (st := s__law_listed) l35 cc35 k35
  have b35 := F35.binds (ps := ["_law_found", "_law_places", "_law_many"]) fun _ _ _ _ _ _ us hl => match us, hl with | [_, _, _], _ => rfl
  have F36 := fun_mk (st := s__law_hung) l36 cc36 k36
  have b36 := F36.binds (ps := ["_law_fars", "_law_rows"]) fun _ _ _ _ _ _ us hl => match us, hl with | [_, _], _ => rfl
  have F37 := fun_mk (st := s__law_middles) l37 cc37 k37
  have b37 := F37.binds (ps := ["_law_rows", "_law_fars", "_law_gaps"]) fun _ _ _ _ _ _ us hl => match us, hl with | [_, _, _], _ => rfl
  have F38 := fun_mk (st := s_law) l38 cc38 k38
  have b38 := F38.binds (ps := ["_law_script"]) fun _ _ _ _ _ _ us hl => match us, hl with | [_], _ => rfl
  have MF0 : FunD K "places" "Hung.places" (defArgs s_Hung_places) (defBody s_Hung_places) (defScope s_Hung_places) [.str (cS [])] [] f_Hung_places _ := ⟨⟨_, _, _, _, _, _, _, _, _, _, rfl, ml0, mc0, .inr ⟨by simp, DT0, _, [Du0], Dn0, rfl, md0, rfl, .cons mu0 .nil⟩, .inl rfl⟩, mk0⟩
  obtain ⟨ds0, rv0, Mb0⟩ := MF0.binds1 (ps := ["self", "ahead"]) 1 0 (by simp) rfl fun T kV doc pm an cdv ct us its h1 h2 => match us, its, h1, h2 with | [_], [_], _, _ => ⟨_, rfl, rfl⟩
  obtain ⟨u0, rfl, ru0⟩ := vals1 rv0
  obtain ⟨es0, rw0, Mc0⟩ := MF0.binds1 (ps := ["self", "ahead"]) 2 1 (by simp) rfl fun T kV doc pm an cdv ct us its h1 h2 => match us, its, h1, h2 with | [_, _], [_], _, _ => ⟨_, rfl, rfl⟩
  cases rw0
  have MF1 := fun_mk (st := s_Hung_at) ml1 mc1 mk1
  have Mb1 := MF1.binds (ps := ["self", "place"]) fun _ _ _ _ _ _ us hl => match us, hl with | [_, _], _ => rfl
  have MF2 := fun_mk (st := s_Weight___init__) ml2 mc2 mk2
  have Mb2 := MF2.binds (ps := ["self", "amount"]) fun _ _ _ _ _ _ us hl => match us, hl with | [_, _], _ => rfl
  have MF3 := fun_mk (st := s_Weight_heft) ml3 mc3 mk3
  have Mb3 := MF3.binds (ps := ["self"]) fun _ _ _ _ _ _ us hl => match us, hl with | [_], _ => rfl
  have MF4 := fun_mk (st := s_Rod___init__) ml4 mc4 mk4
  have Mb4 := MF4.binds (ps := ["self", "left_arm", "left", "right_arm", "right"]) fun _ _ _ _ _ _ us hl => match us, hl with | [_, _, _, _, _], _ => rfl
  have MF5 := fun_mk (st := s_Rod_heft) ml5 mc5 mk5
  have Mb5 := MF5.binds (ps := ["self"]) fun _ _ _ _ _ _ us hl => match us, hl with | [_], _ => rfl
  have MF6 : FunD K "places" "Rod.places" (defArgs s_Rod_places) (defBody s_Rod_places) (defScope s_Rod_places) [.str (cS [])] [] f_Rod_places _ := ⟨⟨_, _, _, _, _, _, _, _, _, _, rfl, ml6, mc6, .inr ⟨by simp, DT6, _, [Du6], Dn6, rfl, md6, rfl, .cons mu6 .nil⟩, .inl rfl⟩, mk6⟩
  obtain ⟨ds6, rv6, Mb6⟩ := MF6.binds1 (ps := ["self", "ahead"]) 1 0 (by simp) rfl fun T kV doc pm an cdv ct us its h1 h2 => match us, its, h1, h2 with | [_], [_], _, _ => ⟨_, rfl, rfl⟩
  obtain ⟨u6, rfl, ru6⟩ := vals1 rv6
  obtain ⟨es6, rw6, Mc6⟩ := MF6.binds1 (ps := ["self", "ahead"]) 2 1 (by simp) rfl fun T kV doc pm an cdv ct us its h1 h2 => match us, its, h1, h2 with | [_, _], [_], _, _ => ⟨_, rfl, rfl⟩
  cases rw6
  have MF7 := fun_mk (st := s_Rod_at) ml7 mc7 mk7
  have Mb7 := MF7.binds (ps := ["self", "place"]) fun _ _ _ _ _ _ us hl => match us, hl with | [_, _], _ => rfl
  let T : Top K mg := {
    f_divisor := f_divisor, fd_divisor := _, d_divisor := ⟨F0, PySem.W.mg_of X G a0, b0⟩,
    f_fraction := f_fraction, fd_fraction := _, d_fraction := ⟨F1, PySem.W.mg_of X G a1, b1⟩,
    f_plus := f_plus, fd_plus := _, d_plus := ⟨F2, PySem.W.mg_of X G a2, b2⟩,
    f_minus := f_minus, fd_minus := _, d_minus := ⟨F3, PySem.W.mg_of X G a3, b3⟩,
    f_times := f_times, fd_times := _, d_times := ⟨F4, PySem.W.mg_of X G a4, b4⟩,
    f_under := f_under, fd_under := _, d_under := ⟨F5, PySem.W.mg_of X G a5, b5⟩,
    f_pulls := f_pulls, fd_pulls := _, d_pulls := ⟨F6, PySem.W.mg_of X G a6, b6⟩,
    f_first_tipping := f_first_tipping, fd_first_tipping := _, d_first_tipping := ⟨F7, PySem.W.mg_of X G a7, b7⟩,
    f_hangs_level := f_hangs_level, fd_hangs_level := _, d_hangs_level := ⟨F8, PySem.W.mg_of X G a8, b8⟩,
    f_drawn := f_drawn, fd_drawn := _, d_drawn := ⟨F9, PySem.W.mg_of X G a9, b9⟩,
    f_figures_end := f_figures_end, fd_figures_end := _, d_figures_end := ⟨F10, PySem.W.mg_of X G a10, b10⟩,
    f_number_at := f_number_at, fd_number_at := _, d_number_at := ⟨F11, PySem.W.mg_of X G a11, b11⟩,
    f_past := f_past, fd_past := _, d_past := ⟨F12, PySem.W.mg_of X G a12, b12⟩,
    f_thing_at := f_thing_at, fd_thing_at := _, d_thing_at := ⟨F13, PySem.W.mg_of X G a13, b13⟩,
    f_read := f_read, fd_read := _, d_read := ⟨F14, PySem.W.mg_of X G a14, b14⟩,
    f__law_cell_at := f__law_cell_at, fd__law_cell_at := _, d__law_cell_at := ⟨F15, PySem.W.mg_of X G a15, b15⟩,
    f__law_whole := f__law_whole, fd__law_whole := _, d__law_whole := ⟨F16, PySem.W.mg_of X G a16, b16⟩,
    f__law_same := f__law_same, fd__law_same := _, d__law_same := ⟨F17, PySem.W.mg_of X G a17, b17⟩,
    f__law_lowest := f__law_lowest, fd__law_lowest := _, d__law_lowest := ⟨F18, PySem.W.mg_of X G a18, b18⟩,
    f__law_sum := f__law_sum, fd__law_sum := _, d__law_sum := ⟨F19, PySem.W.mg_of X G a19, b19⟩,
    f__law_less := f__law_less, fd__law_less := _, d__law_less := ⟨F20, PySem.W.mg_of X G a20, b20⟩,
    f__law_product := f__law_product, fd__law_product := _, d__law_product := ⟨F21, PySem.W.mg_of X G a21, b21⟩,
    f__law_quotient := f__law_quotient, fd__law_quotient := _, d__law_quotient := ⟨F22, PySem.W.mg_of X G a22, b22⟩,
    f__law_mixed := f__law_mixed, fd__law_mixed := _, d__law_mixed := ⟨F23, PySem.W.mg_of X G a23, b23⟩,
    f__law_amount := f__law_amount, fd__law_amount := _, d__law_amount := ⟨F24, PySem.W.mg_of X G a24, b24⟩,
    f__law_arms := f__law_arms, fd__law_arms := _, d__law_arms := ⟨F25, PySem.W.mg_of X G a25, b25⟩,
    f__law_spot := f__law_spot, fd__law_spot := _, d__law_spot := ⟨F26, PySem.W.mg_of X G a26, b26⟩,
    f__law_grown := f__law_grown, fd__law_grown := _, d__law_grown := ⟨F27, PySem.W.mg_of X G a27, b27⟩,
    f__law_tipped := f__law_tipped, fd__law_tipped := _, d__law_tipped := ⟨F28, PySem.W.mg_of X G a28, b28⟩,
    f__law_made := f__law_made, fd__law_made := _, d__law_made := ⟨F29, PySem.W.mg_of X G a29, b29⟩,
    f__law_twice := f__law_twice, fd__law_twice := _, d__law_twice := ⟨F30, PySem.W.mg_of X G a30, b30⟩,
    f__law_ends := f__law_ends, fd__law_ends := _, d__law_ends := ⟨F31, PySem.W.mg_of X G a31, b31⟩,
    f__law_number := f__law_number, fd__law_number := _, d__law_number := ⟨F32, PySem.W.mg_of X G a32, b32⟩,
    f__law_written := f__law_written, fd__law_written := _, d__law_written := ⟨F33, PySem.W.mg_of X G a33, b33⟩,
    f__law_is_row := f__law_is_row, fd__law_is_row := _, d__law_is_row := ⟨F34, PySem.W.mg_of X G a34, b34⟩,
    f__law_listed := f__law_listed, fd__law_listed := _, d__law_listed := ⟨F35, PySem.W.mg_of X G a35, b35⟩,
    f__law_hung := f__law_hung, fd__law_hung := _, d__law_hung := ⟨F36, PySem.W.mg_of X G a36, b36⟩,
    f__law_middles := f__law_middles, fd__law_middles := _, d__law_middles := ⟨F37, PySem.W.mg_of X G a37, b37⟩,
    f_law := fa, fd_law := _, d_law := ⟨F38, hfa, b38⟩,
    f_Hung_places := f_Hung_places, fd_Hung_places := _, u_Hung_places := u0, d_Hung_places := ⟨MF0, .cons ru0 .nil, Mb0, Mc0⟩,
    f_Hung_at := f_Hung_at, fd_Hung_at := _, d_Hung_at := ⟨MF1, Mb1⟩,
    f_Weight___init__ := f_Weight___init__, fd_Weight___init__ := _, d_Weight___init__ := ⟨MF2, Mb2⟩,
    f_Weight_heft := f_Weight_heft, fd_Weight_heft := _, d_Weight_heft := ⟨MF3, Mb3⟩,
    f_Rod___init__ := f_Rod___init__, fd_Rod___init__ := _, d_Rod___init__ := ⟨MF4, Mb4⟩,
    f_Rod_heft := f_Rod_heft, fd_Rod_heft := _, d_Rod_heft := ⟨MF5, Mb5⟩,
    f_Rod_places := f_Rod_places, fd_Rod_places := _, u_Rod_places := u6, d_Rod_places := ⟨MF6, .cons ru6 .nil, Mb6, Mc6⟩,
    f_Rod_at := f_Rod_at, fd_Rod_at := _, d_Rod_at := ⟨MF7, Mb7⟩,
    c_Hung := c_Hung, o_Hung := ⟨PySem.W.mg_of X G oa_Hung, ⟨op_Hung, oh_Hung, oo_Hung, os_Hung⟩, ok_Hung, ot_Hung, oc_Hung, eN, eT, om_Hung, oq_Hung⟩,
    c_Weight := c_Weight, o_Weight := ⟨PySem.W.mg_of X G oa_Weight, ⟨op_Weight, oh_Weight, oo_Weight, os_Weight⟩, ok_Weight, ot_Weight, oc_Weight, eN, eT, om_Weight, oq_Weight⟩,
    c_Rod := c_Rod, o_Rod := ⟨PySem.W.mg_of X G oa_Rod, ⟨op_Rod, oh_Rod, oo_Rod, os_Rod⟩, ok_Rod, ot_Rod, oc_Rod, eN, eT, om_Rod, oq_Rod⟩,
    w_Weight_Hung := w_Weight_Hung,
    w_Weight_Weight := w_Weight_Weight,
    w_Weight_Rod := w_Weight_Rod,
    w_Rod_Hung := w_Rod_Hung,
    w_Rod_Weight := w_Rod_Weight,
    w_Rod_Rod := w_Rod_Rod,
    k_Weight_heft := ⟨ma3, mi3, mk3⟩,
    k_Weight_places := ⟨if_Weight_places, mi0, mk0⟩,
    k_Weight_at := ⟨if_Weight_at, mi1, mk1⟩,
    k_Rod_heft := ⟨ma5, mi5, mk5⟩,
    k_Rod_places := ⟨ma6, mi6, mk6⟩,
    k_Rod_at := ⟨ma7, mi7, mk7⟩,
    mk_Weight := ⟨im_Weight, ma2, mi2, ok_Weight⟩,
    na_Weight_amount := na_Weight_amount,
    mk_Rod := ⟨im_Rod, ma4, mi4, ok_Rod⟩,
    na_Rod_left_arm := na_Rod_left_arm,
    na_Rod_left := na_Rod_left,
    na_Rod_right_arm := na_Rod_right_arm,
    na_Rod_right := na_Rod_right,
    na_Rod_total := na_Rod_total,
    nt_Weight := nt_Weight,
    nt_Rod := nt_Rod,
    t_FIGURES := tF, g_FIGURES := PySem.W.mg_of X G nf,
    a_NOUGHT := a_NOUGHT, g_NOUGHT := PySem.W.mg_of X G ng, n_NOUGHT := fun G => .inr ⟨_, _, Nn, nl, rfl, rfl, by show 2 ≤ sizeLine; decide, .cons ⟨_, rfl⟩ (.cons ⟨_, rfl⟩ .nil)⟩,
    c_MobileError := c_MobileError, x_MobileError := ⟨xq_MobileError, PySem.W.mg_of X G xa_MobileError, xk_MobileError, xb_MobileError, xt_MobileError, u_MobileError_MobileError, ⟨xg_MobileError, xh_MobileError, xb_MobileError, xd_MobileError, xc_MobileError, eN, eT, xm_MobileError⟩⟩, v_MobileError := v_MobileError,
    c_NoNumber := c_NoNumber, x_NoNumber := ⟨xq_NoNumber, PySem.W.mg_of X G xa_NoNumber, xk_NoNumber, xb_NoNumber, xt_NoNumber, u_NoNumber_NoNumber, ⟨xg_NoNumber, xh_NoNumber, xb_NoNumber, xd_NoNumber, xc_NoNumber, eN, eT, xm_NoNumber⟩⟩, v_NoNumber := v_NoNumber,
    c_NoPlace := c_NoPlace, x_NoPlace := ⟨xq_NoPlace, PySem.W.mg_of X G xa_NoPlace, xk_NoPlace, xb_NoPlace, xt_NoPlace, u_NoPlace_NoPlace, ⟨xg_NoPlace, xh_NoPlace, xb_NoPlace, xd_NoPlace, xc_NoPlace, eN, eT, xm_NoPlace⟩⟩, v_NoPlace := v_NoPlace,
    c_NoText := c_NoText, x_NoText := ⟨xq_NoText, PySem.W.mg_of X G xa_NoText, xk_NoText, xb_NoText, xt_NoText, u_NoText_NoText, ⟨xg_NoText, xh_NoText, xb_NoText, xd_NoText, xc_NoText, eN, eT, xm_NoText⟩⟩, v_NoText := v_NoText,
    u_MobileError_MobileError := u_MobileError_MobileError,
    u_MobileError_NoNumber := u_MobileError_NoNumber,
    u_MobileError_NoPlace := u_MobileError_NoPlace,
    u_MobileError_NoText := u_MobileError_NoText,
    u_NoNumber_MobileError := u_NoNumber_MobileError,
    u_NoNumber_NoNumber := u_NoNumber_NoNumber,
    u_NoNumber_NoPlace := u_NoNumber_NoPlace,
    u_NoNumber_NoText := u_NoNumber_NoText,
    u_NoPlace_MobileError := u_NoPlace_MobileError,
    u_NoPlace_NoNumber := u_NoPlace_NoNumber,
    u_NoPlace_NoPlace := u_NoPlace_NoPlace,
    u_NoPlace_NoText := u_NoPlace_NoText,
    u_NoText_MobileError := u_NoText_MobileError,
    u_NoText_NoNumber := u_NoText_NoNumber,
    u_NoText_NoPlace := u_NoText_NoPlace,
    u_NoText_NoText := u_NoText_NoText,
    z_isinstance := PySem.W.mg_none_of X G z_isinstance, z_len := PySem.W.mg_none_of X G z_len, z_abs := PySem.W.mg_none_of X G z_abs, z_str := PySem.W.mg_none_of X G z_str, z_int := PySem.W.mg_none_of X G z_int, z_list := PySem.W.mg_none_of X G z_list, z_sorted := PySem.W.mg_none_of X G z_sorted, z_all := PySem.W.mg_none_of X G z_all, z_zip := PySem.W.mg_none_of X G z_zip, z_reversed := PySem.W.mg_none_of X G z_reversed, z_tuple := PySem.W.mg_none_of X G z_tuple, z_bool := PySem.W.mg_none_of X G z_bool, z_ValueError := PySem.W.mg_none_of X G z_ValueError }
  exact ⟨T.fd_law, fun s v => .of_eq rfl, fun base _ _ => ok_law T⟩
theorem walk {l : PySem.W.OpenLaw} {q : Program} {loose : List Str} {XP : (Str → Option Value) → Heap → Prop} {YP : World → Heap → Prop} {d : DefRec} {K : Params → PySem.W.Frag} (hn : l.most = some 63) (hdf : d.params.defaults = [])
    (hY : ∀ (w : World) (h : Heap), YP w h → (K w.params).In h)
    (F : ∀ (w : World) (mg : Str → Option Value) (fa : Addr) (h : Heap), (K w.params).In h → h.Ns mainGlobals mg → mg d.name = some (.ref fa) →
      ∃ fd : FuncData, (∀ (s : Shared) (u : Value), BindsTo s fd ⟨[u], []⟩ [("_law_script", u)]) ∧ ∀ base : Heap, (K w.params).In base → base.Ns mainGlobals mg → FnOk l.prog w (K w.params) mg base CX0 110 fa fd ["_law_script"] (spD (SLaw (K w.params)))) :
    PySem.W.WalkO q loose XP YP l.row.toRowW d [] (fun f vs => PySem.call f vs) :=
  L2.walk_of (n := 63) (k := 110) (x := "_law_script") (CX := fun _ => CX0) (sp := fun w => spD (SLaw (K w.params))) hn (by decide) hdf ⟨rfl, by decide, by decide⟩ hY F (fun _ _ a ns hl _ hS => law_sp hl hS) fun _ _ _ _ _ z => z
end HM
open PySem PySem.W PyProof.Rows
set_option maxRecDepth 100000 in
set_option maxHeartbeats 0 in
theorem PySem.Challenge.cw_hangmobile_k06_whole_middles_holds : PySem.Challenge.rw_hangmobile_k06_whole_middles.Holds := by
  w_on; o_law; k_head; (case hw => w_witness2)
  k_fill
  refine HM.walk (l := PySem.Challenge.rw_hangmobile_k06_whole_middles) rfl rfl (fun w h Y => PySem.W.kIn_of Y) ?F
  case F =>
    intro w mg fa h KX G hmg
    refine' HM.all_mk KX G hmg ?a0 ?l0 ?cc0 ?k0 ?a1 ?l1 ?cc1 ?k1 ?a2 ?l2 ?cc2 ?k2 ?a3 ?l3 ?cc3 ?k3 ?a4 ?l4 ?cc4 ?k4 ?a5 ?l5 ?cc5 ?k5 ?a6 ?l6 ?cc6 ?k6 ?a7 ?l7 ?cc7 ?k7 ?a8 ?l8 ?cc8 ?k8 ?a9 ?l9 ?cc9 ?k9 ?a10 ?l10 ?cc10 ?k10 ?a11 ?l11 ?cc11 ?k11 ?a12 ?l12 ?cc12 ?k12 ?a13 ?l13 ?cc13 ?k13 ?a14 ?l14 ?cc14 ?k14 ?a15 ?l15 ?cc15 ?k15 ?a16 ?l16 ?cc16 ?k16 ?a17 ?l17 ?cc17 ?k17 ?a18 ?l18 ?cc18 ?k18 ?a19 ?l19 ?cc19 ?k19 ?a20 ?l20 ?cc20 ?k20 ?a21 ?l21 ?cc21 ?k21 ?a22 ?l22 ?cc22 ?k22 ?a23 ?l23 ?cc23 ?k23 ?a24 ?l24 ?cc24 ?k24 ?a25 ?l25 ?cc25 ?k25 ?a26 ?l26 ?cc26 ?k26 ?a27 ?l27 ?cc27 ?k27 ?a28 ?l28 ?cc28 ?k28 ?a29 ?l29 ?cc29 ?k29 ?a30 ?l30 ?cc30 ?k30 ?a31 ?l31 ?cc31 ?k31 ?a32 ?l32 ?cc32 ?k32 ?a33 ?l33 ?cc33 ?k33 ?a34 ?l34 ?cc34 ?k34 ?a35 ?l35 ?cc35 ?k35 ?a36 ?l36 ?cc36 ?k36 ?a37 ?l37 ?cc37 ?k37 ?a38 ?l38 ?cc38 ?k38 ?xa_MobileError ?xq_MobileError ?xk_MobileError ?xb_MobileError ?xt_MobileError ?xg_MobileError ?xh_MobileError ?xd_MobileError ?xc_MobileError ?xm_MobileError ?v_MobileError ?xa_NoNumber ?xq_NoNumber ?xk_NoNumber ?xb_NoNumber ?xt_NoNumber ?xg_NoNumber ?xh_NoNumber ?xd_NoNumber ?xc_NoNumber ?xm_NoNumber ?v_NoNumber ?xa_NoPlace ?xq_NoPlace ?xk_NoPlace ?xb_NoPlace ?xt_NoPlace ?xg_NoPlace ?xh_NoPlace ?xd_NoPlace ?xc_NoPlace ?xm_NoPlace ?v_NoPlace ?xa_NoText ?xq_NoText ?xk_NoText ?xb_NoText ?xt_NoText ?xg_NoText ?xh_NoText ?xd_NoText ?xc_NoText ?xm_NoText ?v_NoText ?ma0 ?ml0 ?mc0 ?mk0 ?mi0 ?md0 ?mu0 ?ma1 ?ml1 ?mc1 ?mk1 ?mi1 ?ma2 ?ml2 ?mc2 ?mk2 ?mi2 ?ma3 ?ml3 ?mc3 ?mk3 ?mi3 ?ma4 ?ml4 ?mc4 ?mk4 ?mi4 ?ma5 ?ml5 ?mc5 ?mk5 ?mi5 ?ma6 ?ml6 ?mc6 ?mk6 ?mi6 ?md6 ?mu6 ?ma7 ?ml7 ?mc7 ?mk7 ?mi7 ?oa_Hung ?op_Hung ?oh_Hung ?oo_Hung ?os_Hung ?ok_Hung ?ot_Hung ?oc_Hung ?om_Hung ?oq_Hung ?oa_Weight ?op_Weight ?oh_Weight ?oo_Weight ?os_Weight ?ok_Weight ?ot_Weight ?oc_Weight ?om_Weight ?oq_Weight ?oa_Rod ?op_Rod ?oh_Rod ?oo_Rod ?os_Rod ?ok_Rod ?ot_Rod ?oc_Rod ?om_Rod ?oq_Rod ?w_Weight_Hung ?w_Weight_Weight ?w_Weight_Rod ?w_Rod_Hung ?w_Rod_Weight ?w_Rod_Rod ?if_Weight_places ?if_Weight_at ?nt_Weight ?nt_Rod ?im_Weight ?na_Weight_amount ?im_Rod ?na_Rod_left_arm ?na_Rod_left ?na_Rod_right_arm ?na_Rod_right ?na_Rod_total ?ng ?nl ?nf ?eN ?eT ?u_MobileError_MobileError ?u_MobileError_NoNumber ?u_MobileError_NoPlace ?u_MobileError_NoText ?u_NoNumber_MobileError ?u_NoNumber_NoNumber ?u_NoNumber_NoPlace ?u_NoNumber_NoText ?u_NoPlace_MobileError ?u_NoPlace_NoNumber ?u_NoPlace_NoPlace ?u_NoPlace_NoText ?u_NoText_MobileError ?u_NoText_NoNumber ?u_NoText_NoPlace ?u_NoText_NoText ?z_isinstance ?z_len ?z_abs ?z_str ?z_int ?z_list ?z_sorted ?z_all ?z_zip ?z_reversed ?z_tuple ?z_bool ?z_ValueError
    (case a0 => first | k_is | rfl)
    (case a1 => first | k_is | rfl)
    (case a2 => first | k_is | rfl)
    (case a3 => first | k_is | rfl)
    (case a4 => first | k_is | rfl)
    (case a5 => first | k_is | rfl)
    (case a6 => first | k_is | rfl)
    (case a7 => first | k_is | rfl)
    (case a8 => first | k_is | rfl)
    (case a9 => first | k_is | rfl)
    (case a10 => first | k_is | rfl)
    (case a11 => first | k_is | rfl)
    (case a12 => first | k_is | rfl)
    (case a13 => first | k_is | rfl)
    (case a14 => first | k_is | rfl)
    (case a15 => first | k_is | rfl)
    (case a16 => first | k_is | rfl)
    (case a17 => first | k_is | rfl)
    (case a18 => first | k_is | rfl)
    (case a19 => first | k_is | rfl)
    (case a20 => first | k_is | rfl)
    (case a21 => first | k_is | rfl)
    (case a22 => first | k_is | rfl)
    (case a23 => first | k_is | rfl)
    (case a24 => first | k_is | rfl)
    (case a25 => first | k_is | rfl)
    (case a26 => first | k_is | rfl)
    (case a27 => first | k_is | rfl)
    (case a28 => first | k_is | rfl)
    (case a29 => first | k_is | rfl)
    (case a30 => first | k_is | rfl)
    (case a31 => first | k_is | rfl)
    (case a32 => first | k_is | rfl)
    (case a33 => first | k_is | rfl)
    (case a34 => first | k_is | rfl)
    (case a35 => first | k_is | rfl)
    (case a36 => first | k_is | rfl)
    (case a37 => first | k_is | rfl)
    (case a38 => first | k_is | rfl)
    (case xa_MobileError => first | k_is | rfl)
    (case xa_NoNumber => first | k_is | rfl)
    (case xa_NoPlace => first | k_is | rfl)
    (case xa_NoText => first | k_is | rfl)
    (case oa_Hung => first | k_is | rfl)
    (case oa_Weight => first | k_is | rfl)
    (case oa_Rod => first | k_is | rfl)
    (case ng => first | k_is | rfl)
    (case ma0 => first | k_is | rfl)
    (case ma1 => first | k_is | rfl)
    (case ma2 => first | k_is | rfl)
    (case ma3 => first | k_is | rfl)
    (case ma4 => first | k_is | rfl)
    (case ma5 => first | k_is | rfl)
    (case ma6 => first | k_is | rfl)
    (case ma7 => first | k_is | rfl)
    (case ml0 => first | k_is | rfl)
    (case ml1 => first | k_is | rfl)
    (case ml2 => first | k_is | rfl)
    (case ml3 => first | k_is | rfl)
    (case ml4 => first | k_is | rfl)
    (case ml5 => first | k_is | rfl)
    (case ml6 => first | k_is | rfl)
    (case ml7 => first | k_is | rfl)
    (case l0 => first | k_is | rfl)
    (case cc0 => first | k_is | rfl)
    (case k0 => first | k_is | rfl)
    (case l1 => first | k_is | rfl)
    (case cc1 => first | k_is | rfl)
    (case k1 => first | k_is | rfl)
    (case l2 => first | k_is | rfl)
    (case cc2 => first | k_is | rfl)
    (case k2 => first | k_is | rfl)
    (case l3 => first | k_is | rfl)
    (case cc3 => first | k_is | rfl)
    (case k3 => first | k_is | rfl)
    (case l4 => first | k_is | rfl)
    (case cc4 => first | k_is | rfl)
    (case k4 => first | k_is | rfl)
    (case l5 => first | k_is | rfl)
    (case cc5 => first | k_is | rfl)
    (case k5 => first | k_is | rfl)
    (case l6 => first | k_is | rfl)
    (case cc6 => first | k_is | rfl)
    (case k6 => first | k_is | rfl)
    (case l7 => first | k_is | rfl)
    (case cc7 => first | k_is | rfl)
    (case k7 => first | k_is | rfl)
    (case l8 => first | k_is | rfl)
    (case cc8 => first | k_is | rfl)
    (case k8 => first | k_is | rfl)
    (case l9 => first | k_is | rfl)
    (case cc9 => first | k_is | rfl)
    (case k9 => first | k_is | rfl)
    (case l10 => first | k_is | rfl)
    (case cc10 => first | k_is | rfl)
    (case k10 => first | k_is | rfl)
    (case l11 => first | k_is | rfl)
    (case cc11 => first | k_is | rfl)
    (case k11 => first | k_is | rfl)
    (case l12 => first | k_is | rfl)
    (case cc12 => first | k_is | rfl)
    (case k12 => first | k_is | rfl)
    (case l13 => first | k_is | rfl)
    (case cc13 => first | k_is | rfl)
    (case k13 => first | k_is | rfl)
    (case l14 => first | k_is | rfl)
    (case cc14 => first | k_is | rfl)
    (case k14 => first | k_is | rfl)
    (case l15 => first | k_is | rfl)
    (case cc15 => first | k_is | rfl)
    (case k15 => first | k_is | rfl)
    (case l16 => first | k_is | rfl)
    (case cc16 => first | k_is | rfl)
    (case k16 => first | k_is | rfl)
    (case l17 => first | k_is | rfl)
    (case cc17 => first | k_is | rfl)
    (case k17 => first | k_is | rfl)
    (case l18 => first | k_is | rfl)
    (case cc18 => first | k_is | rfl)
    (case k18 => first | k_is | rfl)
    (case l19 => first | k_is | rfl)
    (case cc19 => first | k_is | rfl)
    (case k19 => first | k_is | rfl)
    (case l20 => first | k_is | rfl)
    (case cc20 => first | k_is | rfl)
    (case k20 => first | k_is | rfl)
    (case l21 => first | k_is | rfl)
    (case cc21 => first | k_is | rfl)
    (case k21 => first | k_is | rfl)
    (case l22 => first | k_is | rfl)
    (case cc22 => first | k_is | rfl)
    (case k22 => first | k_is | rfl)
    (case l23 => first | k_is | rfl)
    (case cc23 => first | k_is | rfl)
    (case k23 => first | k_is | rfl)
    (case l24 => first | k_is | rfl)
    (case cc24 => first | k_is | rfl)
    (case k24 => first | k_is | rfl)
    (case l25 => first | k_is | rfl)
    (case cc25 => first | k_is | rfl)
    (case k25 => first | k_is | rfl)
    (case l26 => first | k_is | rfl)
    (case cc26 => first | k_is | rfl)
    (case k26 => first | k_is | rfl)
    (case l27 => first | k_is | rfl)
    (case cc27 => first | k_is | rfl)
    (case k27 => first | k_is | rfl)
    (case l28 => first | k_is | rfl)
    (case cc28 => first | k_is | rfl)
    (case k28 => first | k_is | rfl)
    (case l29 => first | k_is | rfl)
    (case cc29 => first | k_is | rfl)
    (case k29 => first | k_is | rfl)
    (case l30 => first | k_is | rfl)
    (case cc30 => first | k_is | rfl)
    (case k30 => first | k_is | rfl)
    (case l31 => first | k_is | rfl)
    (case cc31 => first | k_is | rfl)
    (case k31 => first | k_is | rfl)
    (case l32 => first | k_is | rfl)
    (case cc32 => first | k_is | rfl)
    (case k32 => first | k_is | rfl)
    (case l33 => first | k_is | rfl)
    (case cc33 => first | k_is | rfl)
    (case k33 => first | k_is | rfl)
    (case l34 => first | k_is | rfl)
    (case cc34 => first | k_is | rfl)
    (case k34 => first | k_is | rfl)
    (case l35 => first | k_is | rfl)
    (case cc35 => first | k_is | rfl)
    (case k35 => first | k_is | rfl)
    (case l36 => first | k_is | rfl)
    (case cc36 => first | k_is | rfl)
    (case k36 => first | k_is | rfl)
    (case l37 => first | k_is | rfl)
    (case cc37 => first | k_is | rfl)
    (case k37 => first | k_is | rfl)
    (case l38 => first | k_is | rfl)
    (case cc38 => first | k_is | rfl)
    (case k38 => first | k_is | rfl)
    (case xq_MobileError => k_exc)
    (case xk_MobileError => first | k_is | rfl)
    (case xb_MobileError => first | k_is | rfl)
    (case xt_MobileError => first | k_is | rfl)
    (case xg_MobileError => first | k_is | rfl)
    (case xh_MobileError => first | k_is | rfl)
    (case xd_MobileError => first | k_is | rfl)
    (case xc_MobileError => first | k_is | rfl)
    (case xm_MobileError => first | k_is | rfl)
    (case v_MobileError => first | k_is | rfl)
    (case xq_NoNumber => k_exc)
    (case xk_NoNumber => first | k_is | rfl)
    (case xb_NoNumber => first | k_is | rfl)
    (case xt_NoNumber => first | k_is | rfl)
    (case xg_NoNumber => first | k_is | rfl)
    (case xh_NoNumber => first | k_is | rfl)
    (case xd_NoNumber => first | k_is | rfl)
    (case xc_NoNumber => first | k_is | rfl)
    (case xm_NoNumber => first | k_is | rfl)
    (case v_NoNumber => first | k_is | rfl)
    (case xq_NoPlace => k_exc)
    (case xk_NoPlace => first | k_is | rfl)
    (case xb_NoPlace => first | k_is | rfl)
    (case xt_NoPlace => first | k_is | rfl)
    (case xg_NoPlace => first | k_is | rfl)
    (case xh_NoPlace => first | k_is | rfl)
    (case xd_NoPlace => first | k_is | rfl)
    (case xc_NoPlace => first | k_is | rfl)
    (case xm_NoPlace => first | k_is | rfl)
    (case v_NoPlace => first | k_is | rfl)
    (case xq_NoText => k_exc)
    (case xk_NoText => first | k_is | rfl)
    (case xb_NoText => first | k_is | rfl)
    (case xt_NoText => first | k_is | rfl)
    (case xg_NoText => first | k_is | rfl)
    (case xh_NoText => first | k_is | rfl)
    (case xd_NoText => first | k_is | rfl)
    (case xc_NoText => first | k_is | rfl)
    (case xm_NoText => first | k_is | rfl)
    (case v_NoText => first | k_is | rfl)
    (case mc0 => first | k_is | rfl)
    (case mk0 => first | k_is | rfl)
    (case mi0 => first | k_is | rfl)
    (case md0 => first | k_is | rfl)
    (case mu0 => exact ⟨_, rfl⟩)
    (case mc1 => first | k_is | rfl)
    (case mk1 => first | k_is | rfl)
    (case mi1 => first | k_is | rfl)
    (case mc2 => first | k_is | rfl)
    (case mk2 => first | k_is | rfl)
    (case mi2 => first | k_is | rfl)
    (case mc3 => first | k_is | rfl)
    (case mk3 => first | k_is | rfl)
    (case mi3 => first | k_is | rfl)
    (case mc4 => first | k_is | rfl)
    (case mk4 => first | k_is | rfl)
    (case mi4 => first | k_is | rfl)
    (case mc5 => first | k_is | rfl)
    (case mk5 => first | k_is | rfl)
    (case mi5 => first | k_is | rfl)
    (case mc6 => first | k_is | rfl)
    (case mk6 => first | k_is | rfl)
    (case mi6 => first | k_is | rfl)
    (case md6 => first | k_is | rfl)
    (case mu6 => exact ⟨_, rfl⟩)
    (case mc7 => first | k_is | rfl)
    (case mk7 => first | k_is | rfl)
    (case mi7 => first | k_is | rfl)
    (case op_Hung => first | k_is | rfl)
    (case oh_Hung => first | k_is | rfl)
    (case oo_Hung => first | k_is | rfl)
    (case os_Hung => first | k_is | rfl)
    (case ok_Hung => first | k_is | rfl)
    (case ot_Hung => first | k_is | rfl)
    (case oc_Hung => first | k_is | rfl)
    (case om_Hung => first | k_is | rfl)
    (case oq_Hung => first | k_is | rfl)
    (case op_Weight => first | k_is | rfl)
    (case oh_Weight => first | k_is | rfl)
    (case oo_Weight => first | k_is | rfl)
    (case os_Weight => first | k_is | rfl)
    (case ok_Weight => first | k_is | rfl)
    (case ot_Weight => first | k_is | rfl)
    (case oc_Weight => first | k_is | rfl)
    (case om_Weight => first | k_is | rfl)
    (case oq_Weight => first | k_is | rfl)
    (case op_Rod => first | k_is | rfl)
    (case oh_Rod => first | k_is | rfl)
    (case oo_Rod => first | k_is | rfl)
    (case os_Rod => first | k_is | rfl)
    (case ok_Rod => first | k_is | rfl)
    (case ot_Rod => first | k_is | rfl)
    (case oc_Rod => first | k_is | rfl)
    (case om_Rod => first | k_is | rfl)
    (case oq_Rod => first | k_is | rfl)
    (case w_Weight_Hung => first | k_is | rfl)
    (case w_Weight_Weight => first | k_is | rfl)
    (case w_Weight_Rod => first | k_is | rfl)
    (case w_Rod_Hung => first | k_is | rfl)
    (case w_Rod_Weight => first | k_is | rfl)
    (case w_Rod_Rod => first | k_is | rfl)
    (case if_Weight_places => first | k_is | rfl)
    (case if_Weight_at => first | k_is | rfl)
    (case nt_Weight => first | k_is | rfl)
    (case nt_Rod => first | k_is | rfl)
    (case im_Weight => first | k_is | rfl)
    (case na_Weight_amount => first | k_is | rfl)
    (case im_Rod => first | k_is | rfl)
    (case na_Rod_left_arm => first | k_is | rfl)
    (case na_Rod_left => first | k_is | rfl)
    (case na_Rod_right_arm => first | k_is | rfl)
    (case na_Rod_right => first | k_is | rfl)
    (case na_Rod_total => first | k_is | rfl)
    (case nl => first | k_is | rfl)
    (case nf => first | k_is | rfl)
    (case eN => first | k_is | rfl)
    (case eT => first | k_is | rfl)
    (case u_MobileError_MobileError => first | k_is | rfl)
    (case u_MobileError_NoNumber => first | k_is | rfl)
    (case u_MobileError_NoPlace => first | k_is | rfl)
    (case u_MobileError_NoText => first | k_is | rfl)
    (case u_NoNumber_MobileError => first | k_is | rfl)
    (case u_NoNumber_NoNumber => first | k_is | rfl)
    (case u_NoNumber_NoPlace => first | k_is | rfl)
    (case u_NoNumber_NoText => first | k_is | rfl)
    (case u_NoPlace_MobileError => first | k_is | rfl)
    (case u_NoPlace_NoNumber => first | k_is | rfl)
    (case u_NoPlace_NoPlace => first | k_is | rfl)
    (case u_NoPlace_NoText => first | k_is | rfl)
    (case u_NoText_MobileError => first | k_is | rfl)
    (case u_NoText_NoNumber => first | k_is | rfl)
    (case u_NoText_NoPlace => first | k_is | rfl)
    (case u_NoText_NoText => first | k_is | rfl)
    (case z_isinstance => first | k_is | rfl)
    (case z_len => first | k_is | rfl)
    (case z_abs => first | k_is | rfl)
    (case z_str => first | k_is | rfl)
    (case z_int => first | k_is | rfl)
    (case z_list => first | k_is | rfl)
    (case z_sorted => first | k_is | rfl)
    (case z_all => first | k_is | rfl)
    (case z_zip => first | k_is | rfl)
    (case z_reversed => first | k_is | rfl)
    (case z_tuple => first | k_is | rfl)
    (case z_bool => first | k_is | rfl)
    (case z_ValueError => first | k_is | rfl)
#print axioms PySem.Challenge.cw_hangmobile_k06_whole_middles_holds
