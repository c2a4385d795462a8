import PyProof.Rows.All
import Wide.All
import OpenK.AllK
import Wide.FinOn
import HandS.ForMost
import HandS.ForExc
import HandS.Wide
import HandS.IsInst
import HandS.Deep
import HandS.Flow
import HandS.TupAny
import HandS.SortInts
import HandS.Gcd
import HandS.Conv
import HandS.Defaults
import HandS.Head0
import HandS.Head1
import HandS.Head2
import HandS.HeadEnd
import HandS.HeadHook1
import HandS.HeadHook2
import HandS.TryOnly
import HandS.SetFor
import HandS.ExcOwn
import HandS.WordsExc
import HandS.Iter
import KE.GoesEnum
import HandS.Strs
import HandS.SetFor
import HandS.Head3
import HandS.SetKeys
import HandS.Flt
import PySem.Challenge.RW_everdays_k25_rules_compared
set_option Elab.async false
set_option linter.all false
set_option maxRecDepth 100000
set_option maxHeartbeats 8000000
/-! A layer of pure data over HandS: slots hold values (data without addresses) or lists of one's own; readings speak of data alone. -/
namespace PL
open PySem PySem.Spec PyProof.Rows L2

/-! ### data -/
inductive D where
  | non | bl (b : Bool) | int (i : Int) | str (x : Str) | tup (xs : List D) | lst (xs : List D) | ref (a : Addr) | ty (n : String) | set (f : Int → Bool) (n : Nat) | dic (ks : List Key) (xs : List D) | obj (c : Str) (fs : List Str) (xs : List D)
abbrev Fg := PySem.W.Frag
abbrev St := L2.St
mutual
inductive Rp (K : Fg) (S : Hp) : V → D → Prop
  | non : Rp K S .non .non
  | bl (b : Bool) : Rp K S (.bl b) (.bl b)
  | int (i : Int) : Rp K S (.int i) (.int i)
  | str (x : Str) : Rp K S (.str x) (.str x)
  | ty (n : String) : Rp K S (.ty n) (.ty n)
  | ref (a : Addr) : Rp K S (.ref a) (.ref a)
  | lst {a : Addr} {xs : List V} {ds : List D} : S a = some (.lst xs) → RpA K S xs ds → Rp K S (.ref a) (.lst ds)
  | tup {a : Addr} {xs : List V} {ds : List D} : SqT K S a xs → RpA K S xs ds → Rp K S (.ref a) (.tup ds)
  | set {a : Addr} {f : Int → Bool} {n : Nat} : S a = some (.set f n) → Rp K S (.ref a) (.set f n)
  | dic {a : Addr} {o : Obj} {ks : List Key} {xs : List V} {ds : List D} : S a = some (.frz o (.dK (ks.zip xs))) → ks.length = xs.length → RpA K S xs ds → Rp K S (.ref a) (.dic ks ds)
  | obj {a dx : Addr} {c : Str} {fs : List Str} {xs : List V} {ds : List D} : S a = some (.ins (He.ga K c) dx (fs.zip xs)) → fs.length = xs.length → fs.Nodup → RpA K S xs ds → Rp K S (.ref a) (.obj c fs ds)
inductive RpA (K : Fg) (S : Hp) : List V → List D → Prop
  | nil : RpA K S [] []
  | cons {v : V} {vs : List V} {d : D} {ds : List D} : Rp K S v d → RpA K S vs ds → RpA K S (v :: vs) (d :: ds)
end
theorem same_seqT {K : Fg} {H H' : Hp} {a : Addr} {xs : List V} (e : Same H H') (h : SqT K H a xs) : SqT K H' a xs := by
  rcases h with (h | ⟨o, h⟩) | h
  · exact .inl (.inl (e _ _ h))
  · exact .inl (.inr ⟨o, e _ _ h⟩)
  · exact .inr h
mutual
theorem Rp.ext {K : Fg} {S S' : Hp} (e : Same S S') : ∀ (d : D) (v : V), Rp K S v d → Rp K S' v d
  | .non, _, h => by cases h; exact .non
  | .bl b, _, h => by cases h; exact .bl b
  | .int i, _, h => by cases h; exact .int i
  | .str x, _, h => by cases h; exact .str x
  | .ty n, _, h => by cases h; exact .ty n
  | .ref a, _, h => by cases h; exact .ref a
  | .lst ds, _, h => by cases h with | lst a b => exact .lst (e _ _ a) (RpA.ext e ds _ b)
  | .tup ds, _, h => by cases h with | tup a b => exact .tup (same_seqT e a) (RpA.ext e ds _ b)
  | .set f n, _, h => by cases h with | set a => exact .set (e _ _ a)
  | .dic ks ds, _, h => by cases h with | dic a l b => exact .dic (e _ _ a) l (RpA.ext e ds _ b)
  | .obj c fs ds, _, h => by cases h with | obj a l n b => exact .obj (e _ _ a) l n (RpA.ext e ds _ b)
theorem RpA.ext {K : Fg} {S S' : Hp} (e : Same S S') : ∀ (ds : List D) (vs : List V), RpA K S vs ds → RpA K S' vs ds
  | [], _, h => by cases h; exact .nil
  | d :: ds, _, h => by cases h with | cons a b => exact .cons (Rp.ext e d _ a) (RpA.ext e ds _ b)
end
section
variable {K : Fg} {S : Hp}
theorem RpA.length : ∀ {ds : List D} {vs : List V}, RpA K S vs ds → vs.length = ds.length
  | [], _, h => by cases h; rfl
  | d :: ds, _, h => by cases h with | cons a b => rw [List.length_cons, List.length_cons, RpA.length b]
theorem RpA.get : ∀ {ds : List D} {vs : List V} {i : Nat} {d : D}, RpA K S vs ds → ds[i]? = some d → ∃ v, vs[i]? = some v ∧ Rp K S v d
  | [], _, _, _, _, e => by simp at e
  | c :: ds, _, 0, d, h, e => by cases h with | cons a b => simp at e; subst e; exact ⟨_, rfl, a⟩
  | c :: ds, _, i + 1, d, h, e => by
    cases h with
    | cons a b =>
      obtain ⟨v, h1, h2⟩ := RpA.get (i := i) b (by simpa using e)
      exact ⟨v, by simpa using h1, h2⟩
theorem RpA.append : ∀ {ds : List D} {vs : List V} {es : List D} {us : List V}, RpA K S vs ds → RpA K S us es → RpA K S (vs ++ us) (ds ++ es)
  | [], _, _, _, h, k => by cases h; exact k
  | d :: ds, _, _, _, h, k => by cases h with | cons a b => exact .cons a (b.append k)
theorem RpA.one {v : V} {d : D} (h : Rp K S v d) : RpA K S [v] [d] := .cons h .nil
theorem RpA.set : ∀ {ds : List D} {vs : List V} {i : Nat} {v : V} {d : D}, RpA K S vs ds → Rp K S v d → RpA K S (vs.set i v) (ds.set i d)
  | [], _, _, _, _, h, _ => by cases h; exact .nil
  | c :: ds, _, 0, _, _, h, k => by cases h with | cons a b => exact .cons k b
  | c :: ds, _, i + 1, _, _, h, k => by cases h with | cons a b => exact .cons a (b.set k)
theorem RpA.take : ∀ {ds : List D} {vs : List V} (n : Nat), RpA K S vs ds → RpA K S (vs.take n) (ds.take n)
  | [], _, n, h => by cases h; simp; exact .nil
  | c :: ds, _, 0, h => by simp; exact .nil
  | c :: ds, _, n + 1, h => by cases h with | cons a b => exact .cons a (b.take n)
theorem RpA.drop : ∀ {ds : List D} {vs : List V} (n : Nat), RpA K S vs ds → RpA K S (vs.drop n) (ds.drop n)
  | [], _, n, h => by cases h; simp; exact .nil
  | c :: ds, _, 0, h => h
  | c :: ds, _, n + 1, h => by cases h with | cons a b => exact b.drop n
theorem RpA.ints : ∀ {ns : List Int}, RpA K S (ns.map V.int) (ns.map D.int)
  | [] => .nil
  | n :: ns => .cons (.int n) RpA.ints
theorem RpA.intsV : ∀ {ns : List Int} {vs : List V}, RpA K S vs (ns.map D.int) → vs = ns.map V.int
  | [], _, h => by cases h; rfl
  | n :: ns, _, h => by cases h with | cons a b => cases a; rw [RpA.intsV b]; rfl
theorem RpA.blsV : ∀ {ns : List Bool} {vs : List V}, RpA K S vs (ns.map D.bl) → vs = ns.map V.bl
  | [], _, h => by cases h; rfl
  | n :: ns, _, h => by cases h with | cons a b => cases a; rw [RpA.blsV b]; rfl
theorem RpA.reverse : ∀ {ds : List D} {vs : List V}, RpA K S vs ds → RpA K S vs.reverse ds.reverse
  | [], _, h => by cases h; exact .nil
  | d :: ds, _, h => by
    cases h with
    | cons a b =>
      rw [List.reverse_cons, List.reverse_cons]
      exact b.reverse.append (.one a)
end

/-- a dict's rows, key by key -/
inductive KP {κ : Type} (K : Fg) (S : Hp) : List (κ × V) → List (κ × D) → Prop
  | nil : KP K S [] []
  | cons {k : κ} {v : V} {d : D} {kvs : List (κ × V)} {kds : List (κ × D)} : Rp K S v d → KP K S kvs kds → KP K S ((k, v) :: kvs) ((k, d) :: kds)
theorem KP.ext {κ : Type} {K : Fg} {S S' : Hp} (e : Same S S') {kvs : List (κ × V)} {kds : List (κ × D)} (h : KP K S kvs kds) : KP K S' kvs kds := by
  induction h with
  | nil => exact .nil
  | cons a _ ih => exact .cons (Rp.ext e _ _ a) ih
theorem KP.length {κ : Type} {K : Fg} {S : Hp} {kvs : List (κ × V)} {kds : List (κ × D)} (h : KP K S kvs kds) : kvs.length = kds.length := by
  induction h with
  | nil => rfl
  | cons _ _ ih => rw [List.length_cons, List.length_cons, ih]
/-! ### what stands in a slot; what may be changed -/
inductive Ow where
  | lst (ds : List D)
def Ow.toD : Ow → D
  | .lst ds => .lst ds
def OwOk (K : Fg) (S H : Hp) (a : Addr) : Ow → Prop
  | .lst ds => ∃ xs, H a = some (.lst xs) ∧ RpA K S xs ds
inductive Sl where
  | un | va (d : D) | ow (o : Ow)
def Sl.val : Sl → D
  | .un => .non
  | .va d => d
  | .ow o => o.toD
/-- objects known by their address: the law's tape, a list that several hold -/
inductive MO where
  | tape | lst (ds : List D) | ins (c : Str) (fs : List Str) (ds : List D) | dic (l : List (Key × D)) | dit (l : List (List Key × D))
def MOk (K : Fg) (S H : Hp) (a : Addr) : MO → Prop
  | .tape => ∃ c ns k x, H a = some (.lst [.ref c, .int k, .int x]) ∧ S c = some (.lst (List.map V.int ns)) ∧ (0 : Int) ≤ k ∧ (0 : Int) ≤ x
  | .lst ds => ∃ xs, H a = some (.lst xs) ∧ RpA K S xs ds
  | .ins c fs ds => ∃ dx xs, H a = some (.ins (He.ga K c) dx (fs.zip xs)) ∧ fs.length = xs.length ∧ fs.Nodup ∧ RpA K S xs ds
  | .dic l => ∃ kvs, H a = some (.dK kvs) ∧ KP K S kvs l
  | .dit l => ∃ kvs, H a = some (.dT kvs) ∧ KP K S kvs l
abbrev Mu := List (Addr × MO)
abbrev Ev := List Sl
theorem MOk.at {K : Fg} {S H : Hp} {a : Addr} : ∀ {o : MO}, MOk K S H a o → ∃ u, H a = some u
  | .tape, ⟨_, _, _, _, e, _⟩ => ⟨_, e⟩
  | .lst _, ⟨_, e, _⟩ => ⟨_, e⟩
  | .ins _ _ _, ⟨_, _, e, _⟩ => ⟨_, e⟩
  | .dic _, ⟨_, e, _⟩ => ⟨_, e⟩
  | .dit _, ⟨_, e, _⟩ => ⟨_, e⟩
theorem OwOk.at {K : Fg} {S H : Hp} {a : Addr} : ∀ {o : Ow}, OwOk K S H a o → ∃ u, H a = some u
  | .lst _, ⟨_, e, _⟩ => ⟨_, e⟩
theorem MOk.ext {K : Fg} {S H S' H' : Hp} {a : Addr} (e : Same S S') (k : H' a = H a) : ∀ {o : MO}, MOk K S H a o → MOk K S' H' a o
  | .tape, ⟨c, ns, i, x, h, q, r⟩ => ⟨c, ns, i, x, k.trans h, e _ _ q, r⟩
  | .lst _, ⟨xs, h, q⟩ => ⟨xs, k.trans h, RpA.ext e _ _ q⟩
  | .ins _ _ _, ⟨dx, xs, h, l, n, q⟩ => ⟨dx, xs, k.trans h, l, n, RpA.ext e _ _ q⟩
  | .dic _, ⟨kvs, h, q⟩ => ⟨kvs, k.trans h, q.ext e⟩
  | .dit _, ⟨kvs, h, q⟩ => ⟨kvs, k.trans h, q.ext e⟩
theorem OwOk.ext {K : Fg} {S H S' H' : Hp} {a : Addr} (e : Same S S') (k : H' a = H a) : ∀ {o : Ow}, OwOk K S H a o → OwOk K S' H' a o
  | .lst _, ⟨xs, h, q⟩ => ⟨xs, k.trans h, RpA.ext e _ _ q⟩

/-- what an expression, a call may do: objects known by address change, all else stands, new things come -/
structure Step (S : Hp) (M : Mu) (H S' : Hp) (M' : Mu) (H' : Hp) : Prop where
  same : Same S S'
  keep : ∀ b o, H b = some o → (∀ p ∈ M, p.1 ≠ b) → H' b = some o
  mnew : ∀ p ∈ M', (∃ q ∈ M, q.1 = p.1) ∨ H p.1 = none
  dom : ∀ b, H b ≠ none → H' b ≠ none
section
variable {S S1 S2 S' H H1 H2 H' : Hp} {M M1 M2 M' : Mu}
theorem Step.refl : Step S M H S M H := ⟨.refl _, fun _ _ h _ => h, fun p hp => .inl ⟨p, hp, rfl⟩, fun _ h => h⟩
theorem Step.trans (a : Step S M H S1 M1 H1) (b : Step S1 M1 H1 S2 M2 H2) : Step S M H S2 M2 H2 := by
  refine ⟨a.same.trans b.same, fun c o h n => ?_, fun p hp => ?_, fun c h => b.dom c (a.dom c h)⟩
  · refine b.keep c o (a.keep c o h n) fun p hp e => ?_
    rcases a.mnew p hp with ⟨q, hq, e2⟩ | e2
    · exact n q hq (e2.trans e)
    · rw [e, h] at e2; cases e2
  · rcases b.mnew p hp with ⟨q, hq, e⟩ | e
    · rcases a.mnew q hq with ⟨r, hr, e2⟩ | e2
      · exact .inl ⟨r, hr, e2.trans e⟩
      · exact .inr (e ▸ e2)
    · refine .inr ?_
      cases h : H p.1 with
      | none => rfl
      | some o => exact absurd e (a.dom p.1 (by rw [h]; simp))
/-- new things alone -/
theorem Step.grow (hS : Same S S') (hH : Same H H') : Step S M H S' M H' :=
  ⟨hS, fun b o h _ => hH b o h, fun p hp => .inl ⟨p, hp, rfl⟩, fun b h => by
    cases e : H b with
    | none => exact absurd e h
    | some o => rw [hH b o e]; simp⟩
end

/-- a def's call: its written part, its entry -/
structure Z where
  K : Fg
  H0 : Hp
  S0 : Hp
  M0 : Mu
  /-- what is not to be known (a comprehension's list) -/
  R : Addr → Prop := fun _ => False
/-- new, and to be known -/
def Z.Nw (z : Z) (a : Addr) : Prop := z.H0 a = none ∧ ¬ z.R a
structure Core (z : Z) (S : Hp) (M : Mu) (H : Hp) : Prop where
  step : Step z.S0 z.M0 z.H0 S M H
  sub : Same S H
  frS : ∀ b, S b ≠ none → z.S0 b ≠ none ∨ z.H0 b = none
  mu : ∀ p ∈ M, S p.1 = none ∧ MOk z.K S H p.1 p.2
  mnd : (M.map (·.1)).Nodup
  rsv : ∀ b, z.R b → S b = none ∧ H b ≠ none ∧ ∀ p ∈ M, p.1 ≠ b
structure Sim (z : Z) (S : Hp) (M : Mu) (ρ : Ev) (σ : St) (H : Hp) : Prop extends Core z S M H where
  len : σ.length = ρ.length
  va : ∀ (i : Nat) d, ρ[i]? = some (.va d) → ∃ v, σ[i]? = some (some v) ∧ Rp z.K S v d
  ow : ∀ (i : Nat) o, ρ[i]? = some (.ow o) → ∃ a, σ[i]? = some (some (.ref a)) ∧ S a = none ∧ z.Nw a ∧ OwOk z.K S H a o ∧ ∀ p ∈ M, p.1 ≠ a
  sep : ∀ (i j : Nat) o o' a, ρ[i]? = some (.ow o) → ρ[j]? = some (.ow o') → σ[i]? = some (some (.ref a)) → σ[j]? = some (some (.ref a)) → i = j
/-- an expression's value -/
def ResE (z : Z) (S : Hp) (M : Mu) (ρ : Ev) (σ : St) (H : Hp) (v : V) : Sl → Prop
  | .un => False
  | .va d => Rp z.K S v d
  | .ow o => ∃ a, v = .ref a ∧ S a = none ∧ z.Nw a ∧ OwOk z.K S H a o ∧ (∀ p ∈ M, p.1 ≠ a) ∧ ∀ (i : Nat) o', ρ[i]? = some (.ow o') → σ[i]? ≠ some (some (.ref a))
/-- a def's value -/
def ResF (z : Z) (S : Hp) (M : Mu) (H : Hp) (v : V) : Sl → Prop
  | .un => False
  | .va d => Rp z.K S v d
  | .ow o => ∃ a, v = .ref a ∧ S a = none ∧ z.Nw a ∧ OwOk z.K S H a o ∧ (∀ p ∈ M, p.1 ≠ a)
/-- a value that is only looked at -/
def Rb (K : Fg) (S : Hp) (M : Mu) (H : Hp) (v : V) (d : D) : Prop :=
  Rp K S v d ∨ ∃ a xs ds, v = .ref a ∧ d = .lst ds ∧ H a = some (.lst xs) ∧ RpA K S xs ds ∧ ∀ p ∈ M, p.1 ≠ a
theorem ResE.f {z : Z} {S : Hp} {M : Mu} {ρ : Ev} {σ : St} {H : Hp} {v : V} {r : Sl} (h : ResE z S M ρ σ H v r) : ResF z S M H v r := by
  cases r with
  | un => exact h
  | va d => exact h
  | ow o => obtain ⟨a, h1, h2, h3, h4, h5, _⟩ := h; exact ⟨a, h1, h2, h3, h4, h5⟩
theorem ResE.rb {z : Z} {S : Hp} {M : Mu} {ρ : Ev} {σ : St} {H : Hp} {v : V} {r : Sl} (h : ResE z S M ρ σ H v r) : Rb z.K S M H v r.val := by
  cases r with
  | un => exact h.elim
  | va d => exact .inl h
  | ow o =>
    cases o with
    | lst ds => obtain ⟨a, h1, h2, h3, ⟨xs, h4, h6⟩, h5, _⟩ := h; exact .inr ⟨a, xs, ds, h1, rfl, h4, h6, h5⟩
theorem Rb.step {K : Fg} {S S' : Hp} {M M' : Mu} {H H' : Hp} {v : V} {d : D} (h : Rb K S M H v d) (t : Step S M H S' M' H') : Rb K S' M' H' v d := by
  rcases h with h | ⟨a, xs, ds, h1, h2, h3, h4, h5⟩
  · exact .inl (Rp.ext t.same _ _ h)
  · refine .inr ⟨a, xs, ds, h1, h2, t.keep a _ h3 h5, RpA.ext t.same _ _ h4, fun p hp e => ?_⟩
    rcases t.mnew p hp with ⟨q, hq, e2⟩ | e2
    · exact h5 q hq (e2.trans e)
    · rw [e, h3] at e2; cases e2

section
variable {z : Z} {S S' : Hp} {M M' : Mu} {ρ : Ev} {σ : St} {H H' : Hp} {v : V} {r : Sl}
theorem Core.h0 (h : Core z S M H) {b : Addr} (e : H b = none) : z.H0 b = none := by
  cases q : z.H0 b with
  | none => rfl
  | some o => exact absurd e (h.step.dom b (by rw [q]; simp))
theorem Core.sNone (h : Core z S M H) {b : Addr} (e : H b = none) : S b = none := by
  cases q : S b with
  | none => rfl
  | some o => rw [h.sub b o q] at e; cases e
theorem Core.grow (h : Core z S M H) (hS : Same S S') (hH : Same H H') (hSH : Same S' H') (fr : ∀ b, S' b ≠ none → S b ≠ none ∨ H b = none) : Core z S' M H' := by
  refine ⟨h.step.trans (.grow hS hH), hSH, fun b e => ?_, fun p hp => ?_, h.mnd, fun b hb => ?_⟩
  · rcases fr b e with e | e
    · exact h.frS b e
    · exact .inr (h.h0 e)
  · obtain ⟨a, b⟩ := h.mu p hp
    obtain ⟨u, hu⟩ := b.at
    refine ⟨?_, b.ext hS ((hH _ _ hu).trans hu.symm)⟩
    cases q : S' p.1 with
    | none => rfl
    | some o =>
      rcases fr p.1 (by rw [q]; simp) with e | e
      · exact absurd a e
      · rw [hu] at e; cases e
  · obtain ⟨r1, r2, r3⟩ := h.rsv b hb
    refine ⟨?_, ?_, r3⟩
    · cases q : S' b with
      | none => rfl
      | some o =>
        rcases fr b (by rw [q]; simp) with e | e
        · exact absurd r1 e
        · exact absurd e r2
    · cases e : H b with
      | none => exact absurd e r2
      | some o => rw [hH b o e]; simp
theorem Core.nw (h : Core z S M H) {b : Addr} (e : H b = none) : z.Nw b := ⟨h.h0 e, fun r => (h.rsv b r).2.1 e⟩
theorem Sim.grow (h : Sim z S M ρ σ H) (hS : Same S S') (hH : Same H H') (hSH : Same S' H') (fr : ∀ b, S' b ≠ none → S b ≠ none ∨ H b = none) : Sim z S' M ρ σ H' := by
  refine ⟨h.toCore.grow hS hH hSH fr, h.len, fun i d e => ?_, fun i o e => ?_, h.sep⟩
  · obtain ⟨v, a, b⟩ := h.va i d e
    exact ⟨v, a, Rp.ext hS _ _ b⟩
  · obtain ⟨a, h1, h2, h3, h4, h5⟩ := h.ow i o e
    obtain ⟨u, hu⟩ := h4.at
    refine ⟨a, h1, ?_, h3, h4.ext hS ((hH _ _ hu).trans hu.symm), h5⟩
    cases q : S' a with
    | none => rfl
    | some o =>
      rcases fr a (by rw [q]; simp) with e | e
      · exact absurd h2 e
      · rw [hu] at e; cases e
theorem same_upd {p : Addr} {o : HO} (hp : H p = none) : Same H (upd H p o) := fun b u e => by rw [upd_ne (ne_of_none e hp)]; exact e
/-- a new thing, known from now on -/
theorem Sim.alloc {p : Addr} {o : HO} (h : Sim z S M ρ σ H) (hp : H p = none) : Sim z (upd S p o) M ρ σ (upd H p o) ∧ Step S M H (upd S p o) M (upd H p o) := by
  have hs : S p = none := h.toCore.sNone hp
  refine ⟨h.grow (same_upd hs) (same_upd hp) (fun b u e => ?_) fun b e => ?_, .grow (same_upd hs) (same_upd hp)⟩
  · by_cases hb : b = p
    · subst hb; rw [upd_same] at e ⊢; exact e
    · rw [upd_ne hb] at e ⊢; exact h.sub b u e
  · by_cases hb : b = p
    · subst hb; exact .inr hp
    · rw [upd_ne hb] at e; exact .inl e
/-- a new thing that nothing is said of -/
theorem Sim.more {p : Addr} {o : HO} (h : Sim z S M ρ σ H) (hp : H p = none) : Sim z S M ρ σ (upd H p o) ∧ Step S M H S M (upd H p o) :=
  ⟨h.grow (.refl _) (same_upd hp) (h.sub.trans (same_upd hp)) fun b e => .inl e, .grow (.refl _) (same_upd hp)⟩
/-- a new list of one's own -/
theorem Sim.fresh {p : Addr} {xs : List V} {ds : List D} (h : Sim z S M ρ σ H) (hp : H p = none) (hr : RpA z.K S xs ds) :
    Sim z S M ρ σ (upd H p (.lst xs)) ∧ Step S M H S M (upd H p (.lst xs)) ∧ ResE z S M ρ σ (upd H p (.lst xs)) (.ref p) (.ow (.lst ds)) := by
  obtain ⟨a, b⟩ := h.more (o := .lst xs) hp
  refine ⟨a, b, p, rfl, h.toCore.sNone hp, h.toCore.nw hp, ⟨xs, upd_same, hr⟩, fun q hq e => ?_, fun i o' e q => ?_⟩
  · obtain ⟨u, hu⟩ := (h.mu q hq).2.at
    rw [e, hp] at hu; cases hu
  · obtain ⟨a, h1, _, _, h4, _⟩ := h.ow i o' e
    rw [q] at h1; cases h1
    obtain ⟨u, hu⟩ := h4.at
    rw [hp] at hu; cases hu
/-- an object of one's own is known from now on -/
theorem Sim.adopt {a : Addr} {o : HO} (h : Sim z S M ρ σ H) (ha : H a = some o) (hs : S a = none) (h0 : z.Nw a) (hm : ∀ p ∈ M, p.1 ≠ a) (hn : ∀ (i : Nat) o', ρ[i]? = some (.ow o') → σ[i]? ≠ some (some (.ref a))) :
    Sim z (upd S a o) M ρ σ H := by
  have hS : Same S (upd S a o) := same_upd hs
  refine ⟨⟨h.step.trans ⟨hS, fun _ _ e _ => e, fun p hp => .inl ⟨p, hp, rfl⟩, fun _ e => e⟩, fun b u e => ?_, fun b e => ?_, fun p hp => ?_, h.mnd, fun b hb => ?_⟩, h.len, fun i d e => ?_, fun i o' e => ?_, h.sep⟩
  · by_cases hb : b = a
    · subst hb; rw [upd_same] at e; cases e; exact ha
    · rw [upd_ne hb] at e; exact h.sub b u e
  · by_cases hb : b = a
    · subst hb; exact .inr h0.1
    · rw [upd_ne hb] at e; exact h.frS b e
  · obtain ⟨q, w⟩ := h.mu p hp
    exact ⟨by rw [upd_ne (hm p hp)]; exact q, w.ext hS rfl⟩
  · obtain ⟨r1, r2, r3⟩ := h.rsv b hb
    exact ⟨by rw [upd_ne (fun e : b = a => h0.2 (by rw [← e]; exact hb))]; exact r1, r2, r3⟩
  · obtain ⟨v, q, w⟩ := h.va i d e
    exact ⟨v, q, Rp.ext hS _ _ w⟩
  · obtain ⟨b, h1, h2, h3, h4, h5⟩ := h.ow i o' e
    refine ⟨b, h1, ?_, h3, h4.ext hS rfl, h5⟩
    rw [upd_ne (fun z => hn i o' e (by rw [← z]; exact h1))]
    exact h2
theorem Sim.freeze (h : Sim z S M ρ σ H) (hr : ResE z S M ρ σ H v r) : ∃ S', Sim z S' M ρ σ H ∧ Step S M H S' M H ∧ Rp z.K S' v r.val := by
  cases r with
  | un => exact hr.elim
  | va d => exact ⟨S, h, .refl, (show Rp z.K S v d from hr)⟩
  | ow o =>
    cases o with
    | lst ds =>
      obtain ⟨a, rfl, h2, h3, ⟨xs, h4, h6⟩, h5, h7⟩ := hr
      have hS : Same S (upd S a (.lst xs)) := same_upd h2
      exact ⟨_, h.adopt h4 h2 h3 h5 h7, .grow hS (.refl _), .lst upd_same (RpA.ext hS _ _ h6)⟩
theorem set_get {α : Type} {l : List α} {i j : Nat} {x y : α} (h : (l.set i x)[j]? = some y) : (i = j ∧ x = y ∧ i < l.length) ∨ (i ≠ j ∧ l[j]? = some y) := by
  rw [List.getElem?_set] at h
  by_cases e : i = j
  · subst e
    rw [if_pos rfl] at h
    by_cases hl : i < l.length
    · rw [if_pos hl] at h
      exact .inl ⟨rfl, Option.some.inj h, hl⟩
    · rw [if_neg hl] at h
      cases h
  · rw [if_neg e] at h
    exact .inr ⟨e, h⟩
/-- a slot is forgotten -/
theorem Sim.drop {i : Nat} (h : Sim z S M ρ σ H) : Sim z S M (ρ.set i .un) σ H := by
  refine ⟨h.toCore, by rw [List.length_set]; exact h.len, fun j d q => ?_, fun j o' q => ?_, fun j k o1 o2 b q1 q2 => ?_⟩
  · rcases set_get q with ⟨_, e, _⟩ | ⟨_, e⟩
    · cases e
    · exact h.va j d e
  · rcases set_get q with ⟨_, e, _⟩ | ⟨_, e⟩
    · cases e
    · exact h.ow j o' e
  · rcases set_get q1 with ⟨_, e, _⟩ | ⟨_, e1⟩
    · cases e
    · rcases set_get q2 with ⟨_, e, _⟩ | ⟨_, e2⟩
      · cases e
      · exact h.sep j k o1 o2 b e1 e2
/-- a slot's list is handed on -/
theorem Sim.move {i : Nat} {o : Ow} (h : Sim z S M ρ σ H) (e : ρ[i]? = some (.ow o)) : ∃ v, σ[i]? = some (some v) ∧ ResE z S M (ρ.set i .un) σ H v (.ow o) := by
  obtain ⟨a, h1, h2, h3, h4, h5⟩ := h.ow i o e
  refine ⟨_, h1, a, rfl, h2, h3, h4, h5, fun j o' q w => ?_⟩
  rcases set_get q with ⟨_, e, _⟩ | ⟨ne, e2⟩
  · cases e
  · exact ne (h.sep i j o o' a e e2 h1 w)
/-- a slot's list is known from now on -/
theorem Sim.freezeSlot {i : Nat} {o : Ow} (h : Sim z S M ρ σ H) (e : ρ[i]? = some (.ow o)) : ∃ S', Sim z S' M (ρ.set i (.va o.toD)) σ H ∧ Step S M H S' M H ∧ ∃ v, σ[i]? = some (some v) ∧ Rp z.K S' v o.toD := by
  obtain ⟨v, h1, hm⟩ := h.move e
  have hi : i < ρ.length := (List.getElem?_eq_some_iff.mp e).1
  obtain ⟨S', s1, s2, s3⟩ := h.drop.freeze hm
  refine ⟨S', ?_, s2, _, h1, s3⟩
  refine ⟨s1.toCore, by rw [List.length_set]; exact h.len, fun j d q => ?_, fun j o' q => ?_, fun j k o1 o2 b q1 q2 => ?_⟩
  · rcases set_get q with ⟨e1, e2, _⟩ | ⟨ne, e2⟩
    · subst e1
      cases e2
      exact ⟨_, h1, s3⟩
    · exact s1.va j d (by rw [List.getElem?_set, if_neg ne]; exact e2)
  · rcases set_get q with ⟨e1, e2, _⟩ | ⟨ne, e2⟩
    · cases e2
    · exact s1.ow j o' (by rw [List.getElem?_set, if_neg ne]; exact e2)
  · rcases set_get q1 with ⟨_, e2, _⟩ | ⟨n1, e1⟩
    · cases e2
    · rcases set_get q2 with ⟨_, e2, _⟩ | ⟨n2, e2⟩
      · cases e2
      · exact s1.sep j k o1 o2 b (by rw [List.getElem?_set, if_neg n1]; exact e1) (by rw [List.getElem?_set, if_neg n2]; exact e2)
/-- a slot is stored -/
theorem Sim.put {i : Nat} (h : Sim z S M ρ σ H) (hr : ResE z S M ρ σ H v r) : Sim z S M (ρ.set i r) (σ.set i (some v)) H := by
  have at_ : ∀ {x : Sl}, i < ρ.length → (σ.set i (some v))[i]? = some (some v) := fun {x} hl => by
    rw [List.getElem?_set_self (by rw [h.len]; exact hl)]
  have ne_ : ∀ {j : Nat}, i ≠ j → (σ.set i (some v))[j]? = σ[j]? := fun {j} n => List.getElem?_set_ne n
  refine ⟨h.toCore, by rw [List.length_set, List.length_set]; exact h.len, fun j d q => ?_, fun j o' q => ?_, fun j k o1 o2 b q1 q2 w1 w2 => ?_⟩
  · rcases set_get q with ⟨e1, e2, hl⟩ | ⟨ne, e2⟩
    · subst e1 e2
      exact ⟨v, at_ (x := .un) hl, hr⟩
    · rw [ne_ ne]
      exact h.va j d e2
  · rcases set_get q with ⟨e1, e2, hl⟩ | ⟨ne, e2⟩
    · subst e1 e2
      obtain ⟨a, rfl, x1, x2, x3, x4, _⟩ := hr
      exact ⟨a, at_ (x := .un) hl, x1, x2, x3, x4⟩
    · rw [ne_ ne]
      exact h.ow j o' e2
  · rcases set_get q1 with ⟨e1, e2, hl⟩ | ⟨n1, e1⟩
    · subst e1 e2
      rcases set_get q2 with ⟨e1, e2, _⟩ | ⟨n2, e2⟩
      · exact e1
      · rw [at_ (x := .un) hl] at w1
        rw [ne_ n2] at w2
        cases w1
        obtain ⟨a, e, _, _, _, _, x⟩ := hr
        cases e
        exact absurd w2 (x k o2 e2)
    · rcases set_get q2 with ⟨e3, e2, hl⟩ | ⟨n2, e2⟩
      · subst e3 e2
        rw [at_ (x := .un) hl] at w2
        rw [ne_ n1] at w1
        cases w2
        obtain ⟨a, e, _, _, _, _, x⟩ := hr
        cases e
        exact absurd w1 (x j o1 e1)
      · rw [ne_ n1] at w1
        rw [ne_ n2] at w2
        exact h.sep j k o1 o2 b e1 e2 w1 w2
/-- a slot's own list is changed -/
theorem Sim.owSet {i : Nat} {a : Addr} {o : Ow} {ys : List V} {es : List D} (h : Sim z S M ρ σ H) (e : ρ[i]? = some (.ow o)) (ea : σ[i]? = some (some (.ref a))) (hr : RpA z.K S ys es) :
    Sim z S M (ρ.set i (.ow (.lst es))) σ (upd H a (.lst ys)) := by
  obtain ⟨b, h1, h2, h3, h4, h5⟩ := h.ow i o e
  rw [ea] at h1
  cases h1
  obtain ⟨u, hu⟩ := h4.at
  have hs : ∀ {c : Addr} {o : HO}, S c = some o → c ≠ a := fun {c o} q z => by rw [z, h2] at q; cases q
  refine ⟨⟨⟨h.step.same, fun c o q n => ?_, h.step.mnew, fun c q => ?_⟩, fun c o q => ?_, h.frS, fun p hp => ?_, h.mnd, fun c hc => ?_⟩, by rw [List.length_set]; exact h.len, fun j d q => ?_, fun j o' q => ?_, fun j k o1 o2 b q1 q2 => ?_⟩
  · have k := h.step.keep c o q n
    rw [upd_ne (fun w => by rw [w, h3.1] at q; cases q)]
    exact k
  · by_cases w : c = a
    · subst w; rw [upd_same]; simp
    · rw [upd_ne w]; exact h.step.dom c q
  · rw [upd_ne (hs q)]; exact h.sub c o q
  · obtain ⟨q, w⟩ := h.mu p hp
    exact ⟨q, w.ext (.refl _) (upd_ne (h5 p hp))⟩
  · obtain ⟨r1, r2, r3⟩ := h.rsv c hc
    exact ⟨r1, by rw [upd_ne (fun e : c = a => h3.2 (by rw [← e]; exact hc))]; exact r2, r3⟩
  · rcases set_get q with ⟨e1, e2, hl⟩ | ⟨ne, e2⟩
    · cases e2
    · exact h.va j d e2
  · rcases set_get q with ⟨e1, e2, hl⟩ | ⟨ne, e2⟩
    · subst e1
      cases e2
      exact ⟨a, ea, h2, h3, ⟨ys, upd_same, hr⟩, h5⟩
    · obtain ⟨b, k1, k2, k3, k4, k5⟩ := h.ow j o' e2
      refine ⟨b, k1, k2, k3, k4.ext (.refl _) (upd_ne fun w => ?_), k5⟩
      subst w
      exact ne (h.sep i j o o' b e e2 ea k1)
  · intro w1 w2
    rcases set_get q1 with ⟨e1, _, _⟩ | ⟨n1, e1⟩
    · subst e1
      rcases set_get q2 with ⟨e1, _, _⟩ | ⟨n2, e2⟩
      · exact e1
      · exact h.sep i k o o2 b e e2 w1 w2
    · rcases set_get q2 with ⟨e3, _, _⟩ | ⟨n2, e2⟩
      · subst e3
        exact h.sep j i o1 o b e1 e w1 w2
      · exact h.sep j k o1 o2 b e1 e2 w1 w2
end
end PL
namespace PL
open PySem PySem.Spec PyProof.Rows L2

/-! ### readings -/
abbrev QE := Ev → Mu → (Sl → Ev → Mu → Prop) → Prop
abbrev QB := Ev → Mu → (D → Ev → Mu → Prop) → Prop
abbrev QT := Ev → Mu → (Bool → Ev → Mu → Prop) → Prop
abbrev QA := Ev → Mu → (List D → Ev → Mu → Prop) → Prop
structure QK where
  nx : Ev → Mu → Prop
  rt : Sl → Mu → Prop
  bk : Ev → Mu → Prop := fun _ _ => False
  ct : Ev → Mu → Prop := fun _ _ => False
abbrev QS := QK → Ev → Mu → Prop
inductive RbA (K : Fg) (S : Hp) (M : Mu) (H : Hp) : List V → List D → Prop
  | nil : RbA K S M H [] []
  | cons {v : V} {vs : List V} {d : D} {ds : List D} : Rb K S M H v d → RbA K S M H vs ds → RbA K S M H (v :: vs) (d :: ds)
section
variable (z : Z)
def PoE (S : Hp) (M : Mu) (σ : St) (H : Hp) (Q0 : Sl → Ev → Mu → Prop) (v : V) (H' : Hp) : Prop :=
  ∃ r ρ' M' S', Q0 r ρ' M' ∧ Step S M H S' M' H' ∧ Sim z S' M' ρ' σ H' ∧ ResE z S' M' ρ' σ H' v r
def PoB (S : Hp) (M : Mu) (σ : St) (H : Hp) (Q0 : D → Ev → Mu → Prop) (v : V) (H' : Hp) : Prop :=
  ∃ d ρ' M' S', Q0 d ρ' M' ∧ Step S M H S' M' H' ∧ Sim z S' M' ρ' σ H' ∧ Rb z.K S' M' H' v d
def PoT (S : Hp) (M : Mu) (σ : St) (H : Hp) (Q0 : Bool → Ev → Mu → Prop) (b : Bool) (H' : Hp) : Prop :=
  ∃ ρ' M' S', Q0 b ρ' M' ∧ Step S M H S' M' H' ∧ Sim z S' M' ρ' σ H'
def PoA (S : Hp) (M : Mu) (σ : St) (H : Hp) (Q0 : List D → Ev → Mu → Prop) (vs : List V) (H' : Hp) : Prop :=
  ∃ ds ρ' M' S', Q0 ds ρ' M' ∧ Step S M H S' M' H' ∧ Sim z S' M' ρ' σ H' ∧ RpA z.K S' vs ds
def PoAB (S : Hp) (M : Mu) (σ : St) (H : Hp) (Q0 : List D → Ev → Mu → Prop) (vs : List V) (H' : Hp) : Prop :=
  ∃ ds ρ' M' S', Q0 ds ρ' M' ∧ Step S M H S' M' H' ∧ Sim z S' M' ρ' σ H' ∧ RbA z.K S' M' H' vs ds
def liE (q : QE) : TE := fun σ H Q => ∃ S M ρ Q0, Sim z S M ρ σ H ∧ q ρ M Q0 ∧ ∀ v H', PoE z S M σ H Q0 v H' → Q v H'
def liB (q : QB) : TE := fun σ H Q => ∃ S M ρ Q0, Sim z S M ρ σ H ∧ q ρ M Q0 ∧ ∀ v H', PoB z S M σ H Q0 v H' → Q v H'
def liT (q : QT) : TT := fun σ H Q => ∃ S M ρ Q0, Sim z S M ρ σ H ∧ q ρ M Q0 ∧ ∀ b H', PoT z S M σ H Q0 b H' → Q b H'
def liA (q : QA) : TA := fun σ H Q => ∃ S M ρ Q0, Sim z S M ρ σ H ∧ q ρ M Q0 ∧ ∀ vs H', PoA z S M σ H Q0 vs H' → Q vs H'
def liAB (q : QA) : TA := fun σ H Q => ∃ S M ρ Q0, Sim z S M ρ σ H ∧ q ρ M Q0 ∧ ∀ vs H', PoAB z S M σ H Q0 vs H' → Q vs H'
def liS (q : QS) : TS := fun D σ H => ∃ (S : Hp) (M : Mu) (ρ : Ev) (D0 : QK), Sim z S M ρ σ H ∧ q D0 ρ M ∧
  (∀ ρ' M' S' σ' H', D0.nx ρ' M' → Same S S' → Sim z S' M' ρ' σ' H' → D.nx σ' H') ∧
  (∀ ρ' M' S' σ' H', D0.bk ρ' M' → Same S S' → Sim z S' M' ρ' σ' H' → D.bk σ' H') ∧
  (∀ ρ' M' S' σ' H', D0.ct ρ' M' → Same S S' → Sim z S' M' ρ' σ' H' → D.ct σ' H') ∧
  (∀ r M' S' v H', D0.rt r M' → Core z S' M' H' → ResF z S' M' H' v r → D.rt v H')
end
theorem RbA.step {K : Fg} {S S' : Hp} {M M' : Mu} {H H' : Hp} (t : Step S M H S' M' H') : ∀ {vs : List V} {ds : List D}, RbA K S M H vs ds → RbA K S' M' H' vs ds
  | _, _, .nil => .nil
  | _, _, .cons a b => .cons (a.step t) (b.step t)

theorem pe_w {X : Cx} {e : Expr} {t t' : TE} (h : PE X e t) (w : ∀ σ H Q, t' σ H Q → t σ H Q) : PE X e t' := ⟨fun pins s σ H Q I hq => h.run pins s σ H Q I (w σ H Q hq)⟩
theorem pt_w {X : Cx} {e : Expr} {t t' : TT} (h : PT X e t) (w : ∀ σ H Q, t' σ H Q → t σ H Q) : PT X e t' := ⟨fun pins s σ H Q I hq => h.run pins s σ H Q I (w σ H Q hq)⟩
theorem pw_w {X : Cx} {e : Expr} {t t' : TT} (h : PW X e t) (w : ∀ σ H Q, t' σ H Q → t σ H Q) : PW X e t' := ⟨fun wh pins s σ H Q I hq => h.run wh pins s σ H Q I (w σ H Q hq)⟩
theorem pa_w {X : Cx} {e : List Expr} {t t' : TA} (h : PA X e t) (w : ∀ σ H Q, t' σ H Q → t σ H Q) : PA X e t' := ⟨fun p pins s σ H Q I hq => h.run p pins s σ H Q I (w σ H Q hq)⟩
theorem ps_w {X : Cx} {e : Stmt} {t t' : TS} (h : PS X e t) (w : ∀ D σ H, t' D σ H → t D σ H) : PS X e t' := ⟨fun pins s σ H D I hq => h.run pins s σ H D I (w D σ H hq)⟩
theorem pss_w {X : Cx} {e : List Stmt} {t t' : TS} (h : PSs X e t) (w : ∀ D σ H, t' D σ H → t D σ H) : PSs X e t' := ⟨fun pins s σ H D I hq => h.run pins s σ H D I (w D σ H hq)⟩

/-! ### names, constants -/
@[reducible] def eC (d : D) : QE := fun ρ M Q => Q (.va d) ρ M
@[reducible] def bC (d : D) : QB := fun ρ M Q => Q d ρ M
def eVar (i : Nat) : QE := fun ρ M Q => match ρ[i]? with
  | some (.va d) => Q (.va d) ρ M
  | some (.ow o) => Q (.va o.toD) (ρ.set i (.va o.toD)) M
  | _ => False
def bVar (i : Nat) : QB := fun ρ M Q => match ρ[i]? with
  | some (.va d) => Q d ρ M
  | some (.ow (.lst ds)) => Q (.lst ds) ρ M
  | _ => False
def eMov (i : Nat) : QE := fun ρ M Q => match ρ[i]? with
  | some (.va d) => Q (.va d) ρ M
  | some (.ow o) => Q (.ow o) (ρ.set i .un) M
  | _ => False
def bE (q : QE) : QB := fun ρ M Q => q ρ M fun r ρ' M' => Q r.val ρ' M'
section
variable {X : Cx} {z : Z} {e a b c : Expr} {pos : Pos}
theorem qe_con {v : V} {d : D} (h : PE X e (tC v)) (r : ∀ S, Rp z.K S v d) : PE X e (liE z (eC d)) :=
  pe_w h fun σ H Q ⟨S, M, ρ, Q0, sim, h, post⟩ => post v H ⟨.va d, ρ, M, S, h, .refl, sim, r S⟩
theorem qb_con {v : V} {d : D} (h : PE X e (tC v)) (r : ∀ S, Rp z.K S v d) : PE X e (liB z (bC d)) :=
  pe_w h fun σ H Q ⟨S, M, ρ, Q0, sim, h, post⟩ => post v H ⟨d, ρ, M, S, h, .refl, sim, .inl (r S)⟩
theorem qe_int {i : Int} {j} : PE X (.Constant (.int i) j pos) (liE z (eC (.int i))) := qe_con pe_int fun _ => .int i
theorem qe_bl {i : Bool} {j} : PE X (.Constant (.bool i) j pos) (liE z (eC (.bl i))) := qe_con pe_bl fun _ => .bl i
theorem qe_str {i : Str} {j} : PE X (.Constant (.str i) j pos) (liE z (eC (.str i))) := qe_con pe_str fun _ => .str i
theorem qe_non {j} : PE X (.Constant .none j pos) (liE z (eC .non)) := qe_con pe_non fun _ => .non
theorem qb_int {i : Int} {j} : PE X (.Constant (.int i) j pos) (liB z (bC (.int i))) := qb_con pe_int fun _ => .int i
theorem qb_bl {i : Bool} {j} : PE X (.Constant (.bool i) j pos) (liB z (bC (.bl i))) := qb_con pe_bl fun _ => .bl i
theorem qb_str {i : Str} {j} : PE X (.Constant (.str i) j pos) (liB z (bC (.str i))) := qb_con pe_str fun _ => .str i
theorem qb_non {j} : PE X (.Constant .none j pos) (liB z (bC .non)) := qb_con pe_non fun _ => .non
theorem qe_var {x : Str} (i : Nat) (hN : X.N[i]? = some x := by rfl) (hv : Vis X.env.scope x := by first | exact Or.inl rfl | exact Or.inr (Or.inl rfl) | exact Or.inr (Or.inr rfl)) (hd : (x == ("__debug__" : Str)) = false := by decide)
    (hcd : (x == ("__classdict__" : Str)) = false := by decide) : PE X (.Name x pos) (liE z (eVar i)) :=
  pe_w (pe_var hN hv hd hcd) fun σ H Q ⟨S, M, ρ, Q0, sim, h, post⟩ => by
    unfold eVar at h
    split at h
    · rename_i d e
      obtain ⟨v, h1, h2⟩ := sim.va i d e
      exact ⟨v, h1, post v H ⟨.va d, ρ, M, S, h, .refl, sim, h2⟩⟩
    · rename_i o e
      obtain ⟨S', s1, s2, v, h1, h2⟩ := sim.freezeSlot e
      exact ⟨v, h1, post v H ⟨_, _, M, S', h, s2, s1, h2⟩⟩
    · exact h.elim
theorem qb_var {x : Str} (i : Nat) (hN : X.N[i]? = some x := by rfl) (hv : Vis X.env.scope x := by first | exact Or.inl rfl | exact Or.inr (Or.inl rfl) | exact Or.inr (Or.inr rfl)) (hd : (x == ("__debug__" : Str)) = false := by decide)
    (hcd : (x == ("__classdict__" : Str)) = false := by decide) : PE X (.Name x pos) (liB z (bVar i)) :=
  pe_w (pe_var hN hv hd hcd) fun σ H Q ⟨S, M, ρ, Q0, sim, h, post⟩ => by
    unfold bVar at h
    split at h
    · rename_i d e
      obtain ⟨v, h1, h2⟩ := sim.va i d e
      exact ⟨v, h1, post v H ⟨d, ρ, M, S, h, .refl, sim, .inl h2⟩⟩
    · rename_i ds e
      obtain ⟨a, h1, h2, h3, ⟨xs, h4, h6⟩, h5⟩ := sim.ow i _ e
      exact ⟨_, h1, post _ H ⟨_, _, M, S, h, .refl, sim, .inr ⟨a, xs, ds, rfl, rfl, h4, h6, h5⟩⟩⟩
    · exact h.elim
theorem qe_mov {x : Str} (i : Nat) (hN : X.N[i]? = some x := by rfl) (hv : Vis X.env.scope x := by first | exact Or.inl rfl | exact Or.inr (Or.inl rfl) | exact Or.inr (Or.inr rfl)) (hd : (x == ("__debug__" : Str)) = false := by decide)
    (hcd : (x == ("__classdict__" : Str)) = false := by decide) : PE X (.Name x pos) (liE z (eMov i)) :=
  pe_w (pe_var hN hv hd hcd) fun σ H Q ⟨S, M, ρ, Q0, sim, h, post⟩ => by
    unfold eMov at h
    split at h
    · rename_i d e
      obtain ⟨v, h1, h2⟩ := sim.va i d e
      exact ⟨v, h1, post v H ⟨.va d, ρ, M, S, h, .refl, sim, h2⟩⟩
    · rename_i o e
      obtain ⟨v, h1, h2⟩ := sim.move e
      exact ⟨v, h1, post v H ⟨_, _, M, S, h, .refl, sim.drop, h2⟩⟩
    · exact h.elim
theorem qb_of {q : QE} (h : PE X e (liE z q)) : PE X e (liB z (bE q)) :=
  pe_w h fun σ H Q ⟨S, M, ρ, Q0, sim, h, post⟩ => ⟨S, M, ρ, _, sim, h, fun v H' ⟨r, ρ', M', S', q, st, sim', res⟩ => post v H' ⟨_, ρ', M', S', q, st, sim', res.rb⟩⟩

/-! ### operators -/
/-- what a two-place operator gives on data -/
abbrev OD := D → D → (Sl → Prop) → Prop
def OpB (X : Cx) (z : Z) (f : Value → Value → Sem Value) (od : OD) : Prop :=
  ∀ (pins : List (Addr × Obj)) (s : Shared) (σ : St) (H S : Hp) (M : Mu) (ρ : Ev) (x y : V) (u w : Value) (d1 d2 : D) (Q0 : Sl → Prop), Inv X pins σ H s → Sim z S M ρ σ H → Rb z.K S M H x d1 → Rb z.K S M H y d2 → RelV x u → RelV y w → od d1 d2 Q0 →
    wpAny (model X.prog X.w) X.A (f u w) (EP X pins σ (PoE z S M σ H fun r ρ' M' => ρ' = ρ ∧ M' = M ∧ Q0 r)) X.xe s
theorem opB_of {f : Value → Value → Sem Value} {r : R2} {od : OD} (h : OpR X f r)
    (k : ∀ (σ : St) (H S : Hp) (M : Mu) (ρ : Ev) (x y : V) (d1 d2 : D) (Q0 : Sl → Prop), Sim z S M ρ σ H → Rb z.K S M H x d1 → Rb z.K S M H y d2 → od d1 d2 Q0 → r x y H (PoE z S M σ H fun r ρ' M' => ρ' = ρ ∧ M' = M ∧ Q0 r)) : OpB X z f od :=
  fun pins s σ H S M ρ x y u w d1 d2 Q0 I sim b1 b2 r1 r2 q => h pins s σ H x y u w _ I r1 r2 (k σ H S M ρ x y d1 d2 Q0 sim b1 b2 q)
theorem poE_va {S : Hp} {M : Mu} {ρ : Ev} {σ : St} {H : Hp} {Q0 : Sl → Prop} {v : V} {d : D} (sim : Sim z S M ρ σ H) (r : Rp z.K S v d) (q : Q0 (.va d)) : PoE z S M σ H (fun r ρ' M' => ρ' = ρ ∧ M' = M ∧ Q0 r) v H :=
  ⟨.va d, ρ, M, S, ⟨rfl, rfl, q⟩, .refl, sim, r⟩
def eBin (od : OD) (qa qb : QB) : QE := fun ρ M Q => qa ρ M fun d1 ρ1 M1 => qb ρ1 M1 fun d2 ρ2 M2 => od d1 d2 fun r => Q r ρ2 M2
variable {qa qb qc : QB} {od : OD}
/-- two operands, then an operation -/
theorem bin_lift {σ : St} {H : Hp} {Q : VK} (h : liE z (eBin od qa qb) σ H Q) :
    liB z qa σ H fun x H1 => liB z qb σ H1 fun y H2 => ∃ S M ρ d1 d2 Q0, Sim z S M ρ σ H2 ∧ Rb z.K S M H2 x d1 ∧ Rb z.K S M H2 y d2 ∧ od d1 d2 Q0 ∧ ∀ v H', PoE z S M σ H2 (fun r ρ' M' => ρ' = ρ ∧ M' = M ∧ Q0 r) v H' → Q v H' := by
  obtain ⟨S, M, ρ, Q0, sim, h, post⟩ := h
  refine ⟨S, M, ρ, _, sim, h, fun x H1 ⟨d1, ρ1, M1, S1, q1, st1, sim1, b1⟩ => ⟨S1, M1, ρ1, _, sim1, q1, fun y H2 ⟨d2, ρ2, M2, S2, q2, st2, sim2, b2⟩ => ?_⟩⟩
  refine ⟨S2, M2, ρ2, d1, d2, _, sim2, b1.step st2, b2, q2, fun v H' ⟨r, ρ', M', S', ⟨e1, e2, q⟩, st, sim', res⟩ => post v H' ⟨r, ρ', M', S', ?_, (st1.trans st2).trans st, sim', res⟩⟩
  subst e1 e2
  exact q
theorem qe_bin {op : Operator} (ho : OpB X z (binaryOp op) od) (ha : PE X a (liB z qa)) (hb : PE X b (liB z qb)) : PE X (.BinOp a op b pos) (liE z (eBin od qa qb)) := by
  refine ⟨fun pins s σ H Q I h => ?_⟩
  refine wpAny_BinOp (binT ha hb I (bin_lift h) fun v u s2 x y H2 I2 rx ry ⟨S, M, ρ, d1, d2, Q0, sim, b1, b2, o, post⟩ => ?_)
  exact thn (ho pins s2 σ H2 S M ρ x y v u d1 d2 Q0 I2 sim b1 b2 rx ry o) fun w s3 ⟨y, H3, I3, r3, p3⟩ => ⟨y, H3, I3, r3, post _ _ p3⟩
theorem qe_cmp {op : CmpOp} (ho : OpB X z (compareOp op) od) (ha : PE X a (liB z qa)) (hb : PE X b (liB z qb)) (hm : behindInMarks op b = false) : PE X (.Compare a [op] [b] pos) (liE z (eBin od qa qb)) := by
  refine ⟨fun pins s σ H Q I h => ?_⟩
  refine wpAny_Compare1 (binT ha hb I (bin_lift h) fun v u s2 x y H2 I2 rx ry ⟨S, M, ρ, d1, d2, Q0, sim, b1, b2, o, post⟩ => ?_) hm
  exact thn (ho pins s2 σ H2 S M ρ x y v u d1 d2 Q0 I2 sim b1 b2 rx ry o) fun w s3 ⟨y, H3, I3, r3, p3⟩ => ⟨y, H3, I3, r3, post _ _ p3⟩
/-- a bool's test -/
def tE (q : QE) : QT := fun ρ M Q => q ρ M fun r ρ' M' => match r with
  | .va (.bl b) => Q b ρ' M'
  | _ => False
theorem tE_post {S : Hp} {M : Mu} {σ : St} {H H' : Hp} {v : V} {u : Value} {Q0 : Bool → Ev → Mu → Prop} (h : PoE z S M σ H (fun r ρ' M' => match r with | .va (.bl b) => Q0 b ρ' M' | _ => False) v H') (r : RelV v u) : ∃ b, u = .bool b ∧ PoT z S M σ H Q0 b H' := by
  obtain ⟨r', ρ', M', S', q, st, sim, res⟩ := h
  split at q
  · cases res
    cases r
    exact ⟨_, rfl, ρ', M', S', q, st, sim⟩
  · exact q.elim
theorem qt_val {q : QE} (h : PE X e (liE z q)) (he : ∀ whole, isTrue e X.env whole = (do let v ← whole; standAt e.pos; holding [v] (truthy v)) := by intro _; rfl) : PT X e (liT z (tE q)) := by
  refine ⟨fun pins s σ H Q I ⟨S, M, ρ, Q0, sim, h0, post⟩ => ?_⟩
  refine isTrue_plain (thn (h.run pins s σ H _ I ⟨S, M, ρ, _, sim, h0, fun v H' p => p⟩) fun u s1 ⟨x, H1, I1, r1, p⟩ => ?_) (he _)
  obtain ⟨b, rfl, w⟩ := tE_post p r1
  exact wpAny_truthy_bool ⟨H1, I1, post b H1 w⟩
theorem qt_cmp {op : CmpOp} (ho : OpB X z (compareOp op) od) (ha : PE X a (liB z qa)) (hb : PE X b (liB z qb)) (hm : behindInMarks op b = false) : PT X (.Compare a [op] [b] pos) (liT z (tE (eBin od qa qb))) := by
  refine ⟨fun pins s σ H Q I ⟨S, M, ρ, Q0, sim, h0, post⟩ => ?_⟩
  have h1 := bin_lift (Q := PoE z S M σ H (fun r ρ' M' => match r with | .va (.bl b) => Q0 b ρ' M' | _ => False)) ⟨S, M, ρ, _, sim, h0, fun v H' p => p⟩
  refine wpAny_isTrue_Compare1 (thn (ha.run pins s σ H _ I h1) fun v s1 ⟨x, H1, I1, r1, q1⟩ => thn (hb.run pins s1 σ H1 _ I1 q1) fun u s2 ⟨y, H2, I2, r2, ⟨S2, M2, ρ2, d1, d2, Q2, sim2, b1, b2, o, post2⟩⟩ =>
    thn (ho pins s2 σ H2 S2 M2 ρ2 x y v u d1 d2 Q2 I2 sim2 b1 b2 r1 r2 o) fun c s3 ⟨y, H3, I3, r3, p3⟩ => ?_) hm
  obtain ⟨b, rfl, w⟩ := tE_post (post2 _ _ p3) r3
  exact wpAny_truthy_bool ⟨H3, I3, post b H3 w⟩
/-- a op b op' c -/
def eChain (od od' : OD) (qa qb qc : QB) : QE := fun ρ M Q => qa ρ M fun d1 ρ1 M1 => qb ρ1 M1 fun d2 ρ2 M2 => od d1 d2 fun r => match r with
  | .va (.bl true) => qc ρ2 M2 fun d3 ρ3 M3 => od' d2 d3 fun r => Q r ρ3 M3
  | .va (.bl false) => Q (.va (.bl false)) ρ2 M2
  | _ => False
variable {od' : OD}
/-- what the last part of a chain is asked -/
def ChainLast (z : Z) (qc : QB) (od' : OD) (σ : St) (Q : VK) (y : V) (H2 : Hp) (c : Bool) : Prop :=
  if c = true then liB z qc σ H2 fun w H3 => ∃ S M ρ d2 d3 Q0, Sim z S M ρ σ H3 ∧ Rb z.K S M H3 y d2 ∧ Rb z.K S M H3 w d3 ∧ od' d2 d3 Q0 ∧ ∀ v H', PoE z S M σ H3 (fun r ρ' M' => ρ' = ρ ∧ M' = M ∧ Q0 r) v H' → Q v H'
  else Q (.bl false) H2
theorem chain_lift {σ : St} {H : Hp} {Q : VK} (h : liE z (eChain od od' qa qb qc) σ H Q) :
    liB z qa σ H fun x H1 => liB z qb σ H1 fun y H2 => ∃ S M ρ d1 d2 Q0, Sim z S M ρ σ H2 ∧ Rb z.K S M H2 x d1 ∧ Rb z.K S M H2 y d2 ∧ od d1 d2 Q0 ∧
      ∀ v H', PoE z S M σ H2 (fun r ρ' M' => ρ' = ρ ∧ M' = M ∧ Q0 r) v H' → ∃ c, v = .bl c ∧ ChainLast z qc od' σ Q y H' c := by
  obtain ⟨S, M, ρ, Q0, sim, h, post⟩ := h
  refine ⟨S, M, ρ, _, sim, h, fun x H1 ⟨d1, ρ1, M1, S1, q1, st1, sim1, b1⟩ => ⟨S1, M1, ρ1, _, sim1, q1, fun y H2 ⟨d2, ρ2, M2, S2, q2, st2, sim2, b2⟩ => ?_⟩⟩
  refine ⟨S2, M2, ρ2, d1, d2, _, sim2, b1.step st2, b2, q2, fun v H' ⟨r, ρ', M', S', ⟨e1, e2, q⟩, st, sim', res⟩ => ?_⟩
  subst e1 e2
  have st' := (st1.trans st2).trans st
  split at q
  · cases res
    refine ⟨true, rfl, ?_⟩
    unfold ChainLast
    rw [if_pos rfl]
    refine ⟨S', _, _, _, sim', q, fun w H3 ⟨d3, ρ3, M3, S3, q3, st3, sim3, b3⟩ => ⟨S3, M3, ρ3, d2, d3, _, sim3, (b2.step st).step st3, b3, q3, fun v H4 ⟨r, ρ4, M4, S4, ⟨e1, e2, q4⟩, st4, sim4, res4⟩ => post v H4 ⟨r, ρ4, M4, S4, ?_, (st'.trans st3).trans st4, sim4, res4⟩⟩⟩
    subst e1 e2
    exact q4
  · cases res
    refine ⟨false, rfl, ?_⟩
    unfold ChainLast
    rw [if_neg Bool.false_ne_true]
    exact post _ H' ⟨_, _, _, S', q, st', sim', .bl false⟩
  · exact q.elim
theorem qe_chain {op op' : CmpOp} (ho : OpB X z (compareOp op) od) (ho' : OpB X z (compareOp op') od') (ha : PE X a (liB z qa)) (hb : PE X b (liB z qb)) (hc : PE X c (liB z qc))
    (hm : lastMarks [op, op'] [b, c] = false := by with_unfolding_all rfl) : PE X (.Compare a [op, op'] [b, c] pos) (liE z (eChain od od' qa qb qc)) := by
  refine ⟨fun pins s σ H Q I h => ?_⟩
  refine Compare_chain (thn (ha.run pins s σ H _ I (chain_lift h)) fun v s1 ⟨x, H1, I1, r1, q1⟩ => chain_link (thn (hb.run pins s1 σ H1 _ I1 q1) fun u s2 ⟨y, H2, I2, r2, ⟨S2, M2, ρ2, d1, d2, Q2, sim2, b1, b2, o, post2⟩⟩ =>
    thn (ho pins s2 σ H2 S2 M2 ρ2 x y v u d1 d2 Q2 I2 sim2 b1 b2 r1 r2 o) fun d s3 ⟨zz, H3, I3, r3, p3⟩ => ?_)) hm
  obtain ⟨k, rfl, w⟩ := post2 _ _ p3
  cases r3
  refine wpAny_truthy_bool ?_
  cases k with
  | false => exact ite_ff ⟨.bl false, H3, I3, rfl, w⟩
  | true =>
    refine ite_tt (chain_last (thn (hc.run pins s3 σ H3 _ I3 w) fun w' s4 ⟨z', H4, I4, r4, ⟨S4, M4, ρ4, d2', d3, Q4, sim4, b3, b4, o4, post4⟩⟩ => ?_))
    exact thn (ho' pins s4 σ H4 S4 M4 ρ4 y z' u w' d2' d3 Q4 I4 sim4 b3 b4 r2 r4 o4) fun w s5 ⟨y, H5, I5, r5, p5⟩ => ⟨y, H5, I5, r5, post4 _ _ p5⟩
theorem qt_chain {op op' : CmpOp} (ho : OpB X z (compareOp op) od) (ho' : OpB X z (compareOp op') od') (ha : PE X a (liB z qa)) (hb : PE X b (liB z qb)) (hc : PE X c (liB z qc))
    (hm : lastMarks [op, op'] [b, c] = false := by with_unfolding_all rfl) : PT X (.Compare a [op, op'] [b, c] pos) (liT z (tE (eChain od od' qa qb qc))) := by
  refine ⟨fun pins s σ H Q I ⟨S, M, ρ, Q0, sim, h0, post⟩ => ?_⟩
  have h := chain_lift (Q := PoE z S M σ H (fun r ρ' M' => match r with | .va (.bl b) => Q0 b ρ' M' | _ => False)) ⟨S, M, ρ, _, sim, h0, fun v H' p => p⟩
  refine isTrue_chain (thn (ha.run pins s σ H _ I h) fun v s1 ⟨x, H1, I1, r1, q1⟩ => test_link (thn (hb.run pins s1 σ H1 _ I1 q1) fun u s2 ⟨y, H2, I2, r2, ⟨S2, M2, ρ2, d1, d2, Q2, sim2, b1, b2, o, post2⟩⟩ =>
    thn (ho pins s2 σ H2 S2 M2 ρ2 x y v u d1 d2 Q2 I2 sim2 b1 b2 r1 r2 o) fun d s3 ⟨zz, H3, I3, r3, p3⟩ => ?_)) hm
  obtain ⟨k, rfl, w⟩ := post2 _ _ p3
  cases r3
  refine wpAny_truthy_bool ?_
  cases k with
  | false =>
    obtain ⟨b, e, w2⟩ := tE_post (u := .bool false) w rfl
    cases e
    exact ite_ff ⟨H3, I3, post _ _ w2⟩
  | true =>
    refine ite_tt (test_last (thn (hc.run pins s3 σ H3 _ I3 w) fun w' s4 ⟨z', H4, I4, r4, ⟨S4, M4, ρ4, d2', d3, Q4, sim4, b3, b4, o4, post4⟩⟩ => ?_))
    refine thn (ho' pins s4 σ H4 S4 M4 ρ4 y z' u w' d2' d3 Q4 I4 sim4 b3 b4 r2 r4 o4) fun w s5 ⟨y, H5, I5, r5, p5⟩ => ?_
    obtain ⟨b, rfl, w2⟩ := tE_post (post4 _ _ p5) r5
    exact wpAny_truthy_bool ⟨H5, I5, post _ _ w2⟩

/-! ### one operand -/
abbrev UD := D → (Sl → Prop) → Prop
def UnB (X : Cx) (z : Z) (f : Value → Sem Value) (ud : UD) : Prop :=
  ∀ (pins : List (Addr × Obj)) (s : Shared) (σ : St) (H S : Hp) (M : Mu) (ρ : Ev) (x : V) (u : Value) (d : D) (Q0 : Sl → Prop), Inv X pins σ H s → Sim z S M ρ σ H → Rb z.K S M H x d → RelV x u → ud d Q0 →
    wpAny (model X.prog X.w) X.A (f u) (EP X pins σ (PoE z S M σ H fun r ρ' M' => ρ' = ρ ∧ M' = M ∧ Q0 r)) X.xe s
def eUn (ud : UD) (qa : QB) : QE := fun ρ M Q => qa ρ M fun d ρ1 M1 => ud d fun r => Q r ρ1 M1
variable {ud : UD}
theorem un_lift {σ : St} {H : Hp} {Q : VK} (h : liE z (eUn ud qa) σ H Q) :
    liB z qa σ H fun x H1 => ∃ S M ρ d Q0, Sim z S M ρ σ H1 ∧ Rb z.K S M H1 x d ∧ ud d Q0 ∧ ∀ v H', PoE z S M σ H1 (fun r ρ' M' => ρ' = ρ ∧ M' = M ∧ Q0 r) v H' → Q v H' := by
  obtain ⟨S, M, ρ, Q0, sim, h, post⟩ := h
  refine ⟨S, M, ρ, _, sim, h, fun x H1 ⟨d1, ρ1, M1, S1, q1, st1, sim1, b1⟩ => ⟨S1, M1, ρ1, d1, _, sim1, b1, q1, fun v H' ⟨r, ρ', M', S', ⟨e1, e2, q⟩, st, sim', res⟩ => post v H' ⟨r, ρ', M', S', ?_, st1.trans st, sim', res⟩⟩⟩
  subst e1 e2
  exact q
theorem qe_un {op : UnaryOp} (ho : UnB X z (unaryOp op) ud) (ha : PE X a (liB z qa)) : PE X (.UnaryOp op a pos) (liE z (eUn ud qa)) := by
  refine ⟨fun pins s σ H Q I h => ?_⟩
  refine UnaryOp_ (thn (ha.run pins s σ H _ I (un_lift h)) fun v s1 ⟨x, H1, I1, r1, ⟨S, M, ρ, d, Q0, sim, b, u, post⟩⟩ => ?_)
  exact thn (ho pins s1 σ H1 S M ρ x v d Q0 I1 sim b r1 u) fun w s3 ⟨y, H3, I3, r3, p3⟩ => ⟨y, H3, I3, r3, post _ _ p3⟩

/-! ### tests -/
def qAnd (t u : QT) : QT := fun ρ M Q => t ρ M fun c ρ1 M1 => if c = true then u ρ1 M1 Q else Q false ρ1 M1
def qOr (t u : QT) : QT := fun ρ M Q => t ρ M fun c ρ1 M1 => if c = true then Q true ρ1 M1 else u ρ1 M1 Q
def qNot (t : QT) : QT := fun ρ M Q => t ρ M fun c ρ1 M1 => Q (!c) ρ1 M1
variable {tA tB : QT} {rest : List Expr}
theorem liT_and {σ : St} {H : Hp} {Q} (h : liT z (qAnd tA tB) σ H Q) : tAnd (liT z tA) (liT z tB) σ H Q := by
  obtain ⟨S, M, ρ, Q0, sim, h, post⟩ := h
  refine ⟨S, M, ρ, _, sim, h, fun c H1 ⟨ρ1, M1, S1, q1, st1, sim1⟩ => ?_⟩
  cases c with
  | true => exact iteT ⟨S1, M1, ρ1, _, sim1, (by simpa using q1), fun b H2 ⟨ρ2, M2, S2, q2, st2, sim2⟩ => post b H2 ⟨ρ2, M2, S2, q2, st1.trans st2, sim2⟩⟩
  | false => exact iteF (post false H1 ⟨ρ1, M1, S1, (by simpa using q1), st1, sim1⟩)
theorem liT_or {σ : St} {H : Hp} {Q} (h : liT z (qOr tA tB) σ H Q) : tOr (liT z tA) (liT z tB) σ H Q := by
  obtain ⟨S, M, ρ, Q0, sim, h, post⟩ := h
  refine ⟨S, M, ρ, _, sim, h, fun c H1 ⟨ρ1, M1, S1, q1, st1, sim1⟩ => ?_⟩
  cases c with
  | false => exact iteF ⟨S1, M1, ρ1, _, sim1, (by simpa using q1), fun b H2 ⟨ρ2, M2, S2, q2, st2, sim2⟩ => post b H2 ⟨ρ2, M2, S2, q2, st1.trans st2, sim2⟩⟩
  | true => exact iteT (post true H1 ⟨ρ1, M1, S1, (by simpa using q1), st1, sim1⟩)
theorem qw_and1 (ha : PT X a (liT z tA)) : PW X (.BoolOp .And [a] pos) (liT z tA) := pw_and1 ha
theorem qw_or1 (ha : PT X a (liT z tA)) : PW X (.BoolOp .Or [a] pos) (liT z tA) := pw_or1 ha
theorem qw_and (ha : PT X a (liT z tA)) (hb : PW X (.BoolOp .And (b :: rest) pos) (liT z tB)) : PW X (.BoolOp .And (a :: b :: rest) pos) (liT z (qAnd tA tB)) := pw_w (pw_and ha hb) fun _ _ _ h => liT_and h
theorem qw_or (ha : PT X a (liT z tA)) (hb : PW X (.BoolOp .Or (b :: rest) pos) (liT z tB)) : PW X (.BoolOp .Or (a :: b :: rest) pos) (liT z (qOr tA tB)) := pw_w (pw_or ha hb) fun _ _ _ h => liT_or h
theorem qt_not (ha : PT X a (liT z tA)) : PT X (.UnaryOp .Not a pos) (liT z (qNot tA)) := pt_w (pt_not ha) fun σ H Q ⟨S, M, ρ, Q0, sim, h, post⟩ =>
  ⟨S, M, ρ, _, sim, h, fun c H1 ⟨ρ1, M1, S1, q1, st1, sim1⟩ => post (!c) H1 ⟨ρ1, M1, S1, q1, st1, sim1⟩⟩
/-- as values -/
def eAnd (qa qb : QE) : QE := fun ρ M Q => qa ρ M fun r ρ1 M1 => match r with
  | .va (.bl true) => qb ρ1 M1 Q
  | .va (.bl false) => Q (.va (.bl false)) ρ1 M1
  | _ => False
def eOr (qa qb : QE) : QE := fun ρ M Q => qa ρ M fun r ρ1 M1 => match r with
  | .va (.bl false) => qb ρ1 M1 Q
  | .va (.bl true) => Q (.va (.bl true)) ρ1 M1
  | _ => False
def eNot (qa : QE) : QE := fun ρ M Q => qa ρ M fun r ρ1 M1 => match r with
  | .va (.bl b) => Q (.va (.bl !b)) ρ1 M1
  | _ => False
def eIf (t : QT) (qa qb : QE) : QE := fun ρ M Q => t ρ M fun c ρ1 M1 => if c = true then qa ρ1 M1 Q else qb ρ1 M1 Q
variable {ea eb : QE}
theorem qe_one {op} (h : PE X a (liE z ea)) : PE X (.BoolOp op [a] pos) (liE z ea) := pe_one h
theorem qe_and (ha : PE X a (liE z ea)) (hb : PE X (.BoolOp .And (b :: rest) pos) (liE z eb)) : PE X (.BoolOp .And (a :: b :: rest) pos) (liE z (eAnd ea eb)) :=
  pe_w (pe_and ha hb) fun σ H Q ⟨S, M, ρ, Q0, sim, h, post⟩ => ⟨S, M, ρ, _, sim, h, fun v H1 ⟨r, ρ1, M1, S1, q1, st1, sim1, res1⟩ => by
    dsimp only at q1
    split at q1
    · cases res1
      exact ⟨true, rfl, iteT ⟨S1, M1, ρ1, _, sim1, q1, fun v H2 ⟨r, ρ2, M2, S2, q2, st2, sim2, res2⟩ => post v H2 ⟨r, ρ2, M2, S2, q2, st1.trans st2, sim2, res2⟩⟩⟩
    · cases res1
      exact ⟨false, rfl, iteF (post _ H1 ⟨_, ρ1, M1, S1, q1, st1, sim1, .bl false⟩)⟩
    · exact q1.elim⟩
theorem qe_not (ha : PE X a (liE z ea)) : PE X (.UnaryOp .Not a pos) (liE z (eNot ea)) :=
  pe_w (pe_not ha) fun σ H Q ⟨S, M, ρ, Q0, sim, h, post⟩ => ⟨S, M, ρ, _, sim, h, fun v H1 ⟨r, ρ1, M1, S1, q1, st1, sim1, res1⟩ => by
    dsimp only at q1
    split at q1
    · cases res1
      exact ⟨_, rfl, post _ H1 ⟨_, ρ1, M1, S1, q1, st1, sim1, .bl _⟩⟩
    · exact q1.elim⟩
theorem qe_ifExp (hc : PT X c (liT z tA)) (ha : PE X a (liE z ea)) (hb : PE X b (liE z eb)) : PE X (.IfExp c a b pos) (liE z (eIf tA ea eb)) :=
  pe_w (pe_ifExp hc ha hb) fun σ H Q ⟨S, M, ρ, Q0, sim, h, post⟩ => ⟨S, M, ρ, _, sim, h, fun k H1 ⟨ρ1, M1, S1, q1, st1, sim1⟩ => by
    cases k with
    | true => exact iteT ⟨S1, M1, ρ1, _, sim1, (by simpa using q1), fun v H2 ⟨r, ρ2, M2, S2, q2, st2, sim2, res2⟩ => post v H2 ⟨r, ρ2, M2, S2, q2, st1.trans st2, sim2, res2⟩⟩
    | false => exact iteF ⟨S1, M1, ρ1, _, sim1, (by simpa using q1), fun v H2 ⟨r, ρ2, M2, S2, q2, st2, sim2, res2⟩ => post v H2 ⟨r, ρ2, M2, S2, q2, st1.trans st2, sim2, res2⟩⟩⟩

/-! ### arguments, displays -/
def aNil : QA := fun ρ M Q => Q [] ρ M
def aCons (q : QE) (r : QA) : QA := fun ρ M Q => q ρ M fun x ρ1 M1 => r ρ1 M1 fun xs ρ2 M2 => Q (x.val :: xs) ρ2 M2
def aConsB (q : QB) (r : QA) : QA := fun ρ M Q => q ρ M fun x ρ1 M1 => r ρ1 M1 fun xs ρ2 M2 => Q (x :: xs) ρ2 M2
variable {es : List Expr} {qr : QA}
theorem qa_nil : PA X [] (liA z aNil) := pa_w pa_nil fun σ H Q ⟨S, M, ρ, Q0, sim, h, post⟩ => post [] H ⟨[], ρ, M, S, h, .refl, sim, .nil⟩
theorem qa_cons (ha : PE X e (liE z ea)) (hr : PA X es (liA z qr)) (hs : starEach (e :: es) X.env = (false, eval e X.env) :: starEach es X.env := by rfl) : PA X (e :: es) (liA z (aCons ea qr)) :=
  pa_w (pa_cons ha hr hs) fun σ H Q ⟨S, M, ρ, Q0, sim, h, post⟩ => ⟨S, M, ρ, _, sim, h, fun v H1 ⟨r, ρ1, M1, S1, q1, st1, sim1, res1⟩ => by
    obtain ⟨S2, sim2, st2, rp⟩ := sim1.freeze res1
    exact ⟨S2, M1, ρ1, _, sim2, q1, fun vs H3 ⟨ds, ρ3, M3, S3, q3, st3, sim3, rp3⟩ => post _ H3 ⟨_, ρ3, M3, S3, q3, (st1.trans st2).trans st3, sim3, .cons (Rp.ext st3.same _ _ rp) rp3⟩⟩⟩
theorem qab_nil : PA X [] (liAB z aNil) := pa_w pa_nil fun σ H Q ⟨S, M, ρ, Q0, sim, h, post⟩ => post [] H ⟨[], ρ, M, S, h, .refl, sim, .nil⟩
theorem qab_cons (ha : PE X e (liB z qa)) (hr : PA X es (liAB z qr)) (hs : starEach (e :: es) X.env = (false, eval e X.env) :: starEach es X.env := by rfl) : PA X (e :: es) (liAB z (aConsB qa qr)) :=
  pa_w (pa_cons ha hr hs) fun σ H Q ⟨S, M, ρ, Q0, sim, h, post⟩ => ⟨S, M, ρ, _, sim, h, fun v H1 ⟨r, ρ1, M1, S1, q1, st1, sim1, rb⟩ =>
    ⟨S1, M1, ρ1, _, sim1, q1, fun vs H3 ⟨ds, ρ3, M3, S3, q3, st3, sim3, rp3⟩ => post _ H3 ⟨_, ρ3, M3, S3, q3, st1.trans st3, sim3, .cons (rb.step st3) rp3⟩⟩⟩
def eTup (q : QA) : QE := fun ρ M Q => q ρ M fun ds ρ' M' => ds.length ≤ 16777216 ∧ Q (.va (.tup ds)) ρ' M'
def eLst (q : QA) : QE := fun ρ M Q => q ρ M fun ds ρ' M' => ds.length ≤ 16777216 ∧ Q (.ow (.lst ds)) ρ' M'
theorem line_eq {n : Nat} (h : n ≤ 16777216) : n ≤ sizeLine := by rw [sizeLine_eq]; exact h
theorem qe_tup {k} (h : PA X es (liA z qr)) : PE X (.Tuple es k pos) (liE z (eTup qr)) :=
  pe_w (pe_tup h) fun σ H Q ⟨S, M, ρ, Q0, sim, h, post⟩ => ⟨S, M, ρ, _, sim, h, fun vs H1 ⟨ds, ρ1, M1, S1, ⟨hl, q1⟩, st1, sim1, rp⟩ =>
    ⟨by rw [rp.length]; exact line_eq hl, fun p hp => by
      obtain ⟨sim2, st2⟩ := sim1.alloc (o := .tup vs) hp
      exact post _ _ ⟨_, ρ1, M1, _, q1, st1.trans st2, sim2, Rp.tup (.of upd_same) (RpA.ext st2.same _ _ rp)⟩⟩⟩
theorem qe_lst (h : PA X es (liA z qr)) : PE X (.List es pos) (liE z (eLst qr)) :=
  pe_w (pe_lst h) fun σ H Q ⟨S, M, ρ, Q0, sim, h, post⟩ => ⟨S, M, ρ, _, sim, h, fun vs H1 ⟨ds, ρ1, M1, S1, ⟨hl, q1⟩, st1, sim1, rp⟩ =>
    ⟨by rw [rp.length]; exact line_eq hl, fun p hp => by
      obtain ⟨sim2, st2, res⟩ := sim1.fresh hp rp
      exact post _ _ ⟨_, ρ1, M1, _, q1, st1.trans st2, sim2, res⟩⟩⟩
end
end PL
namespace PL
open PySem PySem.Spec PyProof.Rows L2

/-! ### statements -/
section
variable {X : Cx} {z : Z} {st : Stmt} {rest sts body : List Stmt} {t u : QS} {e c : Expr} {pos : Pos} {q : QE} {qt : QT}
def sNext : QS := fun D ρ M => D.nx ρ M
def sSeq (t u : QS) : QS := fun D ρ M => t { D with nx := u D } ρ M
def sBreak : QS := fun D ρ M => D.bk ρ M
def sCont : QS := fun D ρ M => D.ct ρ M
def sDrop (q : QE) : QS := fun D ρ M => q ρ M fun _ ρ' M' => D.nx ρ' M'
def sRet (q : QE) : QS := fun D ρ M => q ρ M fun r _ M' => D.rt r M'
def sRetN : QS := fun D _ M => D.rt (.va .non) M
def sIf (c : QT) (t u : QS) : QS := fun D ρ M => c ρ M fun b ρ1 M1 => if b = true then t D ρ1 M1 else u D ρ1 M1
def sAsg (i : Nat) (q : QE) : QS := fun D ρ M => q ρ M fun r ρ' M' => D.nx (ρ'.set i r) M'
theorem qs_nil : PSs X [] (liS z sNext) := pss_w pss_nil fun D σ H ⟨S, M, ρ, D0, sim, h, nx, _⟩ => nx ρ M S σ H h (.refl _) sim
theorem liS_seq {D : Ends} {σ : St} {H : Hp} (h : liS z (sSeq t u) D σ H) : tSeq (liS z t) (liS z u) D σ H := by
  obtain ⟨S, M, ρ, D0, sim, h, nx, bk, ct, rt⟩ := h
  exact ⟨S, M, ρ, { D0 with nx := u D0 }, sim, h, fun ρ' M' S' σ' H' q e sim' => ⟨S', M', ρ', D0, sim', q, fun ρ2 M2 S2 σ2 H2 q2 e2 s2 => nx ρ2 M2 S2 σ2 H2 q2 (e.trans e2) s2,
    fun ρ2 M2 S2 σ2 H2 q2 e2 s2 => bk ρ2 M2 S2 σ2 H2 q2 (e.trans e2) s2, fun ρ2 M2 S2 σ2 H2 q2 e2 s2 => ct ρ2 M2 S2 σ2 H2 q2 (e.trans e2) s2, rt⟩, bk, ct, rt⟩
theorem qs_cons (h1 : PS X st (liS z t)) (h2 : PSs X rest (liS z u)) : PSs X (st :: rest) (liS z (sSeq t u)) := pss_w (pss_cons h1 h2) fun _ _ _ h => liS_seq h
theorem qs_end (h1 : PS X st (liS z t)) : PSs X [st] (liS z t) := pss_one h1
theorem qs_ret (he : PE X e (liE z q)) : PS X (.Return (some e) pos) (liS z (sRet q)) :=
  ps_w (ps_ret he) fun D σ H ⟨S, M, ρ, D0, sim, h, _, _, _, rt⟩ => ⟨S, M, ρ, _, sim, h, fun v H' ⟨r, ρ', M', S', q, st, sim', res⟩ => rt r M' S' v H' q sim'.toCore res.f⟩
theorem qs_if {a b : List Stmt} (hc : PT X c (liT z qt)) (ha : PSs X a (liS z t)) (hb : PSs X b (liS z u)) : PS X (.If c a b pos) (liS z (sIf qt t u)) :=
  ps_w (ps_if hc ha hb) fun D σ H ⟨S, M, ρ, D0, sim, h, nx, bk, ct, rt⟩ => ⟨S, M, ρ, _, sim, h, fun k H' ⟨ρ', M', S', q, st, sim'⟩ => by
    have go : ∀ w : QS, w D0 ρ' M' → liS z w D σ H' := fun w hw => ⟨S', M', ρ', D0, sim', hw, fun ρ2 M2 S2 σ2 H2 q2 e2 s2 => nx ρ2 M2 S2 σ2 H2 q2 (st.same.trans e2) s2,
      fun ρ2 M2 S2 σ2 H2 q2 e2 s2 => bk ρ2 M2 S2 σ2 H2 q2 (st.same.trans e2) s2, fun ρ2 M2 S2 σ2 H2 q2 e2 s2 => ct ρ2 M2 S2 σ2 H2 q2 (st.same.trans e2) s2, rt⟩
    cases k with
    | true => exact iteT (go t (by simpa using q))
    | false => exact iteF (go u (by simpa using q))⟩
theorem asg_lift {i : Nat} {D : Ends} {σ : St} {H : Hp} (h : liS z (sAsg i q) D σ H) : tAsg (liE z q) (gName i) D σ H := by
  obtain ⟨S, M, ρ, D0, sim, h, nx, _⟩ := h
  exact ⟨S, M, ρ, _, sim, h, fun v H' ⟨r, ρ', M', S', q, st, sim', res⟩ => nx _ M' S' _ H' q st.same (sim'.put res)⟩
theorem qs_set {i : Nat} {x : Str} {pos' : Pos} (hN : X.N.Nodup) (hi : X.N[i]? = some x) (hx : Loc X.env.scope x) (he : PE X e (liE z q)) (hs : swapsWith e (some (.Name x pos')) pos.line X.env = pure false := by rfl)
    (hf : X.fn x = true ∨ X.env.scope.names.lookup x = some .local := by first | exact .inl rfl | exact .inr rfl | assumption) : PS X (.Assign [.Name x pos'] e pos) (liS z (sAsg i q)) :=
  ps_w (ps_set hN hi hx he hs hf) fun _ _ _ h => asg_lift h
def sPar (i j : Nat) (qr : QA) : QS := fun D ρ M => qr ρ M fun ds ρ' M' => match ds with
  | [a, b] => D.nx ((ρ'.set i (.va a)).set j (.va b)) M'
  | _ => False
theorem qs_par {i j : Nat} {x y : Str} {a b : Expr} {qr : QA} {px py pt : Pos} {kt k2 pt2} (hc : X.calm = true) (hN : X.N.Nodup) (hi : X.N[i]? = some x) (hj : X.N[j]? = some y) (hij : i ≠ j)
    (hx : X.env.scope.names.lookup x = some .local) (hy : X.env.scope.names.lookup y = some .local) (ha : PA X [a, b] (liA z qr))
    (hw : swappedStores [.Tuple [.Name x px, .Name y py] kt pt] (.Tuple [a, b] k2 pt2) X.env = pure (some [x, y]))
    (hs : swapsWithSole [.Tuple [.Name x px, .Name y py] kt pt] (.Tuple [a, b] k2 pt2) pos.line X.env = pure false := by rfl) :
    PS X (.Assign [.Tuple [.Name x px, .Name y py] kt pt] (.Tuple [a, b] k2 pt2) pos) (liS z (sPar i j qr)) :=
  ps_w (ps_par hc hN hi hj hij hx hy ha hw hs) fun D σ H ⟨S, M, ρ, D0, sim, h, nx, _⟩ => ⟨S, M, ρ, _, sim, h, fun vs H' ⟨ds, ρ', M', S', q, st, sim', rp⟩ => by
    dsimp only at q
    split at q
    · cases rp with
      | cons r1 rr =>
        cases rr with
        | cons r2 rr =>
          cases rr
          exact ⟨_, _, rfl, nx _ M' S' _ H' q st.same ((sim'.put (r := .va _) r1).put (r := .va _) r2)⟩
    · exact q.elim⟩
/-- name op= e -/
def sAug (i : Nat) (od : OD) (qb : QB) : QS := fun D ρ M => match ρ[i]? with
  | some (.va d) => qb ρ M fun d2 ρ' M' => od d d2 fun r => D.nx (ρ'.set i r) M'
  | _ => False
theorem qs_aug {i : Nat} {x : Str} {op : Operator} {od : OD} {qb : QB} {pos' : Pos} (hN : X.N.Nodup) (hi : X.N[i]? = some x) (hx : Loc X.env.scope x) (he : PE X e (liB z qb)) (ho : OpB X z (inplaceOp op) od)
    (hf : X.fn x = true ∨ X.env.scope.names.lookup x = some .local := by first | exact .inl rfl | exact .inr rfl | assumption) : PS X (.AugAssign (.Name x pos') op e pos) (liS z (sAug i od qb)) := by
  refine ⟨fun pins s σ H D I ⟨S, M, ρ, D0, sim, h, nx, _⟩ => ?_⟩
  unfold sAug at h
  split at h
  · rename_i d e1
    obtain ⟨v, e2, rv⟩ := sim.va i d e1
    obtain ⟨m, hn, hl⟩ := I.loc
    have vis : Vis X.env.scope x := by rcases hx with k | k; exact .inl k; exact .inr (.inl k)
    obtain ⟨u, r, l⟩ := hl i x v hi e2 vis
    refine wpAny_AugAssign_Name ?_
    have go : wpAny (model X.prog X.w) X.A (eval e X.env) (fun w s₂ => wpAny (model X.prog X.w) X.A (inplaceOp op u w) (fun r s₃ => wpAny (model X.prog X.w) X.A (storeName X.env x r) (fun _ => SP X pins D .next) X.xe s₃) X.xe s₂) X.xe s := by
      refine thn (he.run pins s σ H _ I ⟨S, M, ρ, _, sim, h, fun _ _ p => p⟩) fun w s1 ⟨y, H1, I1, r1, ⟨d2, ρ1, M1, S1, q1, st1, sim1, b1⟩⟩ => ?_
      refine thn (ho pins s1 σ H1 S1 M1 ρ1 v y u w d d2 _ I1 sim1 (.inl (Rp.ext st1.same _ _ rv)) b1 r r1 q1) fun zz s2 ⟨zv, H2, I2, r2, ⟨r3, ρ3, M3, S3, ⟨e3, e4, q3⟩, st3, sim3, res3⟩⟩ => ?_
      subst e3 e4
      exact store_ok I2 hN hi hx r2 (fun s3 I3 => ⟨_, H2, I3, nx _ _ S3 _ H2 q3 (st1.same.trans st3.same) (sim3.put res3)⟩) hf
    rcases l with ⟨hk, hm⟩ | ⟨hk, c, hc, hcell⟩
    · exact wpAny_loadName_local I.ok.kind hk hn hm go
    · rcases hk with hk | hk
      · exact wpAny_loadName_cell I.ok.kind hk hc hcell go
      · rcases hx with k | k
        · have : X.env.scope.names.lookup x = some .free := hk
          rw [k] at this; cases this
        · have : X.env.scope.names.lookup x = some .free := hk
          rw [k] at this; cases this
  · exact h.elim

/-! ### while -/
def sWhile (c : QT) (tb : QS) : QS := fun D ρ M => ∃ I : Nat → Ev → Mu → Prop, (∃ m, I m ρ M) ∧ ∀ m ρ M, I m ρ M → c ρ M fun b ρ1 M1 =>
  if b = true then tb { nx := fun ρ' M' => ∃ m', m' < m ∧ I m' ρ' M', ct := fun ρ' M' => ∃ m', m' < m ∧ I m' ρ' M', bk := D.nx, rt := D.rt } ρ1 M1 else D.nx ρ1 M1
theorem qs_while (hp : PassesOwn (model X.prog X.w) X.A X.env X.xe) (hc : PT X c (liT z qt)) (hb : PSs X body (liS z t)) : PS X (.While c body [] pos) (liS z (sWhile qt t)) :=
  ps_w (ps_while hp hc hb) fun D σ H ⟨S, M, ρ, D0, sim, ⟨I, ⟨m0, w0⟩, turn⟩, nx, bk, ct, rt⟩ => by
    refine ⟨fun m σ' H' => ∃ S' M' ρ', Same S S' ∧ Sim z S' M' ρ' σ' H' ∧ I m ρ' M', ⟨m0, S, M, ρ, .refl _, sim, w0⟩, ?_⟩
    rintro m σ1 H1 ⟨S1, M1, ρ1, e1, sim1, w1⟩
    refine ⟨S1, M1, ρ1, _, sim1, turn m ρ1 M1 w1, fun k H2 ⟨ρ2, M2, S2, q2, st2, sim2⟩ => ?_⟩
    have e2 := e1.trans st2.same
    cases k with
    | true =>
      have q2' := (show t _ ρ2 M2 by simpa using q2)
      refine iteT ⟨fun σ' H' => ∃ m', m' < m ∧ ∃ S' M' ρ', Same S S' ∧ Sim z S' M' ρ' σ' H' ∧ I m' ρ' M', fun σ' H' h => h, S2, M2, ρ2, _, sim2, q2', ?_, ?_, ?_, rt⟩
      · rintro ρ3 M3 S3 σ3 H3 ⟨m', hm, w3⟩ e3 sim3
        exact ⟨m', hm, S3, M3, ρ3, e2.trans e3, sim3, w3⟩
      · intro ρ3 M3 S3 σ3 H3 w3 e3 sim3
        exact nx ρ3 M3 S3 σ3 H3 w3 (e2.trans e3) sim3
      · rintro ρ3 M3 S3 σ3 H3 ⟨m', hm, w3⟩ e3 sim3
        exact ⟨m', hm, S3, M3, ρ3, e2.trans e3, sim3, w3⟩
    | false => exact iteF (nx ρ2 M2 S2 _ H2 (by simpa using q2) e2 sim2)
end

/-! ### what is walked -/
/-- an iterator yields these data, whatever comes to be known meanwhile -/
structure Ylds (z : Z) (J : It) (S1 : Hp) (ds : List D) : Prop where
  go : ∀ i H S, Same S1 S → Same S H → i < ds.length → J.go i H
  stop : ∀ i H S, Same S1 S → Same S H → ds.length ≤ i → J.stop i H
  yld : ∀ i H S x H' d, Same S1 S → Same S H → ds[i]? = some d → J.yld i H x H' → ∃ S', Same S S' ∧ Same H H' ∧ Same S' H' ∧ (∀ b, S' b ≠ none → S b ≠ none ∨ H b = none) ∧ Rp z.K S' x d
def liI (z : Z) (q : QA) : TI := fun σ H R => ∃ S M ρ Q0, Sim z S M ρ σ H ∧ q ρ M Q0 ∧ ∀ J H', (∃ ds ρ' M' S', Q0 ds ρ' M' ∧ Step S M H S' M' H' ∧ Sim z S' M' ρ' σ H' ∧ Ylds z J S' ds) → R J H'
theorem pi_w {X : Cx} {tg e : Expr} {t t' : TI} (h : PI X tg e t) (w : ∀ σ H R, t' σ H R → t σ H R) : PI X tg e t' := ⟨fun pins s σ H R I hq => h.run pins s σ H R I (w σ H R hq)⟩
section
variable {X : Cx} {z : Z} {tg e a b c : Expr} {pos p : Pos} {q : QE} {qr : QA}
/-- a list or a tuple -/
theorem pi_seq {l : Expr} {tl : TE} (hl : PE X l tl) : PI X tg l (fun σ H R => tl σ H fun x H1 => ∃ a, x = .ref a ∧ (((∃ xs, SqL X.K H1 a xs) ∧ R (Itl X.K a) H1) ∨ ((∃ xs, SqT X.K H1 a xs) ∧ R (Itt X.K a) H1))) := by
  refine ⟨fun pins s σ H R I h => ?_⟩
  refine thn (hl.run pins s σ H _ I h) fun v s1 ⟨x, H1, I1, r1, q1⟩ => ?_
  obtain ⟨a, e, ⟨⟨xs, hq⟩, q⟩ | ⟨⟨xs, hq⟩, q⟩⟩ := q1
  · subst e
    cases r1
    obtain ⟨its, rv, p, hz⟩ := I1.list hq
    exact wpAny_pyIter_list p.isList (pi_one (tk := s1.toks) I1 _ (turn_list a _) ⟨_, Heap.get?_push_size _ rfl, rfl, rfl⟩ q)
  · subst e
    cases r1
    obtain ⟨its, rv, p, hz⟩ := I1.tuple hq
    exact wpAny_pyIter_tuple (show s1.heap.IsTuple a its.toArray from p) (pi_one (tk := s1.toks) I1 _ (turn_tuple a _) ⟨_, Heap.get?_push_size _ rfl, rfl, rfl⟩ q)
def iSeq (q : QE) : QA := fun ρ M Q => q ρ M fun r ρ' M' => match r.val with
  | .lst ds => Q ds ρ' M'
  | .tup ds => Q ds ρ' M'
  | _ => False
theorem ylds_listS {S1 : Hp} {a : Addr} {xs : List V} {ds : List D} (h : S1 a = some (.lst xs)) (r : RpA z.K S1 xs ds) : Ylds z (Itl z.K a) S1 ds := by
  refine ⟨fun i H S e1 e2 hi => ?_, fun i H S e1 e2 hi => ⟨xs, .of ((e1.trans e2) _ _ h), by rw [r.length]; exact hi⟩, fun i H S x H' d e1 e2 ed y => ?_⟩
  · have hl := r.length
    exact ⟨xs, xs[i], .of ((e1.trans e2) _ _ h), List.getElem?_eq_getElem (by omega)⟩
  · obtain ⟨rfl, y⟩ := y
    have ex := y xs (.of ((e1.trans e2) _ _ h))
    obtain ⟨v, h1, h2⟩ := r.get ed
    rw [ex] at h1
    cases h1
    exact ⟨S, .refl _, .refl _, e2, fun b q => .inl q, Rp.ext e1 _ _ h2⟩
theorem ylds_tup {S1 : Hp} {a : Addr} {xs : List V} {ds : List D} (h : SqT z.K S1 a xs) (r : RpA z.K S1 xs ds) : Ylds z (Itt z.K a) S1 ds := by
  refine ⟨fun i H S e1 e2 hi => ?_, fun i H S e1 e2 hi => ⟨xs, same_seqT (e1.trans e2) h, by rw [r.length]; exact hi⟩, fun i H S x H' d e1 e2 ed y => ?_⟩
  · have hl := r.length
    exact ⟨xs, xs[i], same_seqT (e1.trans e2) h, List.getElem?_eq_getElem (by omega)⟩
  · obtain ⟨rfl, y⟩ := y
    have ex := y xs (same_seqT (e1.trans e2) h)
    obtain ⟨v, h1, h2⟩ := r.get ed
    rw [ex] at h1
    cases h1
    exact ⟨S, .refl _, .refl _, e2, fun b q => .inl q, Rp.ext e1 _ _ h2⟩
theorem qi_seq (hK : X.K = z.K := by first | assumption | rfl) (h : PE X e (liE z q)) : PI X tg e (liI z (iSeq q)) :=
  pi_w (pi_seq h) fun σ H R ⟨S, M, ρ, Q0, sim, h, post⟩ => ⟨S, M, ρ, _, sim, h, fun v H1 ⟨r, ρ1, M1, S1, q1, st1, sim1, res1⟩ => by
    obtain ⟨S2, sim2, st2, rp⟩ := sim1.freeze res1
    dsimp only at q1
    split at q1
    · rename_i ds e
      rw [e] at rp
      cases rp with
      | lst h1 h2 => exact ⟨_, rfl, .inl ⟨⟨_, .of (sim2.sub _ _ h1)⟩, post _ H1 ⟨ds, ρ1, M1, S2, q1, st1.trans st2, sim2, by rw [hK]; exact ylds_listS h1 h2⟩⟩⟩
    · rename_i ds e
      rw [e] at rp
      cases rp with
      | tup h1 h2 => exact ⟨_, rfl, .inr ⟨⟨_, by rw [hK]; exact same_seqT sim2.sub h1⟩, post _ H1 ⟨ds, ρ1, M1, S2, q1, st1.trans st2, sim2, by rw [hK]; exact ylds_tup h1 h2⟩⟩⟩
    · exact q1.elim⟩
/-- lo, lo + 1, .. below hi -/
def rangeL (lo hi : Int) : List D := (List.range (hi - lo).toNat).map fun (k : Nat) => .int (lo + (k : Int))
theorem rangeL_len {lo hi : Int} : (rangeL lo hi).length = (hi - lo).toNat := by unfold rangeL; rw [List.length_map, List.length_range]
theorem rangeL_get {lo hi : Int} {i : Nat} {d : D} (h : (rangeL lo hi)[i]? = some d) : d = .int (lo + (i : Int)) ∧ i < (hi - lo).toNat := by
  unfold rangeL at h
  rw [List.getElem?_map] at h
  cases e : (List.range (hi - lo).toNat)[i]? with
  | none => rw [e] at h; cases h
  | some k =>
    rw [e] at h
    obtain ⟨h1, h2⟩ := List.getElem?_eq_some_iff.mp e
    rw [List.getElem_range] at h2
    subst h2
    cases h
    exact ⟨rfl, by rw [List.length_range] at h1; exact h1⟩
def iR1 (qr : QA) : QA := fun ρ M Q => qr ρ M fun ds ρ' M' => match ds with
  | [.int j] => (-4611686018427387904 ≤ j ∧ j < 4611686018427387904) ∧ Q (rangeL 0 j) ρ' M'
  | _ => False
def iR2 (qr : QA) : QA := fun ρ M Q => qr ρ M fun ds ρ' M' => match ds with
  | [.int i, .int j] => (-4611686018427387904 ≤ i ∧ i < 4611686018427387904 ∧ -4611686018427387904 ≤ j ∧ j < 4611686018427387904) ∧ Q (rangeL i j) ρ' M'
  | _ => False
theorem ylds_range {S1 : Hp} {lo hi : Int} : Ylds z (Itr lo (hi - lo).toNat) S1 (rangeL lo hi) := by
  refine ⟨fun i H S e1 e2 h => by rw [rangeL_len] at h; exact h, fun i H S e1 e2 h => by rw [rangeL_len] at h; exact h, fun i H S x H' d e1 e2 ed y => ?_⟩
  obtain ⟨rfl, rfl⟩ := y
  obtain ⟨rfl, _⟩ := rangeL_get ed
  exact ⟨S, .refl _, .refl _, e2, fun b q => .inl q, .int _⟩
theorem p62 : ((2 : Int) ^ 62) = 4611686018427387904 := by decide
theorem qi_range1 (hg : Gl X "range") (hm : X.mg "range" = none) (ha : PA X [a] (liA z qr)) (hs : starEach [a] X.env = [(false, eval a X.env)] := by rfl) : PI X tg (.Call (.Name "range" p) [a] [] pos) (liI z (iR1 qr)) :=
  pi_w (pi_range1 hg hm ha hs) fun σ H R ⟨S, M, ρ, Q0, sim, h, post⟩ => ⟨S, M, ρ, _, sim, h, fun vs H1 ⟨ds, ρ1, M1, S1, q1, st1, sim1, rp⟩ => by
    dsimp only at q1
    split at q1
    · cases rp with
      | cons r1 rr =>
        cases rr
        cases r1
        obtain ⟨⟨b1, b2⟩, q⟩ := q1
        refine ⟨_, rfl, by rw [p62]; exact b1, by rw [p62]; exact b2, post _ H1 ⟨_, ρ1, M1, S1, q, st1, sim1, ?_⟩⟩
        have y := ylds_range (z := z) (S1 := S1) (lo := 0) (hi := ‹Int›)
        rw [Int.sub_zero] at y
        exact y
    · exact q1.elim⟩
theorem qi_range2 (hg : Gl X "range") (hm : X.mg "range" = none) (ha : PA X [a, b] (liA z qr)) (hs : starEach [a, b] X.env = [(false, eval a X.env), (false, eval b X.env)] := by rfl) (hs2 : starEach [b] X.env = [(false, eval b X.env)] := by rfl) :
    PI X tg (.Call (.Name "range" p) [a, b] [] pos) (liI z (iR2 qr)) :=
  pi_w (pi_range2 hg hm ha hs hs2) fun σ H R ⟨S, M, ρ, Q0, sim, h, post⟩ => ⟨S, M, ρ, _, sim, h, fun vs H1 ⟨ds, ρ1, M1, S1, q1, st1, sim1, rp⟩ => by
    dsimp only at q1
    split at q1
    · cases rp with
      | cons r1 rr =>
        cases rr with
        | cons r2 rr =>
          cases rr
          cases r1
          cases r2
          obtain ⟨⟨b1, b2, b3, b4⟩, q⟩ := q1
          exact ⟨_, _, rfl, ⟨by rw [p62]; exact b1, by rw [p62]; exact b2, by rw [p62]; exact b3, by rw [p62]; exact b4⟩, post _ H1 ⟨_, ρ1, M1, S1, q, st1, sim1, ylds_range⟩⟩
    · exact q1.elim⟩
end

/-! ### targets -/
abbrev QG := D → Ev → (Ev → Prop) → Prop
abbrev QGs := List D → Ev → (Ev → Prop) → Prop
/-- as: the slots that may change -/
def liG (z : Z) (as : List Nat) (q : QG) : TG := fun v σ H Q => ∃ S M ρ d Q0, Sim z S M ρ σ H ∧ Rp z.K S v d ∧ q d ρ Q0 ∧ ∀ ρ' σ', Q0 ρ' → Sim z S M ρ' σ' H → (∀ j, j ∉ as → σ'[j]? = σ[j]?) → Q σ' H
def liGs (z : Z) (as : List Nat) (q : QGs) : TGs := fun vs σ H Q => ∃ S M ρ ds Q0, Sim z S M ρ σ H ∧ RpA z.K S vs ds ∧ q ds ρ Q0 ∧ ∀ ρ' σ', Q0 ρ' → Sim z S M ρ' σ' H → (∀ j, j ∉ as → σ'[j]? = σ[j]?) → Q σ' H
theorem pg_w {X : Cx} {e : Expr} {t t' : TG} (h : PG X e t) (w : ∀ v σ H Q, t' v σ H Q → t v σ H Q) : PG X e t' := ⟨fun pins s σ H v u Q I r hq => h.run pins s σ H v u Q I r (w v σ H Q hq)⟩
theorem pgs_w {X : Cx} {e : List Expr} {t t' : TGs} (h : PGs X e t) (w : ∀ v σ H Q, t' v σ H Q → t v σ H Q) : PGs X e t' := ⟨fun pins s σ H v u Q I r hq => h.run pins s σ H v u Q I r (w v σ H Q hq)⟩
def gN (i : Nat) : QG := fun d ρ Q => Q (ρ.set i (.va d))
def gsNil : QGs := fun ds ρ Q => match ds with
  | [] => Q ρ
  | _ => False
def gsCons (g : QG) (gs : QGs) : QGs := fun ds ρ Q => match ds with
  | d :: r => g d ρ fun ρ' => gs r ρ' Q
  | [] => False
def gT (n : Nat) (gs : QGs) : QG := fun d ρ Q => match d with
  | .tup ds => ds.length = n ∧ gs ds ρ Q
  | _ => False
section
variable {X : Cx} {z : Z} {pos : Pos} {e : Expr} {es : List Expr} {g : QG} {gs : QGs} {as bs : List Nat}
theorem qg_name {i : Nat} {x : Str} (hN : X.N.Nodup) (hi : X.N[i]? = some x) (hx : Loc X.env.scope x) (hf : X.fn x = true ∨ X.env.scope.names.lookup x = some .local := by first | exact .inl rfl | exact .inr rfl | assumption) : PG X (.Name x pos) (liG z [i] (gN i)) :=
  pg_w (pg_name hN hi hx hf) fun v σ H Q ⟨S, M, ρ, d, Q0, sim, r, h, post⟩ => post _ _ h (sim.put (r := .va d) r) fun j hj => List.getElem?_set_ne fun e => hj (by simp [e])
theorem qgs_nil : PGs X [] (liGs z [] gsNil) := pgs_w pgs_nil fun vs σ H Q ⟨S, M, ρ, ds, Q0, sim, r, h, post⟩ => by
  unfold gsNil at h
  split at h
  · cases r; exact ⟨rfl, post _ _ h sim fun _ _ => rfl⟩
  · exact h.elim
theorem qgs_cons (h1 : PG X e (liG z as g)) (h2 : PGs X es (liGs z bs gs)) (hs : (assignEach (e :: es) X.env).map (·.2) = assign e X.env :: (assignEach es X.env).map (·.2) := by rfl) : PGs X (e :: es) (liGs z (as ++ bs) (gsCons g gs)) :=
  pgs_w (pgs_cons h1 h2 hs) fun vs σ H Q ⟨S, M, ρ, ds, Q0, sim, r, h, post⟩ => by
    unfold gsCons at h
    split at h
    · cases r with
      | cons r1 r2 => exact ⟨_, _, rfl, S, M, ρ, _, _, sim, r1, h, fun ρ' σ' q sim' k1 => ⟨S, M, ρ', _, Q0, sim', r2, q, fun ρ2 σ2 q2 sim2 k2 => post ρ2 σ2 q2 sim2 fun j hj => (k2 j fun hm => hj (List.mem_append_right _ hm)).trans (k1 j fun hm => hj (List.mem_append_left _ hm))⟩⟩
    · exact h.elim
theorem qg_tup {k n : Nat} (hc : X.calm = true) (h : PGs X es (liGs z as gs)) (hK : X.K = z.K := by first | assumption | rfl) (hn : (assignEach es X.env).length = n := by rfl) (hst : (assignEach es X.env).findIdx? (·.1) = none := by rfl) : PG X (.Tuple es k pos) (liG z as (gT n gs)) :=
  pg_w (pg_tup hc h hn hst) fun v σ H Q ⟨S, M, ρ, d, Q0, sim, r, h, post⟩ => by
    unfold gT at h
    split at h
    · cases r with
      | tup r1 r2 => exact ⟨_, _, rfl, by rw [hK]; exact same_seqT sim.sub r1, by rw [r2.length]; exact h.1, S, M, ρ, _, Q0, sim, r2, h.2, post⟩
    · exact h.elim
/-- target = value -/
def sTgt (q : QE) (g : QG) : QS := fun D ρ M => q ρ M fun r ρ' M' => g r.val ρ' fun ρ2 => D.nx ρ2 M'
theorem qs_asg {tg e : Expr} {q : QE} (he : PE X e (liE z q)) (hg : PG X tg (liG z as g)) (hs : swapsWithSole [tg] e pos.line X.env = pure false := by rfl) (hw : swappedStores [tg] e X.env = pure none := by rfl)
    (h1 : (assignEach [tg] X.env).map (·.2) = [assign tg X.env] := by rfl) : PS X (.Assign [tg] e pos) (liS z (sTgt q g)) :=
  ps_w (ps_asg he hg hs hw h1) fun D σ H ⟨S, M, ρ, D0, sim, h, nx, _⟩ => ⟨S, M, ρ, _, sim, h, fun v H' ⟨r, ρ', M', S', q, st, sim', res⟩ => by
    obtain ⟨S2, sim2, st2, rp⟩ := sim'.freeze res
    exact ⟨S2, M', ρ', _, _, sim2, rp, q, fun ρ2 σ2 q2 sim3 _ => nx ρ2 M' S2 σ2 H' q2 (st.trans st2).same sim3⟩⟩

/-! ### for -/
def sFor (qi : QA) (g : QG) (tb : QS) : QS := fun D ρ M => qi ρ M fun ds ρ1 M1 => ∃ I : Nat → Ev → Mu → Prop, I 0 ρ1 M1 ∧
  (∀ i d ρ M, ds[i]? = some d → I i ρ M → g d ρ fun ρ2 => tb { nx := I (i + 1), ct := I (i + 1), bk := D.nx, rt := D.rt } ρ2 M) ∧ (∀ ρ M, I ds.length ρ M → D.nx ρ M)
theorem qs_for {tg iter : Expr} {body : List Stmt} {qi : QA} {tb : QS} (hp : PassesOwn (model X.prog X.w) X.A X.env X.xe) (hc : X.calm = true) (hi : PI X tg iter (liI z qi)) (hg : PG X tg (liG z as g)) (hb : PSs X body (liS z tb))
    (hs : ∀ x, foldedSetIterable iter X.env x = pure x := by intro _; rfl) : PS X (.For tg iter body [] pos) (liS z (sFor qi g tb)) :=
  ps_w (ps_for hp hc hi hg hb hs) fun D σ H ⟨S, M, ρ, D0, sim, h, nx, bk, ct, rt⟩ => ⟨S, M, ρ, _, sim, h, fun J H1 ⟨ds, ρ1, M1, S1, ⟨I, w0, turn, fin⟩, st1, sim1, y⟩ => by
    refine ⟨fun i m σ' H' => m = ds.length - i ∧ i ≤ ds.length ∧ ∃ S' M' ρ', Same S1 S' ∧ Sim z S' M' ρ' σ' H' ∧ I i ρ' M', ⟨ds.length, by simp, Nat.zero_le _, S1, M1, ρ1, .refl _, sim1, w0⟩, ?_⟩
    rintro i m σ2 H2 ⟨rfl, hi, S2, M2, ρ2, e2, sim2, w2⟩
    by_cases hlt : i < ds.length
    · refine .inr ⟨y.go i H2 S2 e2 sim2.sub hlt, fun σ' H' => i + 1 ≤ ds.length ∧ ∃ S' M' ρ', Same S1 S' ∧ Sim z S' M' ρ' σ' H' ∧ I (i + 1) ρ' M', fun σ' H' h => ⟨ds.length - (i + 1), by omega, rfl, h.1, h.2⟩, fun x H3 hy => ?_⟩
      have ed : ds[i]? = some ds[i] := List.getElem?_eq_getElem hlt
      obtain ⟨S3, a1, a2, a3, a4, rp⟩ := y.yld i H2 S2 x H3 _ e2 sim2.sub ed hy
      have sim3 := sim2.grow a1 a2 a3 a4
      refine ⟨S3, M2, ρ2, _, _, sim3, rp, turn i _ ρ2 M2 ed w2, fun ρ4 σ4 q4 sim4 _ => ?_⟩
      have e3 := e2.trans a1
      exact ⟨S3, M2, ρ4, _, sim4, q4, fun ρ5 M5 S5 σ5 H5 q5 e5 sim5 => ⟨hlt, S5, M5, ρ5, e3.trans e5, sim5, q5⟩,
        fun ρ5 M5 S5 σ5 H5 q5 e5 sim5 => nx ρ5 M5 S5 σ5 H5 q5 ((st1.same.trans e3).trans e5) sim5, fun ρ5 M5 S5 σ5 H5 q5 e5 sim5 => ⟨hlt, S5, M5, ρ5, e3.trans e5, sim5, q5⟩, rt⟩
    · have e : i = ds.length := by omega
      subst e
      exact .inl ⟨y.stop _ H2 S2 e2 sim2.sub (Nat.le_refl _), nx ρ2 M2 S2 σ2 H2 (fin ρ2 M2 w2) (st1.same.trans e2) sim2⟩⟩
end

/-! ### calls of the program's defs -/
/-- a promise: the arguments' data, the objects known by address; the wanted end; the wanted exception (its class's name, its fields) -/
abbrev PSp := List D → Mu → (Sl → Mu → Prop) → (Str → List D → Mu → Prop) → Prop
abbrev zOf (K : Fg) (H S : Hp) (M : Mu) : Z := ⟨K, H, S, M, fun _ => False⟩
/-- .. of a def that raises nothing -/
def liP (K : Fg) (p : PSp) : Sp := fun vs H Q _ => ∃ S M ds Q0, Core (zOf K H S M) S M H ∧ RpA K S vs ds ∧ p ds M Q0 (fun _ _ _ => False) ∧
  ∀ v H' r M' S', Q0 r M' → Core (zOf K H S M) S' M' H' → ResF (zOf K H S M) S' M' H' v r → Q v H'
def eCall (p : PSp) (qr : QA) : QE := fun ρ M Q => qr ρ M fun ds ρ1 M1 => p ds M1 (fun r M2 => Q r ρ1 M2) fun _ _ _ => False
section
variable {X : Cx} {z : Z}
theorem Sim.core0 {S : Hp} {M : Mu} {ρ : Ev} {σ : St} {H : Hp} (h : Sim z S M ρ σ H) : Core (zOf z.K H S M) S M H := ⟨.refl, h.sub, fun b q => .inl q, h.mu, h.mnd, fun _ r => r.elim⟩
theorem Sim.after {S S' : Hp} {M M' : Mu} {ρ : Ev} {σ : St} {H H' : Hp} (h : Sim z S M ρ σ H) (c : Core (zOf z.K H S M) S' M' H') : Sim z S' M' ρ σ H' := by
  have hs : ∀ {a : Addr}, S a = none → H a ≠ none → S' a = none := fun {a} e n => by
    cases q : S' a with
    | none => rfl
    | some o =>
      rcases c.frS a (by rw [q]; simp) with w | w
      · exact absurd e w
      · exact absurd w n
  refine ⟨⟨h.step.trans c.step, c.sub, fun b q => ?_, c.mu, c.mnd, fun b hb => ?_⟩, h.len, fun i d e => ?_, fun i o e => ?_, h.sep⟩
  · rcases c.frS b q with w | w
    · exact h.frS b w
    · exact .inr (h.toCore.h0 w)
  · obtain ⟨r1, r2, r3⟩ := h.rsv b hb
    refine ⟨hs r1 r2, c.step.dom b r2, fun p hp e => ?_⟩
    rcases c.step.mnew p hp with ⟨q, hq, e2⟩ | e2
    · exact r3 q hq (e2.trans e)
    · exact r2 (e ▸ e2)
  · obtain ⟨v, a, b⟩ := h.va i d e
    exact ⟨v, a, Rp.ext c.step.same _ _ b⟩
  · obtain ⟨a, h1, h2, h3, h4, h5⟩ := h.ow i o e
    obtain ⟨u, hu⟩ := h4.at
    have k : H' a = H a := (c.step.keep a u hu h5).trans hu.symm
    refine ⟨a, h1, hs h2 (by rw [hu]; simp), h3, h4.ext c.step.same k, fun p hp e => ?_⟩
    rcases c.step.mnew p hp with ⟨q, hq, e2⟩ | e2
    · exact h5 q hq (e2.trans e)
    · have e3 : H p.1 = none := e2
      rw [e, hu] at e3; cases e3
theorem Sim.afterR {S S' : Hp} {M M' : Mu} {ρ : Ev} {σ : St} {H H' : Hp} {v : V} {r : Sl} (h : Sim z S M ρ σ H) (res : ResF (zOf z.K H S M) S' M' H' v r) : ResE z S' M' ρ σ H' v r := by
  cases r with
  | un => exact res
  | va d => exact res
  | ow o =>
    obtain ⟨a, h1, h2, h3, h4, h5⟩ := res
    have h3' : H a = none := h3.1
    refine ⟨a, h1, h2, h.toCore.nw h3', h4, h5, fun i o' e q => ?_⟩
    obtain ⟨b, k1, _, _, k4, _⟩ := h.ow i o' e
    rw [q] at k1
    cases k1
    obtain ⟨u, hu⟩ := k4.at
    rw [h3'] at hu; cases hu
variable {CX : CXT} {k : Nat} {f : Addr} {fd : FuncData} {ps : List Str} {p : PSp} {x : Str} {pp pos : Pos} {e : Expr} {es : List Expr} {qr : QA}
theorem call_lift {σ : St} {H : Hp} {Q : VK} (h : liE z (eCall p qr) σ H Q) : liA z qr σ H fun vs H1 => liP z.K p (vs ++ []) H1 Q E0 := by
  obtain ⟨S, M, ρ, Q0, sim, h, post⟩ := h
  refine ⟨S, M, ρ, _, sim, h, fun vs H1 ⟨ds, ρ1, M1, S1, q1, st1, sim1, rp⟩ => ⟨S1, M1, ds, _, sim1.core0, by rw [List.append_nil]; exact rp, q1, fun v H2 r M2 S2 q2 c res => ?_⟩⟩
  exact post v H2 ⟨r, ρ1, M2, S2, q2, st1.trans c.step, sim1.after c, sim1.afterR res⟩
/-- f(e, ..): no exception is let out -/
theorem qe_call (F : FnOk X.prog X.w X.K X.mg X.base CX k f fd ps (liP X.K p)) (hr : Room k X.A) (hg : Gl X x) (hm : X.mg x = some (.ref f)) (hk : PySem.W.keepIn X.K (.ref f) = true) (hb : Binds X.K fd ps []) (hx : Passes CX X E0)
    (ha : PA X (e :: es) (liA z qr)) (hK : X.K = z.K := by first | assumption | rfl) (hdb : (x == ("__debug__" : Str)) = false := by decide) (he : starEach (e :: es) X.env = (false, eval e X.env) :: starEach es X.env := by rfl) (hpl : (backTo pos (starEach es X.env)).any (·.1) = false := by rfl) :
    PE X (.Call (.Name x pp) (e :: es) [] pos) (liE z (eCall p qr)) := by
  refine pe_w (pe_call F hr hg hm hk hb .nil hx ha hdb he hpl) fun σ H Q h => ?_
  have h' := call_lift h
  unfold tCall
  rw [hK]
  exact h'
end
end PL
namespace PL
open PySem PySem.Spec PyProof.Rows L2

/-! ### arithmetic on data -/
def dI2 (C : Int → Int → Prop) (f : Int → Int → D) : OD := fun a b Q => match a, b with
  | .int i, .int j => C i j ∧ Q (.va (f i j))
  | _, _ => False
abbrev CT : Int → Int → Prop := fun _ _ => True
/-- a factor is small, or both are not too great -/
def CMulP (i j : Int) : Prop := (-18446744073709551616 < i ∧ i < 18446744073709551616) ∨ (-18446744073709551616 < j ∧ j < 18446744073709551616)
/-- a divisor below 2 ^ 100 -/
def CDivP (_ j : Int) : Prop := 0 < j ∧ j < 1267650600228229401496703205376
def CModP (_ j : Int) : Prop := 0 < j
def CPowP (i j : Int) : Prop := 0 ≤ j ∧ j ≤ 1000 ∧ (-1000000 < i ∧ i < 1000000)
def dAdd : OD := fun a b Q => match a, b with
  | .int i, .int j => Q (.va (.int (i + j)))
  | .str x, .str y => x.length + y.length ≤ 16777216 ∧ Q (.va (.str (x ++ y)))
  | .lst xs, .lst ys => xs.length + ys.length ≤ 16777216 ∧ Q (.ow (.lst (xs ++ ys)))
  | .tup xs, .tup ys => xs.length + ys.length ≤ 16777216 ∧ Q (.va (.tup (xs ++ ys)))
  | _, _ => False
abbrev dSub : OD := dI2 CT fun i j => .int (i - j)
abbrev dMul : OD := dI2 CMulP fun i j => .int (i * j)
abbrev dDiv : OD := dI2 CDivP fun i j => .int (i / j)
abbrev dMod : OD := dI2 CModP fun i j => .int (i % j)
abbrev dPow : OD := dI2 CPowP fun i j => .int (i ^ j.toNat)
abbrev dLt : OD := dI2 CT fun i j => .bl (decide (i < j))
abbrev dLe : OD := dI2 CT fun i j => .bl (decide (i ≤ j))
abbrev dGt : OD := dI2 CT fun i j => .bl (decide (j < i))
abbrev dGe : OD := dI2 CT fun i j => .bl (decide (j ≤ i))
section
variable {X : Cx} {z : Z} {S : Hp} {M : Mu} {H : Hp}
theorem Rb.int {v : V} {i : Int} (h : Rb z.K S M H v (.int i)) : v = .int i := by
  rcases h with h | ⟨_, _, _, _, e, _⟩
  · cases h; rfl
  · cases e
theorem Rb.bl {v : V} {i : Bool} (h : Rb z.K S M H v (.bl i)) : v = .bl i := by
  rcases h with h | ⟨_, _, _, _, e, _⟩
  · cases h; rfl
  · cases e
theorem Rb.str {v : V} {i : Str} (h : Rb z.K S M H v (.str i)) : v = .str i := by
  rcases h with h | ⟨_, _, _, _, e, _⟩
  · cases h; rfl
  · cases e
theorem Rb.ty {v : V} {i : String} (h : Rb z.K S M H v (.ty i)) : v = .ty i := by
  rcases h with h | ⟨_, _, _, _, e, _⟩
  · cases h; rfl
  · cases e
theorem Rb.non {v : V} (h : Rb z.K S M H v .non) : v = .non := by
  rcases h with h | ⟨_, _, _, _, e, _⟩
  · cases h; rfl
  · cases e
theorem Rb.ref {v : V} {a : Addr} (h : Rb z.K S M H v (.ref a)) : v = .ref a := by
  rcases h with h | ⟨_, _, _, _, e, _⟩
  · cases h; rfl
  · cases e
theorem Rb.tup {v : V} {ds : List D} (h : Rb z.K S M H v (.tup ds)) : ∃ a xs, v = .ref a ∧ SqT z.K S a xs ∧ RpA z.K S xs ds := by
  rcases h with h | ⟨_, _, _, _, e, _⟩
  · cases h with | tup a b => exact ⟨_, _, rfl, a, b⟩
  · cases e
theorem Rb.lst {v : V} {ds : List D} (hs : Same S H) (h : Rb z.K S M H v (.lst ds)) : ∃ a xs, v = .ref a ∧ H a = some (.lst xs) ∧ RpA z.K S xs ds := by
  rcases h with h | ⟨a, xs, ds', e1, e, e2, e3, _⟩
  · cases h with | lst a b => exact ⟨_, _, rfl, hs _ _ a, b⟩
  · cases e; exact ⟨a, xs, e1, e2, e3⟩
theorem ob_i2 {f : Value → Value → Sem Value} {C C' : Int → Int → Prop} {g : Int → Int → V} {g' : Int → Int → D} (h : OpR X f (rI C g)) (hC : ∀ i j, C' i j → C i j) (hg : ∀ S i j, Rp z.K S (g i j) (g' i j)) : OpB X z f (dI2 C' g') :=
  opB_of h fun σ H S M ρ x y d1 d2 Q0 sim b1 b2 q => by
    unfold dI2 at q
    split at q
    · exact ⟨_, _, b1.int, b2.int, hC _ _ q.1, poE_va sim (hg _ _ _) q.2⟩
    · exact q.elim
theorem ob_i20 {f : Value → Value → Sem Value} {g : Int → Int → V} {g' : Int → Int → D} (h : OpR X f (rI0 g)) (hg : ∀ S i j, Rp z.K S (g i j) (g' i j)) : OpB X z f (dI2 CT g') :=
  opB_of h fun σ H S M ρ x y d1 d2 Q0 sim b1 b2 q => by
    unfold dI2 at q
    split at q
    · exact ⟨_, _, b1.int, b2.int, poE_va sim (hg _ _ _) q.2⟩
    · exact q.elim
theorem p64 : ((2 : Int) ^ 64) = 18446744073709551616 := by decide
theorem cmul_ok {i j : Int} (h : CMulP i j) : CMul i j := by
  unfold CMul
  rw [p64]
  exact h
theorem cdiv_ok {i j : Int} (h : CDivP i j) : CDivW i j := by
  refine wide_div (b := 100) h.1 ?_ (by decide) (by decide)
  have h1 := h.1
  have h2 := h.2
  have e : (2 : Nat) ^ 100 = 1267650600228229401496703205376 := by decide
  rw [e]
  omega
theorem cpow_ok {i j : Int} (h : CPowP i j) : CPow i j := by
  obtain ⟨h1, h2, h3, h4⟩ := h
  exact ⟨h1, by omega, by omega⟩
theorem ob_sub : OpB X z (binaryOp .Sub) dSub := ob_i20 op_sub fun _ _ _ => .int _
theorem ob_mul : OpB X z (binaryOp .Mult) dMul := ob_i2 op_mul (fun _ _ => cmul_ok) fun _ _ _ => .int _
theorem ob_div : OpB X z (binaryOp .FloorDiv) dDiv := ob_i2 op_fdivW (fun _ _ => cdiv_ok) fun _ _ _ => .int _
theorem ob_mod : OpB X z (binaryOp .Mod) dMod := ob_i2 op_mod (fun _ _ h => h) fun _ _ _ => .int _
theorem ob_pow : OpB X z (binaryOp .Pow) dPow := ob_i2 op_pow (fun _ _ => cpow_ok) fun _ _ _ => .int _
theorem ob_lt : OpB X z (compareOp .Lt) dLt := ob_i20 op_lt fun _ _ _ => .bl _
theorem ob_le : OpB X z (compareOp .LtE) dLe := ob_i20 op_le fun _ _ _ => .bl _
theorem ob_gt : OpB X z (compareOp .Gt) dGt := ob_i20 op_gt fun _ _ _ => .bl _
theorem ob_ge : OpB X z (compareOp .GtE) dGe := ob_i20 op_ge fun _ _ _ => .bl _
abbrev dAddI : OD := dI2 CT fun i j => .int (i + j)
theorem ib_add : OpB X z (inplaceOp .Add) dAddI := ob_i20 iop_add fun _ _ _ => .int _
theorem ib_sub : OpB X z (inplaceOp .Sub) dSub := ob_i20 iop_sub fun _ _ _ => .int _
def CDivS (_ j : Int) : Prop := 0 < j ∧ j < 1073741824
abbrev dDivS : OD := dI2 CDivS fun i j => .int (i / j)
theorem ib_div : OpB X z (inplaceOp .FloorDiv) dDivS := ob_i2 iop_fdiv (fun _ _ h => h) fun _ _ _ => .int _
/-- a new list of one's own, as a result -/
theorem poE_ow {ρ : Ev} {σ : St} {Q0 : Sl → Prop} {p : Addr} {xs : List V} {ds : List D} (sim : Sim z S M ρ σ H) (hp : H p = none) (r : RpA z.K S xs ds) (q : Q0 (.ow (.lst ds))) : PoE z S M σ H (fun r ρ' M' => ρ' = ρ ∧ M' = M ∧ Q0 r) (.ref p) (upd H p (.lst xs)) := by
  obtain ⟨a, b, c⟩ := sim.fresh hp r
  exact ⟨_, ρ, M, S, ⟨rfl, rfl, q⟩, b, a, c⟩
theorem poE_tup {ρ : Ev} {σ : St} {Q0 : Sl → Prop} {p : Addr} {xs : List V} {ds : List D} (sim : Sim z S M ρ σ H) (hp : H p = none) (r : RpA z.K S xs ds) (q : Q0 (.va (.tup ds))) : PoE z S M σ H (fun r ρ' M' => ρ' = ρ ∧ M' = M ∧ Q0 r) (.ref p) (upd H p (.tup xs)) := by
  obtain ⟨a, b⟩ := sim.alloc (o := .tup xs) hp
  exact ⟨_, ρ, M, _, ⟨rfl, rfl, q⟩, b, a, Rp.tup (.of upd_same) (RpA.ext b.same _ _ r)⟩
theorem ob_add (hK : X.K = z.K := by first | assumption | rfl) : OpB X z (binaryOp .Add) dAdd := by
  intro pins s σ H S M ρ x y u w d1 d2 Q0 I sim b1 b2 r1 r2 q
  unfold dAdd at q
  split at q
  · exact op_add pins s σ H x y u w _ I r1 r2 ⟨_, _, b1.int, b2.int, poE_va sim (.int _) q⟩
  · exact op_add_str pins s σ H x y u w _ I r1 r2 ⟨_, _, b1.str, b2.str, line_eq q.1, poE_va sim (.str _) q.2⟩
  · obtain ⟨a, xs, e1, h1, k1⟩ := b1.lst sim.sub
    obtain ⟨b, ys, e2, h2, k2⟩ := b2.lst sim.sub
    exact op_cat pins s σ H x y u w _ I r1 r2 ⟨a, b, xs, ys, e1, e2, h1, h2, by rw [k1.length, k2.length]; exact line_eq q.1, fun p hp => poE_ow sim hp (k1.append k2) q.2⟩
  · obtain ⟨a, xs, e1, h1, k1⟩ := b1.tup
    obtain ⟨b, ys, e2, h2, k2⟩ := b2.tup
    refine op_catA pins s σ H x y u w _ I r1 r2 ⟨a, b, xs, ys, e1, e2, by rw [hK]; exact same_seqT sim.sub h1, by rw [hK]; exact same_seqT sim.sub h2, by rw [k1.length, k2.length]; exact line_eq q.1, fun e => ?_, fun n e => ?_, fun n1 n2 p hp => poE_tup sim hp (k1.append k2) q.2⟩
    · subst e
      have z1 := k1.length
      cases k1
      exact poE_va sim (.tup h2 k2) (by simpa using q.2)
    · subst e
      cases k2
      exact poE_va sim (.tup h1 k1) (by simpa using q.2)
  · exact q.elim
theorem ub_neg : UnB X z (unaryOp .USub) (fun d Q => match d with | .int i => Q (.va (.int (-i))) | _ => False) := by
  intro pins s σ H S M ρ x u d Q0 I sim b r q
  split at q
  · exact un_neg pins s σ H x u _ I r ⟨_, b.int, poE_va sim (.int _) q⟩
  · exact q.elim

/-! ### == -/
mutual
def toPy : D → PyData
  | .non => .none
  | .bl b => .bool b
  | .int i => .int i
  | .str x => .str x
  | .tup xs => .tuple (toPyA xs)
  | .lst xs => .list (toPyA xs)
  | .ref _ => .dict []
  | .ty _ => .dict []
  | .set _ _ => .dict []
  | .dic _ _ => .dict []
  | .obj _ _ _ => .dict []
def toPyA : List D → List PyData
  | [] => []
  | d :: ds => toPy d :: toPyA ds
end
mutual
/-- data without addresses and types -/
def isPure : D → Bool
  | .tup xs => isPureA xs
  | .lst xs => isPureA xs
  | .ref _ => false
  | .ty _ => false
  | .set _ _ => false
  | .dic _ _ => false
  | .obj _ _ _ => false
  | _ => true
def isPureA : List D → Bool
  | [] => true
  | d :: ds => isPure d && isPureA ds
end
mutual
theorem Rp.dp {K : Fg} {S H : Hp} (e : Same S H) : ∀ (d : D) (v : V), isPure d = true → Rp K S v d → Dp K H v (toPy d)
  | .non, _, _, h => by cases h; exact .non
  | .bl b, _, _, h => by cases h; exact .bl b
  | .int i, _, _, h => by cases h; exact .int i
  | .str x, _, _, h => by cases h; exact .str x
  | .ty n, _, p, h => by simp [isPure] at p
  | .set f n, _, p, h => by simp [isPure] at p
  | .dic ks ds, _, p, h => by simp [isPure] at p
  | .obj c fs ds, _, p, h => by simp [isPure] at p
  | .ref a, _, p, h => by simp [isPure] at p
  | .lst ds, _, p, h => by cases h with | lst a b => exact .lst (.of (e _ _ a)) (RpA.dp e ds _ (by simpa [isPure] using p) b)
  | .tup ds, _, p, h => by cases h with | tup a b => exact .tup (same_seqT e a) (RpA.dp e ds _ (by simpa [isPure] using p) b)
theorem RpA.dp {K : Fg} {S H : Hp} (e : Same S H) : ∀ (ds : List D) (vs : List V), isPureA ds = true → RpA K S vs ds → DpAll K H vs (toPyA ds)
  | [], _, _, h => by cases h; exact .nil
  | d :: ds, _, p, h => by
    simp only [isPureA, Bool.and_eq_true] at p
    cases h with | cons a b => exact .cons (Rp.dp e d _ p.1 a) (RpA.dp e ds _ p.2 b)
end
theorem Rb.dp (e : Same S H) {v : V} {d : D} (p : isPure d = true) (h : Rb z.K S M H v d) : Dp z.K H v (toPy d) := by
  rcases h with h | ⟨a, xs, ds, rfl, rfl, h1, h2, _⟩
  · exact Rp.dp e d v p h
  · exact .lst (.of h1) (RpA.dp e ds xs (by simpa [isPure] using p) h2)
/-- may be compared: no address, nested at most 64 deep -/
def cmpOk (d : D) : Bool := isPure d && SeqAt.shaped (toPy d)
def deq (a b : D) : Bool := PyData.eqv (toPy a) (toPy b)
def dEq : OD := fun a b Q => (cmpOk a = true ∧ cmpOk b = true) ∧ Q (.va (.bl (deq a b)))
def dNe : OD := fun a b Q => (cmpOk a = true ∧ cmpOk b = true) ∧ Q (.va (.bl (!deq a b)))
theorem ob_eq (hu : X.A.units + 64 < cLine) (hK : X.K = z.K := by first | assumption | rfl) : OpB X z (compareOp .Eq) dEq :=
  opB_of (op_eqD hu) fun σ H S M ρ x y d1 d2 Q0 sim b1 b2 q => by
    obtain ⟨⟨p1, p2⟩, q⟩ := q
    unfold cmpOk at p1 p2
    rw [Bool.and_eq_true] at p1 p2
    exact ⟨_, _, by rw [hK]; exact b1.dp sim.sub p1.1, by rw [hK]; exact b2.dp sim.sub p2.1, p1.2, p2.2, poE_va sim (.bl _) q⟩
theorem ob_ne (hu : X.A.units + 64 < cLine) (hK : X.K = z.K := by first | assumption | rfl) : OpB X z (compareOp .NotEq) dNe :=
  opB_of (op_neD hu) fun σ H S M ρ x y d1 d2 Q0 sim b1 b2 q => by
    obtain ⟨⟨p1, p2⟩, q⟩ := q
    unfold cmpOk at p1 p2
    rw [Bool.and_eq_true] at p1 p2
    exact ⟨_, _, by rw [hK]; exact b1.dp sim.sub p1.1, by rw [hK]; exact b2.dp sim.sub p2.1, p1.2, p2.2, poE_va sim (.bl _) q⟩
/-- == of ints alone -/
abbrev dEqI : OD := dI2 CT fun i j => .bl (decide (i = j))
abbrev dNeI : OD := dI2 CT fun i j => .bl (!decide (i = j))
def isNon : D → Bool
  | .non => true
  | _ => false
theorem Rb.isNon {v : V} {d : D} (h : Rb z.K S M H v d) : decide (v = .non) = PL.isNon d := by
  rcases h with h | ⟨_, _, _, rfl, rfl, _⟩
  · cases h <;> rfl
  · rfl
/-- is None -/
def dIsN : OD := fun a b Q => match b with
  | .non => Q (.va (.bl (isNon a)))
  | _ => False
def dNotN : OD := fun a b Q => match b with
  | .non => Q (.va (.bl (!isNon a)))
  | _ => False
theorem ob_isN : OpB X z (compareOp .Is) dIsN := opB_of op_isN fun σ H S M ρ x y d1 d2 Q0 sim b1 b2 q => by
  unfold dIsN at q
  split at q
  · exact ⟨b2.non, by rw [b1.isNon]; exact poE_va sim (.bl _) q⟩
  · exact q.elim
theorem ob_notN : OpB X z (compareOp .IsNot) dNotN := opB_of op_notN fun σ H S M ρ x y d1 d2 Q0 sim b1 b2 q => by
  unfold dNotN at q
  split at q
  · exact ⟨b2.non, by rw [b1.isNon]; exact poE_va sim (.bl _) q⟩
  · exact q.elim

/-! ### in -/
def dIn (neg : Bool) : OD := fun a b Q => match b with
  | .lst ds => (cmpOk a = true ∧ cmpOk (.lst ds) = true) ∧ Q (.va (.bl (if neg then !(ds.any fun x => deq x a) else ds.any fun x => deq x a)))
  | .tup ds => (cmpOk a = true ∧ cmpOk (.tup ds) = true) ∧ Q (.va (.bl (if neg then !(ds.any fun x => deq x a) else ds.any fun x => deq x a)))
  | _ => False
theorem toPyA_any {p : PyData → Bool} : ∀ ds : List D, (toPyA ds).any p = ds.any fun x => p (toPy x)
  | [] => rfl
  | d :: ds => by rw [toPyA, List.any_cons, List.any_cons, toPyA_any ds]
theorem ob_in (hu : X.A.units + 65 < cLine) (hK : X.K = z.K := by first | assumption | rfl) : OpB X z (compareOp .In) (dIn false) := by
  intro pins s σ H S M ρ x y u w d1 d2 Q0 I sim b1 b2 r1 r2 q
  unfold dIn at q
  split at q
  · rename_i ds
    obtain ⟨⟨p1, p2⟩, q⟩ := q
    unfold cmpOk at p1 p2
    rw [Bool.and_eq_true] at p1 p2
    have k1 : Dp X.K H x (toPy d1) := by rw [hK]; exact b1.dp sim.sub p1.1
    have k2 : Dp X.K H y (toPy (.lst ds)) := by rw [hK]; exact b2.dp sim.sub p2.1
    obtain ⟨as, q1⟩ := Dp.reads I _ _ _ k1 r1
    obtain ⟨bs, q2⟩ := Dp.reads I _ _ _ k2 r2
    rw [toPy] at q2 p2
    refine SeqAt.in_list_reads q2 q1 (SeqAt.canLay_of_shaped p2.2) (SeqAt.canLay_of_shaped p1.2) (room_in_shaped p1.2 hu) ⟨.bl _, H, I, rfl, ?_⟩
    have e := toPyA_any (p := fun zz => PyData.eqv zz (toPy d1)) ds
    rw [e]
    exact poE_va sim (.bl _) q
  · rename_i ds
    obtain ⟨⟨p1, p2⟩, q⟩ := q
    unfold cmpOk at p1 p2
    rw [Bool.and_eq_true] at p1 p2
    have k1 : Dp X.K H x (toPy d1) := by rw [hK]; exact b1.dp sim.sub p1.1
    have k2 : Dp X.K H y (toPy (.tup ds)) := by rw [hK]; exact b2.dp sim.sub p2.1
    obtain ⟨as, q1⟩ := Dp.reads I _ _ _ k1 r1
    obtain ⟨bs, q2⟩ := Dp.reads I _ _ _ k2 r2
    rw [toPy] at q2 p2
    refine SeqAt.in_tuple_reads q2 q1 (SeqAt.canLay_of_shaped p2.2) (SeqAt.canLay_of_shaped p1.2) (room_in_shaped p1.2 hu) ⟨.bl _, H, I, rfl, ?_⟩
    have e := toPyA_any (p := fun zz => PyData.eqv zz (toPy d1)) ds
    rw [e]
    exact poE_va sim (.bl _) q
  · exact q.elim
theorem ob_notIn (hu : X.A.units + 65 < cLine) (hK : X.K = z.K := by first | assumption | rfl) : OpB X z (compareOp .NotIn) (dIn true) := by
  intro pins s σ H S M ρ x y u w d1 d2 Q0 I sim b1 b2 r1 r2 q
  unfold dIn at q
  split at q
  · rename_i ds
    obtain ⟨⟨p1, p2⟩, q⟩ := q
    unfold cmpOk at p1 p2
    rw [Bool.and_eq_true] at p1 p2
    have k1 : Dp X.K H x (toPy d1) := by rw [hK]; exact b1.dp sim.sub p1.1
    have k2 : Dp X.K H y (toPy (.lst ds)) := by rw [hK]; exact b2.dp sim.sub p2.1
    obtain ⟨as, q1⟩ := Dp.reads I _ _ _ k1 r1
    obtain ⟨bs, q2⟩ := Dp.reads I _ _ _ k2 r2
    rw [toPy] at q2 p2
    refine SeqAt.notIn_list_reads q2 q1 (SeqAt.canLay_of_shaped p2.2) (SeqAt.canLay_of_shaped p1.2) (room_in_shaped p1.2 hu) ⟨.bl _, H, I, rfl, ?_⟩
    have e := toPyA_any (p := fun zz => PyData.eqv zz (toPy d1)) ds
    rw [e]
    exact poE_va sim (.bl _) q
  · rename_i ds
    obtain ⟨⟨p1, p2⟩, q⟩ := q
    unfold cmpOk at p1 p2
    rw [Bool.and_eq_true] at p1 p2
    have k1 : Dp X.K H x (toPy d1) := by rw [hK]; exact b1.dp sim.sub p1.1
    have k2 : Dp X.K H y (toPy (.tup ds)) := by rw [hK]; exact b2.dp sim.sub p2.1
    obtain ⟨as, q1⟩ := Dp.reads I _ _ _ k1 r1
    obtain ⟨bs, q2⟩ := Dp.reads I _ _ _ k2 r2
    rw [toPy] at q2 p2
    refine SeqAt.notIn_tuple_reads q2 q1 (SeqAt.canLay_of_shaped p2.2) (SeqAt.canLay_of_shaped p1.2) (room_in_shaped p1.2 hu) ⟨.bl _, H, I, rfl, ?_⟩
    have e := toPyA_any (p := fun zz => PyData.eqv zz (toPy d1)) ds
    rw [e]
    exact poE_va sim (.bl _) q
  · exact q.elim
end
end PL
namespace PL
open PySem PySem.Spec PyProof.Rows L2

/-! ### items, slices -/
def dIx : OD := fun a b Q => match a, b with
  | .lst ds, .int i => (match atI ds i with | some d => Q (.va d) | none => False)
  | .tup ds, .int i => (match atI ds i with | some d => Q (.va d) | none => False)
  | .str x, .int i => x.length ≤ 16777216 ∧ (match atI x.cps.toList i with | some c => Q (.va (.str ⟨#[c]⟩)) | none => False)
  | _, _ => False
section
variable {X : Cx} {z : Z} {S : Hp} {M : Mu} {H : Hp} {a b e : Expr} {pos : Pos} {qa qb : QB}
theorem atI_rp {K : Fg} {xs : List V} {ds : List D} {i : Int} {d : D} (r : RpA K S xs ds) (h : atI ds i = some d) : ∃ v, atI xs i = some v ∧ Rp K S v d := by
  unfold atI at h ⊢
  rw [r.length]
  cases e : ixN ds.length i with
  | none => rw [e] at h; cases h
  | some j =>
    rw [e] at h
    exact r.get (show ds[j]? = some d from h)
theorem qe_ix (ha : PE X a (liB z qa)) (hb : PE X b (liB z qb)) (hs : PlainIx b := by exact fun _ _ => rfl) (hK : X.K = z.K := by first | assumption | rfl) : PE X (.Subscript a b pos) (liE z (eBin dIx qa qb)) := by
  refine ⟨fun pins s σ H Q I h => ?_⟩
  refine Subscript_ (binT ha hb I (bin_lift h) fun v u s2 x y H2 I2 rx ry ⟨S, M, ρ, d1, d2, Q0, sim, b1, b2, o, post⟩ => ?_)
  refine thn (ix_seq a b pins s2 σ H2 x y v u (PoE z S M σ H2 fun r ρ' M' => ρ' = ρ ∧ M' = M ∧ Q0 r) I2 rx ry ?_ (hs _ _)) fun w s3 ⟨y, H3, I3, r3, p3⟩ => ⟨y, H3, I3, r3, post _ _ p3⟩
  unfold dIx at o
  split at o
  · split at o
    · rename_i e
      obtain ⟨p, xs, e1, h1, k1⟩ := b1.lst sim.sub
      obtain ⟨v, e2, rv⟩ := atI_rp k1 e
      exact .inl ⟨p, xs, _, v, e1, b2.int, .of h1, e2, poE_va sim rv o⟩
    · exact o.elim
  · split at o
    · rename_i e
      obtain ⟨p, xs, e1, h1, k1⟩ := b1.tup
      obtain ⟨v, e2, rv⟩ := atI_rp k1 e
      exact .inr (.inl ⟨p, xs, _, v, e1, b2.int, by rw [hK]; exact same_seqT sim.sub h1, e2, poE_va sim rv o⟩)
    · exact o.elim
  · obtain ⟨hl, o⟩ := o
    split at o
    · rename_i e
      exact .inr (.inr ⟨_, _, _, b1.str, b2.int, line_eq hl, e, poE_va sim (.str _) o⟩)
    · exact o.elim
  · exact o.elim

abbrev QO := Ev → Mu → (Option Int → Ev → Mu → Prop) → Prop
def oNone : QO := fun ρ M Q => Q none ρ M
def oSome (q : QB) : QO := fun ρ M Q => q ρ M fun d ρ' M' => match d with | .int i => Q (some i) ρ' M' | _ => False
def liO (z : Z) (q : QO) : TO := fun σ H Q => ∃ S M ρ Q0, Sim z S M ρ σ H ∧ q ρ M Q0 ∧ ∀ o H', (∃ ρ' M' S', Q0 o ρ' M' ∧ Step S M H S' M' H' ∧ Sim z S' M' ρ' σ H') → Q o H'
theorem po_w {X : Cx} {e : Option Expr} {t t' : TO} (h : PO X e t) (w : ∀ σ H Q, t' σ H Q → t σ H Q) : PO X e t' := ⟨fun pins s σ H Q I hq => h.run pins s σ H Q I (w σ H Q hq)⟩
theorem qo_none : PO X none (liO z oNone) := po_w po_none fun σ H Q ⟨S, M, ρ, Q0, sim, h, post⟩ => post none H ⟨ρ, M, S, h, .refl, sim⟩
theorem qo_some (h : PE X e (liB z qa)) : PO X (some e) (liO z (oSome qa)) := po_w (po_some h) fun σ H Q ⟨S, M, ρ, Q0, sim, h, post⟩ =>
  ⟨S, M, ρ, _, sim, h, fun v H' ⟨d, ρ', M', S', q, st, sim', rb⟩ => by
    dsimp only at q
    split at q
    · exact ⟨_, rb.int, post _ H' ⟨ρ', M', S', q, st, sim'⟩⟩
    · exact q.elim⟩
/-- the items of xs[lo:hi] -/
def cutL {α : Type} (xs : List α) (lo hi : Option Int) : List α := (xs.drop (HT.sIx xs.length 0 lo)).take (HT.sIx xs.length xs.length hi - HT.sIx xs.length 0 lo)
theorem cutL_rp {K : Fg} {xs : List V} {ds : List D} {lo hi : Option Int} (r : RpA K S xs ds) : RpA K S (cutV xs lo hi) (cutL ds lo hi) := by
  unfold cutV cutL
  rw [r.length]
  exact (r.drop _).take _
def eSl (qa : QB) (ql qh : QO) : QE := fun ρ M Q => qa ρ M fun d ρ1 M1 => ql ρ1 M1 fun lo ρ2 M2 => qh ρ2 M2 fun hi ρ3 M3 => match d with
  | .lst ds => Q (.ow (.lst (cutL ds lo hi))) ρ3 M3
  | .tup ds => Q (.va (.tup (cutL ds lo hi))) ρ3 M3
  | .str x => x.length ≤ 16777216 ∧ Q (.va (.str (cutS x lo hi))) ρ3 M3
  | _ => False
theorem cutL_whole {α : Type} {xs : List α} {lo hi : Option Int} (h : HT.sIx xs.length 0 lo = 0 ∧ HT.sIx xs.length xs.length hi = xs.length) : cutL xs lo hi = xs := by
  unfold cutL
  rw [h.1, h.2]
  simp
theorem qe_slice {lo hi : Option Expr} {ql qh : QO} {p2 : Pos} (ha : PE X a (liB z qa)) (hl : PO X lo (liO z ql)) (hu : PO X hi (liO z qh)) (hK : X.K = z.K := by first | assumption | rfl) : PE X (.Subscript a (.Slice lo hi none p2) pos) (liE z (eSl qa ql qh)) := by
  have hr : SlR X (fun x l h H Q => rSlL X.K x l h H Q ∨ rSlA X.K x l h H Q ∨ rSlS x l h H Q) := sl_list.or (sl_tupA.or sl_str)
  refine pe_w (pe_slice hr ha hl hu) fun σ H Q ⟨S, M, ρ, Q0, sim, h, post⟩ => ⟨S, M, ρ, _, sim, h, fun v H1 ⟨d, ρ1, M1, S1, q1, st1, sim1, rb⟩ => ⟨S1, M1, ρ1, _, sim1, q1, fun l H2 ⟨ρ2, M2, S2, q2, st2, sim2⟩ => ⟨S2, M2, ρ2, _, sim2, q2, fun u H3 ⟨ρ3, M3, S3, q3, st3, sim3⟩ => ?_⟩⟩⟩
  have rb3 := (rb.step st2).step st3
  have st := (st1.trans st2).trans st3
  have fin : ∀ {v : V} {H' : Hp} {r0 : Sl}, Q0 r0 ρ3 M3 → PoE z S3 M3 σ H3 (fun r ρ' M' => ρ' = ρ3 ∧ M' = M3 ∧ r = r0) v H' → Q v H' := fun {v H' r0} q ⟨r, ρ4, M4, S4, ⟨e1, e2, e3⟩, st4, sim4, res4⟩ => by
    subst e1 e2 e3
    exact post v H' ⟨_, _, _, S4, q, st.trans st4, sim4, res4⟩
  split at q3
  · obtain ⟨p, xs, e1, h1, k1⟩ := rb3.lst sim3.sub
    exact .inl ⟨p, xs, e1, .of h1, fun p' hp => fin q3 (poE_ow sim3 hp (cutL_rp k1) rfl)⟩
  · obtain ⟨p, xs, e1, h1, k1⟩ := rb3.tup
    refine .inr (.inl ⟨p, xs, e1, by rw [hK]; exact same_seqT sim3.sub h1, fun w => ?_, fun w p' hp => fin q3 (poE_tup sim3 hp (cutL_rp k1) rfl)⟩)
    rw [k1.length] at w
    rw [cutL_whole w] at q3
    exact fin q3 (poE_va sim3 (.tup h1 k1) rfl)
  · exact .inr (.inr ⟨_, rb3.str, line_eq q3.1, fin q3.2 (poE_va sim3 (.str _) rfl)⟩)
  · exact q3.elim
theorem cutL_from {α : Type} (xs : List α) (k : Nat) : cutL xs (some (k : Int)) none = xs.drop k := by
  unfold cutL
  rw [HT.sIx_nat, HT.sIx_none]
  by_cases h : k ≤ xs.length
  · rw [Nat.min_eq_left h, ← List.length_drop, List.take_length]
  · rw [Nat.min_eq_right (by omega)]
    rw [List.drop_of_length_le (by omega : xs.length ≤ xs.length), List.drop_of_length_le (by omega : xs.length ≤ k)]
    simp
theorem cutL_upto {α : Type} (xs : List α) (k : Nat) : cutL xs none (some (k : Int)) = xs.take k := by
  unfold cutL
  rw [HT.sIx_nat, HT.sIx_none]
  simp only [List.drop_zero, Nat.sub_zero]
  by_cases h : k ≤ xs.length
  · rw [Nat.min_eq_left h]
  · rw [Nat.min_eq_right (by omega), List.take_of_length_le (Nat.le_refl _), List.take_of_length_le (by omega)]

/-! ### built-in functions -/
abbrev CD := List D → (Sl → Prop) → Prop
def CallB (X : Cx) (z : Z) (f : Value) (cd : CD) : Prop :=
  ∀ (pins : List (Addr × Obj)) (s : Shared) (σ : St) (H S : Hp) (M : Mu) (ρ : Ev) (xs : List V) (us : List Value) (ds : List D) (Q0 : Sl → Prop), Inv X pins σ H s → Sim z S M ρ σ H → RbA z.K S M H xs ds → Vals xs us → cd ds Q0 →
    wpAny (model X.prog X.w) X.A (call f us) (EP X pins σ (PoE z S M σ H fun r ρ' M' => ρ' = ρ ∧ M' = M ∧ Q0 r)) X.xe s
def eB (cd : CD) (qr : QA) : QE := fun ρ M Q => qr ρ M fun ds ρ1 M1 => cd ds fun r => Q r ρ1 M1
variable {x : Str} {p : Pos} {es : List Expr} {qr : QA} {cd : CD} {bid T : String}
theorem callB_lift {σ : St} {Q : VK} (h : liE z (eB cd qr) σ H Q) : liAB z qr σ H fun vs H1 => ∃ S M ρ ds Q0, Sim z S M ρ σ H1 ∧ RbA z.K S M H1 vs ds ∧ cd ds Q0 ∧ ∀ v H', PoE z S M σ H1 (fun r ρ' M' => ρ' = ρ ∧ M' = M ∧ Q0 r) v H' → Q v H' := by
  obtain ⟨S, M, ρ, Q0, sim, h, post⟩ := h
  refine ⟨S, M, ρ, _, sim, h, fun vs H1 ⟨ds, ρ1, M1, S1, q1, st1, sim1, rb⟩ => ⟨S1, M1, ρ1, ds, _, sim1, rb, q1, fun v H' ⟨r, ρ', M', S', ⟨e1, e2, q⟩, st, sim', res⟩ => post v H' ⟨r, ρ', M', S', ?_, st1.trans st, sim', res⟩⟩⟩
  subst e1 e2
  exact q
theorem qe_callB (hc : CallB X z (.builtin bid) cd) (hg : Gl X x) (hm : X.mg x = none) (hv : bootBuiltins x = some (.builtin bid)) (ha : PA X (e :: es) (liAB z qr)) (hn : x ≠ "__name__" := by decide) (hdb : (x == ("__debug__" : Str)) = false := by decide)
    (he : starEach (e :: es) X.env = (false, eval e X.env) :: starEach es X.env := by rfl) (hpl : (backTo pos (starEach es X.env)).any (·.1) = false := by rfl) : PE X (.Call (.Name x p) (e :: es) [] pos) (liE z (eB cd qr)) := by
  refine ⟨fun pins s σ H Q I h => ?_⟩
  refine wpAny_Call_Name_kw (ld_blt I hg hm hv ?_ hn hdb)
  refine PyProof.Rows.callWith_builtin1 (thn (ha.run pos pins s σ H _ I (callB_lift h)) fun us s1 ⟨vs, H1, I1, r1, ⟨S, M, ρ, ds, Q0, sim, rb, c, post⟩⟩ => ?_) he hpl
  exact thn (hc pins s1 σ H1 S M ρ vs us ds Q0 I1 sim rb r1 c) fun w s3 ⟨y, H3, I3, r3, p3⟩ => ⟨y, H3, I3, r3, post _ _ p3⟩
theorem qe_callTy (hc : CallB X z (.type T) cd) (hg : Gl X x) (hm : X.mg x = none) (hv : bootBuiltins x = some (.type T)) (ha : PA X (e :: es) (liAB z qr)) (hn : x ≠ "__name__" := by decide) (hdb : (x == ("__debug__" : Str)) = false := by decide)
    (he : starEach (e :: es) X.env = (false, eval e X.env) :: starEach es X.env := by rfl) (hpl : (backTo pos (starEach es X.env)).any (·.1) = false := by rfl) : PE X (.Call (.Name x p) (e :: es) [] pos) (liE z (eB cd qr)) := by
  refine ⟨fun pins s σ H Q I h => ?_⟩
  refine wpAny_Call_Name_kw (ld_blt I hg hm hv ?_ hn hdb)
  refine PyProof.Rows.callWith_type1 (thn (ha.run pos pins s σ H _ I (callB_lift h)) fun us s1 ⟨vs, H1, I1, r1, ⟨S, M, ρ, ds, Q0, sim, rb, c, post⟩⟩ => ?_) he hpl
  exact thn (hc pins s1 σ H1 S M ρ vs us ds Q0 I1 sim rb r1 c) fun w s3 ⟨y, H3, I3, r3, p3⟩ => ⟨y, H3, I3, r3, post _ _ p3⟩
/-- a name that the module has imported: gcd, lcm -/
theorem qe_callF (hc : CallB X z (.builtin bid) cd) (hg : Gl X x) (hm : X.mg x = some (.builtin bid)) (ha : PA X (e :: es) (liAB z qr)) (hdb : (x == ("__debug__" : Str)) = false := by decide)
    (he : starEach (e :: es) X.env = (false, eval e X.env) :: starEach es X.env := by rfl) (hpl : (backTo pos (starEach es X.env)).any (·.1) = false := by rfl) : PE X (.Call (.Name x p) (e :: es) [] pos) (liE z (eB cd qr)) := by
  refine ⟨fun pins s σ H Q I h => ?_⟩
  refine wpAny_Call_Name_kw (ld_glob I hg hm ?_ hdb)
  refine PyProof.Rows.callWith_builtin1 (thn (ha.run pos pins s σ H _ I (callB_lift h)) fun us s1 ⟨vs, H1, I1, r1, ⟨S, M, ρ, ds, Q0, sim, rb, c, post⟩⟩ => ?_) he hpl
  exact thn (hc pins s1 σ H1 S M ρ vs us ds Q0 I1 sim rb r1 c) fun w s3 ⟨y, H3, I3, r3, p3⟩ => ⟨y, H3, I3, r3, post _ _ p3⟩
theorem callB_of {f : Value} {r : List V → Hp → VK → Prop} (h : CallR X f r)
    (k : ∀ (σ : St) (H S : Hp) (M : Mu) (ρ : Ev) (xs : List V) (ds : List D) (Q0 : Sl → Prop), Sim z S M ρ σ H → RbA z.K S M H xs ds → cd ds Q0 → r xs H (PoE z S M σ H fun r ρ' M' => ρ' = ρ ∧ M' = M ∧ Q0 r)) : CallB X z f cd :=
  fun pins s σ H S M ρ xs us ds Q0 I sim rb rv q => h pins s σ H xs us _ I rv (k σ H S M ρ xs ds Q0 sim rb q)
/-- len -/
def cLen : CD := fun ds Q => match ds with
  | [.lst xs] => Q (.va (.int xs.length))
  | [.tup xs] => Q (.va (.int xs.length))
  | [.str x] => x.length ≤ 16777216 ∧ Q (.va (.int x.length))
  | _ => False
theorem cb_len (hK : X.K = z.K := by first | assumption | rfl) : CallB X z (.builtin "len") cLen := callB_of call_len fun σ H S M ρ xs ds Q0 sim rb q => by
  unfold cLen at q
  split at q
  · cases rb with
    | cons r1 rr =>
      cases rr
      obtain ⟨a, xs, rfl, h1, k1⟩ := r1.lst sim.sub
      exact ⟨_, xs.length, rfl, .inl ⟨xs, .of h1, rfl⟩, by rw [k1.length]; exact poE_va sim (.int _) q⟩
  · cases rb with
    | cons r1 rr =>
      cases rr
      obtain ⟨a, xs, rfl, h1, k1⟩ := r1.tup
      exact ⟨_, xs.length, rfl, .inr ⟨xs, by rw [hK]; exact same_seqT sim.sub h1, rfl⟩, by rw [k1.length]; exact poE_va sim (.int _) q⟩
  · cases rb with
    | cons r1 rr =>
      cases rr
      obtain rfl := r1.str
      exact ⟨_, _, rfl, ⟨line_eq q.1, rfl⟩, poE_va sim (.int _) q.2⟩
  · exact q.elim
/-- int -/
def cInt : CD := fun ds Q => match ds with
  | [.int i] => Q (.va (.int i))
  | [.bl b] => Q (.va (.int (if b then 1 else 0)))
  | _ => False
theorem cb_int : CallB X z (.type "int") cInt := callB_of call_int1 fun σ H S M ρ xs ds Q0 sim rb q => by
  unfold cInt at q
  split at q
  · cases rb with | cons r1 rr => cases rr; exact .inl ⟨_, by rw [r1.int], poE_va sim (.int _) q⟩
  · cases rb with | cons r1 rr => cases rr; exact .inr ⟨_, by rw [r1.bl], poE_va sim (.int _) q⟩
  · exact q.elim
def cAbs : CD := fun ds Q => match ds with
  | [.int i] => Q (.va (.int (if i < 0 then -i else i)))
  | _ => False
def cMax2 : CD := fun ds Q => match ds with
  | [.int i, .int j] => Q (.va (.int (if j > i then j else i)))
  | _ => False
theorem cb_max2 (hc : X.calm = true) : CallB X z (.builtin "max") cMax2 := callB_of (call_max2 hc) fun σ H S M ρ xs ds Q0 sim rb q => by
  unfold cMax2 at q
  split at q
  · cases rb with | cons r1 rr => cases rr with | cons r2 rr => cases rr; exact ⟨_, _, by rw [r1.int, r2.int], poE_va sim (.int _) q⟩
  · exact q.elim
def cMin2 : CD := fun ds Q => match ds with
  | [.int i, .int j] => Q (.va (.int (if j < i then j else i)))
  | _ => False
/-- divmod -/
def cDivmod : CD := fun ds Q => match ds with
  | [.int i, .int j] => CDivS i j ∧ Q (.va (.tup [.int (i / j), .int (i % j)]))
  | _ => False
/-- list, tuple of a list or a tuple -/
def cList : CD := fun ds Q => match ds with
  | [.lst xs] => Q (.ow (.lst xs))
  | [.tup xs] => Q (.ow (.lst xs))
  | _ => False
theorem cb_list (hK : X.K = z.K := by first | assumption | rfl) : CallB X z (.type "list") cList := callB_of call_list_of fun σ H S M ρ xs ds Q0 sim rb q => by
  unfold cList at q
  split at q
  · cases rb with
    | cons r1 rr =>
      cases rr
      obtain ⟨a, xs, rfl, h1, k1⟩ := r1.lst sim.sub
      exact ⟨a, xs, rfl, .inl (.of h1), fun p hp => poE_ow sim hp k1 q⟩
  · cases rb with
    | cons r1 rr =>
      cases rr
      obtain ⟨a, xs, rfl, h1, k1⟩ := r1.tup
      exact ⟨a, xs, rfl, .inr (by rw [hK]; exact same_seqT sim.sub h1), fun p hp => poE_ow sim hp k1 q⟩
  · exact q.elim
def cTuple : CD := fun ds Q => match ds with
  | [.lst xs] => Q (.va (.tup xs))
  | [.tup xs] => Q (.va (.tup xs))
  | _ => False
theorem cb_tuple (hK : X.K = z.K := by first | assumption | rfl) : CallB X z (.type "tuple") cTuple := callB_of call_tuple_of fun σ H S M ρ xs ds Q0 sim rb q => by
  unfold cTuple at q
  split at q
  · cases rb with
    | cons r1 rr =>
      cases rr
      obtain ⟨a, xs, rfl, h1, k1⟩ := r1.lst sim.sub
      exact ⟨a, xs, rfl, .inl ⟨.of h1, fun p hp => poE_tup sim hp k1 q⟩⟩
  · cases rb with
    | cons r1 rr =>
      cases rr
      obtain ⟨a, xs, rfl, h1, k1⟩ := r1.tup
      exact ⟨a, xs, rfl, .inr ⟨by rw [hK]; exact same_seqT sim.sub h1, poE_va sim (.tup h1 k1) q⟩⟩
  · exact q.elim
/-- lists of intsOf, of boolsOf -/
def intsOf : List D → Option (List Int)
  | [] => some []
  | .int i :: r => (intsOf r).map (i :: ·)
  | _ => none
theorem intsOf_eq : ∀ {ds : List D} {ns : List Int}, intsOf ds = some ns → ds = ns.map D.int
  | [], ns, h => by rw [intsOf] at h; cases h; rfl
  | .int i :: r, ns, h => by
    rw [intsOf] at h
    cases e : intsOf r with
    | none => rw [e] at h; cases h
    | some ms => rw [e] at h; cases h; rw [intsOf_eq e]; rfl
  | .non :: _, _, h => by cases h
  | .bl _ :: _, _, h => by cases h
  | .str _ :: _, _, h => by cases h
  | .tup _ :: _, _, h => by cases h
  | .lst _ :: _, _, h => by cases h
  | .ref _ :: _, _, h => by cases h
  | .ty _ :: _, _, h => by cases h
  | .set _ _ :: _, _, h => by cases h
  | .dic _ _ :: _, _, h => by cases h
  | .obj _ _ _ :: _, _, h => by cases h
def boolsOf : List D → Option (List Bool)
  | [] => some []
  | .bl i :: r => (boolsOf r).map (i :: ·)
  | _ => none
theorem boolsOf_eq : ∀ {ds : List D} {ns : List Bool}, boolsOf ds = some ns → ds = ns.map D.bl
  | [], ns, h => by rw [boolsOf] at h; cases h; rfl
  | .bl i :: r, ns, h => by
    rw [boolsOf] at h
    cases e : boolsOf r with
    | none => rw [e] at h; cases h
    | some ms => rw [e] at h; cases h; rw [boolsOf_eq e]; rfl
  | .non :: _, _, h => by cases h
  | .int _ :: _, _, h => by cases h
  | .str _ :: _, _, h => by cases h
  | .tup _ :: _, _, h => by cases h
  | .lst _ :: _, _, h => by cases h
  | .ref _ :: _, _, h => by cases h
  | .ty _ :: _, _, h => by cases h
  | .set _ _ :: _, _, h => by cases h
  | .dic _ _ :: _, _, h => by cases h
  | .obj _ _ _ :: _, _, h => by cases h
def cSum : CD := fun ds Q => match ds with
  | [.lst xs] => (match intsOf xs with | some ns => Q (.va (.int ns.sum)) | none => False)
  | _ => False
def cMax : CD := fun ds Q => match ds with
  | [.lst xs] => (match intsOf xs with | some ns => 0 < ns.length ∧ ∀ m, m ∈ ns → (∀ y, y ∈ ns → y ≤ m) → Q (.va (.int m)) | none => False)
  | _ => False
def cMin : CD := fun ds Q => match ds with
  | [.lst xs] => (match intsOf xs with | some ns => 0 < ns.length ∧ ∀ m, m ∈ ns → (∀ y, y ∈ ns → m ≤ y) → Q (.va (.int m)) | none => False)
  | _ => False
theorem cb_min (hc : X.calm = true) : CallB X z (.builtin "min") cMin := callB_of (cr_min hc) fun σ H S M ρ xs ds Q0 sim rb q => by
  unfold cMin at q
  split at q
  · split at q
    · rename_i e
      cases rb with
      | cons r1 rr =>
        cases rr
        obtain ⟨a, xs, rfl, h1, k1⟩ := r1.lst sim.sub
        rw [intsOf_eq e] at k1
        rw [k1.intsV] at h1
        exact ⟨a, _, rfl, .of h1, q.1, fun m hm hl => poE_va sim (.int _) (q.2 m hm hl)⟩
    · exact q.elim
  · exact q.elim
def cAll : CD := fun ds Q => match ds with
  | [.lst xs] => (match boolsOf xs with | some bs => Q (.va (.bl (bs.all id))) | none => False)
  | _ => False
theorem cb_all (hc : X.calm = true) : CallB X z (.builtin "all") cAll := callB_of (cr_all hc) fun σ H S M ρ xs ds Q0 sim rb q => by
  unfold cAll at q
  split at q
  · split at q
    · rename_i e
      cases rb with
      | cons r1 rr =>
        cases rr
        obtain ⟨a, xs, rfl, h1, k1⟩ := r1.lst sim.sub
        rw [boolsOf_eq e] at k1
        rw [k1.blsV] at h1
        exact ⟨a, _, rfl, .of h1, poE_va sim (.bl _) q⟩
    · exact q.elim
  · exact q.elim
def cAny : CD := fun ds Q => match ds with
  | [.lst xs] => (match boolsOf xs with | some bs => Q (.va (.bl (bs.any id))) | none => False)
  | _ => False
/-- sorted of intsOf -/
def cSorted : CD := fun ds Q => match ds with
  | [.lst xs] => (match intsOf xs with | some ns => ∀ ms : List Int, ms.Perm ns → ms.Pairwise (· ≤ ·) → Q (.ow (.lst (ms.map D.int))) | none => False)
  | _ => False
theorem cb_sorted : CallB X z (.builtin "sorted") cSorted := callB_of cr_sortedI fun σ H S M ρ xs ds Q0 sim rb q => by
  unfold cSorted at q
  split at q
  · split at q
    · rename_i e
      cases rb with
      | cons r1 rr =>
        cases rr
        obtain ⟨a, xs, rfl, h1, k1⟩ := r1.lst sim.sub
        rw [intsOf_eq e] at k1
        rw [k1.intsV] at h1
        exact ⟨a, _, rfl, .of h1, fun ms p hp hs hn => poE_ow sim hn .ints (q ms hp hs)⟩
    · exact q.elim
  · exact q.elim
/-- gcd, lcm -/
def cGcd : CD := fun ds Q => match ds with
  | [.int i, .int j] => Q (.va (.int ((Nat.gcd i.natAbs j.natAbs : Nat) : Int)))
  | _ => False
theorem cb_gcd : CallB X z (.builtin "math.gcd") cGcd := callB_of cr_gcd fun σ H S M ρ xs ds Q0 sim rb q => by
  unfold cGcd at q
  split at q
  · cases rb with | cons r1 rr => cases rr with | cons r2 rr => cases rr; exact ⟨_, _, by rw [r1.int, r2.int], poE_va sim (.int _) q⟩
  · exact q.elim
theorem lcm_log {a b : Nat} (ha : a < 2 ^ 64) (hb : b < 2 ^ 64) : (Nat.lcm a b).log2 < bitsLine := by
  have h1 : Nat.lcm a b ≤ a * b := Nat.div_le_self _ _
  have h2 : a * b < 2 ^ 128 := by
    have : a * b ≤ (2 ^ 64 - 1) * (2 ^ 64 - 1) := Nat.mul_le_mul (by omega) (by omega)
    have e : (2 ^ 64 - 1) * (2 ^ 64 - 1) < (2 : Nat) ^ 128 := by decide
    omega
  have e : bitsLine = 134217728 := by decide
  by_cases h0 : Nat.lcm a b = 0
  · rw [h0, e, Nat.log2_zero]; decide
  · have h3 : (Nat.lcm a b).log2 < 128 := (Nat.log2_lt h0).mpr (by omega)
    rw [e]
    omega
def cLcm : CD := fun ds Q => match ds with
  | [.int i, .int j] => (-1000000000000000000 < i ∧ i < 1000000000000000000 ∧ -1000000000000000000 < j ∧ j < 1000000000000000000) ∧ Q (.va (.int ((Nat.lcm i.natAbs j.natAbs : Nat) : Int)))
  | _ => False
theorem cb_lcm : CallB X z (.builtin "math.lcm") cLcm := by
  intro pins s σ H S M ρ xs us ds Q0 I sim rb rv q
  unfold cLcm at q
  split at q
  · cases rb with
    | cons r1 rr =>
      cases rr with
      | cons r2 rr =>
        cases rr
        rw [r1.int, r2.int] at rv
        obtain ⟨t, u, rfl⟩ := Vals.int2 rv
        obtain ⟨⟨h1, h2, h3, h4⟩, q⟩ := q
        have e64 : (2 : Nat) ^ 64 = 18446744073709551616 := by decide
        refine PySem.W.mg_lcm (by rw [e64]; omega) (by rw [e64]; omega) ?_ ?_
        · rw [Nat.lcm_one_left]
          rw [Int.natAbs_natCast]
          exact lcm_log (by rw [e64]; omega) (by rw [e64]; omega)
        · rw [Nat.lcm_one_left]
          exact ⟨.int _, H, I.tok _, ⟨_, rfl⟩, poE_va sim (.int _) q⟩
  · exact q.elim
/-- list(range(a, b)) -/
def eRange (qa qb : QB) : QE := fun ρ M Q => qa ρ M fun d1 ρ1 M1 => qb ρ1 M1 fun d2 ρ2 M2 => match d1, d2 with
  | .int i, .int j => (-4611686018427387904 ≤ i ∧ i < 4611686018427387904 ∧ -4611686018427387904 ≤ j ∧ j < 4611686018427387904 ∧ j - i ≤ 16777216) ∧ Q (.ow (.lst (rangeL i j))) ρ2 M2
  | _, _ => False
theorem rgV_rp {K : Fg} {i j : Int} : RpA K S (rgV i j) (rangeL i j) := by
  have e1 : rgV i j = ((List.range (j - i).toNat).map fun (k : Nat) => i + (k : Int)).map V.int := by
    unfold rgV; rw [List.map_map]; rfl
  have e2 : rangeL i j = ((List.range (j - i).toNat).map fun (k : Nat) => i + (k : Int)).map D.int := by
    unfold rangeL; rw [List.map_map]; rfl
  rw [e1, e2]
  exact .ints
theorem qe_listRange2 {p1 p2 pos1 : Pos} (hc : X.calm = true) (hg : Gl X "list") (hm : X.mg "list" = none) (hg2 : Gl X "range") (hm2 : X.mg "range" = none) (ha : PE X a (liB z qa)) (hb : PE X b (liB z qb))
    (na : starEach [a, b] X.env = (false, eval a X.env) :: starEach [b] X.env := by rfl) (nb : starEach [b] X.env = (false, eval b X.env) :: starEach [] X.env := by rfl) (hp : (backTo pos1 (starEach [b] X.env)).any (·.1) = false := by rfl)
    (nc : starEach [.Call (.Name "range" p2) [a, b] [] pos1] X.env = (false, eval (.Call (.Name "range" p2) [a, b] [] pos1) X.env) :: starEach [] X.env := by rfl) :
    PE X (.Call (.Name "list" p1) [.Call (.Name "range" p2) [a, b] [] pos1] [] pos) (liE z (eRange qa qb)) :=
  pe_w (pe_listRg hc hg hm (prg_2 hg2 hm2 ha hb na nb hp) nc) fun σ H Q ⟨S, M, ρ, Q0, sim, h, post⟩ => ⟨S, M, ρ, _, sim, h, fun x H1 ⟨d1, ρ1, M1, S1, q1, st1, sim1, b1⟩ => ⟨S1, M1, ρ1, _, sim1, q1, fun y H2 ⟨d2, ρ2, M2, S2, q2, st2, sim2, b2⟩ => by
    dsimp only at q2
    split at q2
    · obtain ⟨⟨h1, h2, h3, h4, h5⟩, q⟩ := q2
      refine ⟨_, _, (b1.step st2).int, b2.int, ⟨by rw [p62]; exact h1, by rw [p62]; exact h2, by rw [p62]; exact h3, by rw [p62]; exact h4, by omega⟩, fun p hp => ?_⟩
      obtain ⟨a1, a2, a3⟩ := sim2.fresh hp rgV_rp
      exact post _ _ ⟨_, ρ2, M2, S2, q, (st1.trans st2).trans a2, a1, a3⟩
    · exact q2.elim⟩⟩

/-! ### isinstance -/
def tyOf : D → Option String
  | .non => some "NoneType"
  | .bl _ => some "bool"
  | .int _ => some "int"
  | .str _ => some "str"
  | .lst _ => some "list"
  | .tup _ => some "tuple"
  | _ => none
def isInst (d : D) (n : String) : Option Bool := (tyOf d).bind fun t => kitB t n
def eIsi (qa : QB) (n : String) : QE := fun ρ M Q => qa ρ M fun d ρ1 M1 => match isInst d n with
  | some b => Q (.va (.bl b)) ρ1 M1
  | none => False
theorem Rb.tyx {v : V} {d : D} {n : String} (sim : Same S H) (h : Rb z.K S M H v d) (e : tyOf d = some n) : TyX z.K H v (.type n) := by
  cases d with
  | non => rw [h.non]; cases e; exact .base .non
  | bl b => rw [h.bl]; cases e; exact .base (.bl b)
  | int i => rw [h.int]; cases e; exact .base (.int i)
  | str x => rw [h.str]; cases e; exact .base (.str x)
  | lst ds => obtain ⟨a, xs, rfl, h1, _⟩ := h.lst sim; cases e; exact .base (.lst h1)
  | tup ds =>
    obtain ⟨a, xs, rfl, h1, _⟩ := h.tup
    cases e
    rcases same_seqT sim h1 with (h | ⟨o, h⟩) | ⟨o, its, n, hk, hc, _⟩
    · exact .base (.tup h)
    · exact .fTuple h
    · exact .kTuple hk hc
  | ref a => cases e
  | ty n => cases e
  | set f n => cases e
  | dic ks ds => cases e
  | obj c fs ds => cases e
theorem qe_isi {n : Str} {N : String} {p3 : Pos} (hg : Gl X "isinstance") (hm : X.mg "isinstance" = none) (hg2 : Gl X n) (hm2 : X.mg n = none) (hv2 : bootBuiltins n = some (.type N)) (ha : PE X e (liB z qa)) (hK : X.K = z.K := by first | assumption | rfl) (hn : n ≠ "__name__" := by decide) (hd : (n == ("__debug__" : Str)) = false := by decide)
    (he : starEach [e, .Name n p3] X.env = (false, eval e X.env) :: starEach [.Name n p3] X.env := by rfl) (he2 : starEach [.Name n p3] X.env = (false, eval (.Name n p3) X.env) :: starEach [] X.env := by rfl) (hpl : (backTo pos (starEach [.Name n p3] X.env)).any (·.1) = false := by rfl) :
    PE X (.Call (.Name "isinstance" p) [e, .Name n p3] [] pos) (liE z (eIsi qa N)) := by
  have hn2 : PE X (.Name n p3) (tC (.ty N)) := pe_bltn hg2 hm2 hv2 rfl hn hd
  refine pe_w (pe_callB call_isi hg hm (by decide +kernel) (pa_cons ha (pa_cons hn2 pa_nil he2) he) (by decide) (by decide) he hpl) fun σ H Q ⟨S, M, ρ, Q0, sim, h, post⟩ => ⟨S, M, ρ, _, sim, h, fun v H1 ⟨d, ρ1, M1, S1, q1, st1, sim1, rb⟩ => ?_⟩
  replace q1 : (match isInst d N with | some b => Q0 (Sl.va (D.bl b)) ρ1 M1 | none => False) := q1
  split at q1
  · rename_i b eb
    unfold isInst at eb
    cases et : tyOf d with
    | none => rw [et] at eb; cases eb
    | some t =>
      rw [et] at eb
      exact ⟨v, .ty N, .type t, .type N, b, rfl, .ty N, by rw [hK]; exact rb.tyx sim1.sub et, kit_ty eb, post _ H1 ⟨_, ρ1, M1, S1, q1, st1, sim1, .bl b⟩⟩
  · exact q1.elim

/-! ### lists that are changed -/
def sApp (i : Nat) (q : QE) : QS := fun D ρ M => match ρ[i]? with
  | some (.ow (.lst _)) => q ρ M fun r ρ1 M1 => (match ρ1[i]? with
    | some (.ow (.lst ds)) => ds.length < 16777216 ∧ D.nx (ρ1.set i (.ow (.lst (ds ++ [r.val])))) M1
    | _ => False)
  | _ => False
variable {ea : QE}
theorem qs_append {i : Nat} {y : Str} {p1 apos cpos : Pos} (hN : X.N[i]? = some y) (hvis : Vis X.env.scope y) (he : PE X e (liE z ea)) (hd : (y == ("__debug__" : Str)) = false := by decide) (hcd : (y == ("__classdict__" : Str)) = false := by decide)
    (hbase : attributeBase (.Name y p1) "append" X.env (eval (.Name y p1) X.env) = eval (.Name y p1) X.env := by rfl)
    (hfew : ((backTo cpos (starEach [e] X.env)).all (fun x => !x.1) && (backToKw cpos (keywordEach [] X.env)).all (fun x => x.1.isSome) && decide ([e].length + ([] : List Keyword).length + (if ([] : List Keyword).isEmpty then 0 else 1) < 30)) = true := by rfl)
    (hline : (apos.endLine == cpos.line) = true := by rfl) (hst : starEach [e] X.env = (false, eval e X.env) :: starEach [] X.env := by rfl) (hplain : (backTo cpos (starEach [] X.env)).any (·.1) = false := by rfl)
    (hs : swapsWith (.Call (.Attribute (.Name y p1) "append" apos) [e] [] cpos) none pos.line X.env = pure false := by rfl) :
    PS X (.Expr (.Call (.Attribute (.Name y p1) "append" apos) [e] [] cpos) pos) (liS z (sApp i ea)) :=
  ps_w (ps_expr (pe_bm PySem.F.plainAttrs_list PySem.F.slot_list_append PySem.F.type_list_append mt_append (pe_var hN hvis hd hcd) (qa_cons he qa_nil hst) hbase hfew hline hst hplain) hs) fun D σ H ⟨S, M, ρ, D0, sim, h, nx, _⟩ => by
    unfold sApp at h
    split at h
    · rename_i ds0 e0
      obtain ⟨a, h1, _, _, ⟨xs0, h4, _⟩, _⟩ := sim.ow i _ e0
      have h' : aCons ea aNil ρ M (fun ds1 ρ1 M1 => match ds1 with
        | [d] => (match ρ1[i]? with | some (.ow (.lst ds)) => ds.length < 16777216 ∧ D0.nx (ρ1.set i (.ow (.lst (ds ++ [d])))) M1 | _ => False)
        | _ => False) := h
      refine ⟨_, h1, .inl ⟨rfl, xs0, .of h4⟩, S, M, ρ, _, sim, h', fun vs H1 ⟨ds1, ρ1, M1, S1, q1, st1, sim1, rp⟩ => ?_⟩
      dsimp only at q1
      split at q1
      · split at q1
        · rename_i ds e1
          obtain ⟨b, k1, _, _, ⟨xs, k4, k5⟩, _⟩ := sim1.ow i _ e1
          rw [h1] at k1
          cases k1
          cases rp with
          | cons r1 rr =>
            cases rr
            refine ⟨a, xs, _, rfl, rfl, k4, ?_, nx _ M1 S1 σ _ q1.2 st1.same (sim1.owSet e1 h1 (k5.append (.one r1)))⟩
            rw [k5.length, sizeLine_eq]
            exact q1.1
        · exact q1.elim
      · exact q1.elim
    · exact h.elim
def sExt (i : Nat) (q : QE) : QS := fun D ρ M => match ρ[i]? with
  | some (.ow (.lst _)) => q ρ M fun r ρ1 M1 => (match ρ1[i]?, r.val with
    | some (.ow (.lst ds)), .lst es => ds.length + es.length ≤ 16777216 ∧ D.nx (ρ1.set i (.ow (.lst (ds ++ es)))) M1
    | _, _ => False)
  | _ => False
theorem qs_extend {i : Nat} {y : Str} {p1 apos cpos : Pos} (hN : X.N[i]? = some y) (hvis : Vis X.env.scope y) (he : PE X e (liE z ea)) (hd : (y == ("__debug__" : Str)) = false := by decide) (hcd : (y == ("__classdict__" : Str)) = false := by decide)
    (hbase : attributeBase (.Name y p1) "extend" X.env (eval (.Name y p1) X.env) = eval (.Name y p1) X.env := by rfl)
    (hfew : ((backTo cpos (starEach [e] X.env)).all (fun x => !x.1) && (backToKw cpos (keywordEach [] X.env)).all (fun x => x.1.isSome) && decide ([e].length + ([] : List Keyword).length + (if ([] : List Keyword).isEmpty then 0 else 1) < 30)) = true := by rfl)
    (hline : (apos.endLine == cpos.line) = true := by rfl) (hst : starEach [e] X.env = (false, eval e X.env) :: starEach [] X.env := by rfl) (hplain : (backTo cpos (starEach [] X.env)).any (·.1) = false := by rfl)
    (hs : swapsWith (.Call (.Attribute (.Name y p1) "extend" apos) [e] [] cpos) none pos.line X.env = pure false := by rfl) :
    PS X (.Expr (.Call (.Attribute (.Name y p1) "extend" apos) [e] [] cpos) pos) (liS z (sExt i ea)) :=
  ps_w (ps_expr (pe_bm PySem.F.plainAttrs_list PySem.F.slot_list_extend PySem.F.type_list_extend mt_extend (pe_var hN hvis hd hcd) (qa_cons he qa_nil hst) hbase hfew hline hst hplain) hs) fun D σ H ⟨S, M, ρ, D0, sim, h, nx, _⟩ => by
    unfold sExt at h
    split at h
    · rename_i ds0 e0
      obtain ⟨a, h1, _, _, ⟨xs0, h4, _⟩, _⟩ := sim.ow i _ e0
      have h' : aCons ea aNil ρ M (fun ds1 ρ1 M1 => match ds1 with
        | [d] => (match ρ1[i]?, d with | some (.ow (.lst ds)), .lst es => ds.length + es.length ≤ 16777216 ∧ D0.nx (ρ1.set i (.ow (.lst (ds ++ es)))) M1 | _, _ => False)
        | _ => False) := h
      refine ⟨_, h1, .inl ⟨rfl, xs0, .of h4⟩, S, M, ρ, _, sim, h', fun vs H1 ⟨ds1, ρ1, M1, S1, q1, st1, sim1, rp⟩ => ?_⟩
      dsimp only at q1
      split at q1
      · split at q1
        · rename_i ds es e1
          obtain ⟨b, k1, _, _, ⟨xs, k4, k5⟩, _⟩ := sim1.ow i _ e1
          rw [h1] at k1
          cases k1
          cases rp with
          | cons r1 rr =>
            cases rr
            cases r1 with
            | lst w1 w2 =>
              refine ⟨a, _, xs, _, rfl, rfl, k4, sim1.sub _ _ w1, ?_, nx _ M1 S1 σ _ q1.2 st1.same (sim1.owSet e1 h1 (k5.append w2))⟩
              rw [k5.length, w2.length]
              exact line_eq q1.1
        · exact q1.elim
      · exact q1.elim
    · exact h.elim
def sPop (i : Nat) : QS := fun D ρ M => match ρ[i]? with
  | some (.ow (.lst ds)) => ds ≠ [] ∧ D.nx (ρ.set i (.ow (.lst ds.dropLast))) M
  | _ => False
theorem RpA.dropLast {K : Fg} {S : Hp} {vs : List V} {ds : List D} (h : RpA K S vs ds) : RpA K S vs.dropLast ds.dropLast := by
  rw [List.dropLast_eq_take, List.dropLast_eq_take, h.length]
  exact h.take _
theorem qs_pop {i : Nat} {y : Str} {p1 apos cpos : Pos} (hN : X.N[i]? = some y) (hvis : Vis X.env.scope y) (hd : (y == ("__debug__" : Str)) = false := by decide) (hcd : (y == ("__classdict__" : Str)) = false := by decide)
    (hbase : attributeBase (.Name y p1) "pop" X.env (eval (.Name y p1) X.env) = eval (.Name y p1) X.env := by rfl)
    (hline : (apos.endLine == cpos.line) = true := by rfl)
    (hs : swapsWith (.Call (.Attribute (.Name y p1) "pop" apos) [] [] cpos) none pos.line X.env = pure false := by rfl) :
    PS X (.Expr (.Call (.Attribute (.Name y p1) "pop" apos) [] [] cpos) pos) (liS z (sPop i)) :=
  ps_w (ps_expr (pe_bm0 PySem.F.plainAttrs_list PySem.F.slot_list_pop PySem.F.type_list_pop mt_pop (pe_var hN hvis hd hcd) hbase hline) hs) fun D σ H ⟨S, M, ρ, D0, sim, h, nx, _⟩ => by
    unfold sPop at h
    split at h
    · rename_i ds e0
      obtain ⟨a, h1, _, _, ⟨xs, h4, h5⟩, _⟩ := sim.ow i _ e0
      have hl := h5.length
      have hne : ds.length ≠ 0 := fun z => h.1 (List.length_eq_zero_iff.mp z)
      refine ⟨_, h1, .inl ⟨rfl, xs, .of h4⟩, a, xs, _, rfl, rfl, h4, List.getElem?_eq_getElem (by omega), nx _ M S σ _ h.2 (.refl _) (sim.owSet e0 h1 h5.dropLast)⟩
    · exact h.elim
/-- x[e] = e2 -/
def sSet (i : Nat) (q : QE) (qb : QB) : QS := fun D ρ M => q ρ M fun r ρ1 M1 => (match ρ1[i]? with
  | some (.ow (.lst _)) => qb ρ1 M1 fun d ρ2 M2 => (match ρ2[i]?, d with
    | some (.ow (.lst ds)), .int k => (match ixN ds.length k with | some j => D.nx (ρ2.set i (.ow (.lst (ds.set j r.val)))) M2 | none => False)
    | _, _ => False)
  | _ => False)
theorem qs_setItem {i : Nat} {y : Str} {b : Expr} {p1 p2 : Pos} (hN : X.N[i]? = some y) (hvis : Vis X.env.scope y) (he : PE X e (liE z ea)) (hb : PE X b (liB z qb)) (hd : (y == ("__debug__" : Str)) = false := by decide) (hcd : (y == ("__classdict__" : Str)) = false := by decide)
    (ha : ∀ v, assign (.Subscript (.Name y p1) b p2) X.env v = (do
      let ov ← holding [v] (eval (.Name y p1) X.env)
      let iv ← holding [v, ov] (eval b X.env)
      standAt p2
      holding [v, ov, iv] (setItem ov iv v)
      release [v, ov, iv] []) := by intro _; rfl)
    (hs : swapsWithSole [.Subscript (.Name y p1) b p2] e pos.line X.env = pure false := by rfl) (hw : swappedStores [.Subscript (.Name y p1) b p2] e X.env = pure none := by rfl)
    (h1 : (assignEach [.Subscript (.Name y p1) b p2] X.env).map (·.2) = [assign (.Subscript (.Name y p1) b p2) X.env] := by rfl) :
    PS X (.Assign [.Subscript (.Name y p1) b p2] e pos) (liS z (sSet i ea qb)) :=
  ps_w (ps_asg he (pg_sub (pe_var hN hvis hd hcd) hb set_list ha) hs hw h1) fun D σ H ⟨S, M, ρ, D0, sim, h, nx, _⟩ => ⟨S, M, ρ, _, sim, h, fun v H1 ⟨r, ρ1, M1, S1, q1, st1, sim1, res1⟩ => by
    obtain ⟨S1', sim1', st1', rp1⟩ := sim1.freeze res1
    dsimp only at q1
    split at q1
    · rename_i ds0 e0
      obtain ⟨a, h1, _, _, ⟨xs0, h4, _⟩, _⟩ := sim1'.ow i _ e0
      refine ⟨_, h1, S1', M1, ρ1, _, sim1', q1, fun y H2 ⟨d, ρ2, M2, S2, q2, st2, sim2, rb⟩ => ?_⟩
      dsimp only at q2
      split at q2
      · rename_i ds k e1
        split at q2
        · rename_i j ej
          obtain ⟨b, k1, _, _, ⟨xs, k4, k5⟩, _⟩ := sim2.ow i _ e1
          rw [h1] at k1
          cases k1
          exact ⟨a, xs, k, j, rfl, rb.int, k4, by rw [k5.length]; exact ej, nx _ M2 S2 σ _ q2 ((st1.trans st1').trans st2).same (sim2.owSet e1 h1 (k5.set (Rp.ext st2.same _ _ rp1)))⟩
        · exact q2.elim
      · exact q2.elim
    · exact q1.elim⟩
end
end PL
namespace PL
open PySem PySem.Spec PyProof.Rows L2

/-! ### comprehensions -/
def wipeE (ρ : Ev) : List Nat → Ev
  | [] => ρ
  | v :: vs => (wipeE ρ vs).set v .un
theorem wipe_at : ∀ {σ : St} {vs : List Nat} {j : Nat}, j ∉ vs → (wipe σ vs)[j]? = σ[j]?
  | _, [], _, _ => rfl
  | σ, v :: vs, j, h => by
    unfold wipe
    rw [List.getElem?_set_ne (fun e => h (by simp [e])), wipe_at (fun e => h (by simp [e]))]
theorem wipeE_at : ∀ {ρ : Ev} {vs : List Nat} {j : Nat}, j ∉ vs → (wipeE ρ vs)[j]? = ρ[j]?
  | _, [], _, _ => rfl
  | σ, v :: vs, j, h => by
    unfold wipeE
    rw [List.getElem?_set_ne (fun e => h (by simp [e])), wipeE_at (fun e => h (by simp [e]))]
theorem wipeE_in : ∀ {ρ : Ev} {vs : List Nat} {j : Nat} {x : Sl}, j ∈ vs → (wipeE ρ vs)[j]? = some x → x = .un
  | _, [], _, _, h, _ => by simp at h
  | ρ, v :: vs, j, x, h, e => by
    unfold wipeE at e
    rcases set_get e with ⟨_, e2, _⟩ | ⟨ne, e2⟩
    · exact e2.symm
    · rcases List.mem_cons.mp h with q | q
      · exact absurd q.symm ne
      · exact wipeE_in q e2
theorem wipe_in : ∀ {σ : St} {vs : List Nat} {j : Nat}, j ∈ vs → j < σ.length → (wipe σ vs)[j]? = some none
  | _, [], _, h, _ => by simp at h
  | σ, v :: vs, j, h, hl => by
    unfold wipe
    by_cases e : v = j
    · subst e
      rw [List.getElem?_set_self (by rw [wipe_length]; exact hl)]
    · rw [List.getElem?_set_ne e]
      rcases List.mem_cons.mp h with q | q
      · exact absurd q.symm e
      · exact wipe_in q hl
theorem wipeE_length (ρ : Ev) : ∀ vs : List Nat, (wipeE ρ vs).length = ρ.length
  | [] => rfl
  | v :: vs => by unfold wipeE; rw [List.length_set, wipeE_length ρ vs]
/-- slots that agree elsewhere are the same when wiped -/
theorem wipe_same {σ σ' : St} {vs : List Nat} (hl : σ'.length = σ.length) (h : ∀ j, j ∉ vs → σ'[j]? = σ[j]?) : wipe σ' vs = wipe σ vs := by
  refine List.ext_getElem? fun j => ?_
  by_cases hj : j ∈ vs
  · by_cases hlt : j < σ.length
    · rw [wipe_in hj hlt, wipe_in hj (by rw [hl]; exact hlt)]
    · rw [List.getElem?_eq_none (by rw [wipe_length, hl]; omega), List.getElem?_eq_none (by rw [wipe_length]; omega)]
  · rw [wipe_at hj, wipe_at hj, h j hj]
/-- no list of one's own stands in the slots -/
def notOw (ρ : Ev) (vs : List Nat) : Bool := vs.all fun i => match ρ[i]? with
  | some (.ow _) => false
  | _ => true
section
variable {z : Z} {S S' : Hp} {M M' : Mu} {ρ : Ev} {σ : St} {H H' : Hp}
theorem Sim.wiped (h : Sim z S M ρ σ H) (vs : List Nat) : Sim z S M (wipeE ρ vs) (wipe σ vs) H := by
  refine ⟨h.toCore, by rw [wipe_length, wipeE_length]; exact h.len, fun i d e => ?_, fun i o e => ?_, fun i j o o' a e1 e2 => ?_⟩
  · by_cases hi : i ∈ vs
    · cases wipeE_in hi e
    · rw [wipeE_at hi] at e
      rw [wipe_at hi]
      exact h.va i d e
  · by_cases hi : i ∈ vs
    · cases wipeE_in hi e
    · rw [wipeE_at hi] at e
      rw [wipe_at hi]
      exact h.ow i o e
  · by_cases hi : i ∈ vs
    · cases wipeE_in hi e1
    · by_cases hj : j ∈ vs
      · cases wipeE_in hj e2
      · rw [wipeE_at hi] at e1
        rw [wipeE_at hj] at e2
        rw [wipe_at hi, wipe_at hj]
        exact h.sep i j o o' a e1 e2
/-- behind a block: its own slots hold again what they held -/
theorem Sim.unwiped {vs : List Nat} {ρ2 : Ev} {σ2 : St} (h : Sim z S M ρ σ H) (hn : notOw ρ vs = true) (st : Step S M H S' M' H') (s2 : Sim z S' M' ρ2 σ2 H') (er : wipeE ρ2 vs = wipeE ρ vs) (es : wipe σ2 vs = wipe σ vs) : Sim z S' M' ρ σ H' := by
  have out : ∀ {i : Nat} {o : Ow}, ρ[i]? = some (.ow o) → i ∉ vs := fun {i o} e hi => by
    have := List.all_eq_true.mp hn i hi
    rw [e] at this
    cases this
  refine ⟨s2.toCore, h.len, fun i d e => ?_, fun i o e => ?_, h.sep⟩
  · obtain ⟨v, a, b⟩ := h.va i d e
    exact ⟨v, a, Rp.ext st.same _ _ b⟩
  · have hi := out e
    have e2 : ρ2[i]? = some (.ow o) := by
      have := congrArg (fun l => l[i]?) er
      simp only [wipeE_at hi] at this
      rw [this, e]
    have e3 : σ2[i]? = σ[i]? := by
      have := congrArg (fun l => l[i]?) es
      simp only [wipe_at hi] at this
      exact this
    rw [← e3]
    exact s2.ow i o e2
theorem Sim.hide {D : Addr} {acc : List PL.D} (h : Sim z S M ρ σ H) (r : ResE z S M ρ σ H (.ref D) (.ow (.lst acc))) : Sim { z with R := fun b => z.R b ∨ b = D } S M ρ σ H := by
  obtain ⟨a, e, h2, h3, ⟨xs, h4, _⟩, h5, h6⟩ := r
  cases e
  refine ⟨⟨h.step, h.sub, h.frS, h.mu, h.mnd, fun b hb => ?_⟩, h.len, h.va, fun i o e => ?_, h.sep⟩
  · rcases hb with hb | rfl
    · exact h.rsv b hb
    · exact ⟨h2, by rw [h4]; simp, h5⟩
  · obtain ⟨b, k1, k2, k3, k4, k5⟩ := h.ow i o e
    refine ⟨b, k1, k2, ⟨k3.1, fun w => ?_⟩, k4, k5⟩
    rcases w with w | w
    · exact k3.2 w
    · subst w
      exact h6 i o e k1
theorem Sim.show {R : Addr → Prop} (h : Sim { z with R := R } S M ρ σ H) (k : ∀ b, z.R b → R b) : Sim z S M ρ σ H :=
  ⟨⟨h.step, h.sub, h.frS, h.mu, h.mnd, fun b hb => h.rsv b (k b hb)⟩, h.len, h.va, fun i o e =>
    let ⟨a, h1, h2, h3, h4⟩ := h.ow i o e
    ⟨a, h1, h2, ⟨h3.1, fun w => h3.2 (k a w)⟩, h4⟩, h.sep⟩
/-- something that nothing is said of is changed -/
theorem Sim.poke {a : Addr} {o : HO} (h : Sim z S M ρ σ H) (hs : S a = none) (h0 : z.Nw a) (hm : ∀ p ∈ M, p.1 ≠ a) (hn : ∀ (i : Nat) o', ρ[i]? = some (.ow o') → σ[i]? ≠ some (some (.ref a))) : Sim z S M ρ σ (upd H a o) := by
  refine ⟨⟨⟨h.step.same, fun c u q n => ?_, h.step.mnew, fun c q => ?_⟩, fun c u q => ?_, h.frS, fun p hp => ?_, h.mnd, fun c hc => ?_⟩, h.len, h.va, fun i o' e => ?_, h.sep⟩
  · rw [upd_ne (fun w => by rw [w, h0.1] at q; cases q)]
    exact h.step.keep c u q n
  · by_cases w : c = a
    · subst w; rw [upd_same]; simp
    · rw [upd_ne w]; exact h.step.dom c q
  · rw [upd_ne (fun w => by rw [w, hs] at q; cases q)]
    exact h.sub c u q
  · obtain ⟨q, w⟩ := h.mu p hp
    exact ⟨q, w.ext (.refl _) (upd_ne (hm p hp))⟩
  · obtain ⟨r1, r2, r3⟩ := h.rsv c hc
    exact ⟨r1, by rw [upd_ne (fun e : c = a => h0.2 (by rw [← e]; exact hc))]; exact r2, r3⟩
  · obtain ⟨b, k1, k2, k3, k4, k5⟩ := h.ow i o' e
    exact ⟨b, k1, k2, k3, k4.ext (.refl _) (upd_ne fun w => hn i o' e (by rw [← w]; exact k1)), k5⟩
def eLc (qi : QA) (g : QG) (qt : QT) (qe : QE) (vs : List Nat) : QE := fun ρ M Q => qi ρ M fun ds ρ1 M1 => notOw ρ1 vs = true ∧ ∃ I : Nat → List D → Mu → Prop, I 0 [] M1 ∧
  (∀ i d acc M, ds[i]? = some d → I i acc M → g d (wipeE ρ1 vs) fun ρ2 => wipeE ρ2 vs = wipeE ρ1 vs ∧ qt ρ2 M fun b ρ3 M3 => ρ3 = ρ2 ∧
    (if b = true then qe ρ3 M3 fun r ρ4 M4 => ρ4 = ρ3 ∧ acc.length < 16777216 ∧ I (i + 1) (acc ++ [r.val]) M4 else I (i + 1) acc M3)) ∧
  (∀ acc M, I ds.length acc M → Q (.ow (.lst acc)) ρ1 M)
def tYes' : QT := fun ρ M Q => Q true ρ M
/-- for every call's entry with this written part -/
def anE (K : Fg) (q : QE) : TE := fun σ H Q => ∃ z : Z, K = z.K ∧ liE z q σ H Q
def anT (K : Fg) (q : QT) : TT := fun σ H Q => ∃ z : Z, K = z.K ∧ liT z q σ H Q
def anG (K : Fg) (as : List Nat) (q : QG) : TG := fun v σ H Q => ∃ z : Z, K = z.K ∧ liG z as q v σ H Q
end
section
variable {X : Cx} {z : Z}
theorem an_e {e : Expr} {q : QE} {K : Fg} (h : ∀ z : Z, K = z.K → PE X e (liE z q)) : PE X e (anE K q) := ⟨fun pins s σ H Q I ⟨z, e, w⟩ => (h z e).run pins s σ H Q I w⟩
theorem an_g {e : Expr} {q : QG} {as : List Nat} {K : Fg} (h : ∀ z : Z, K = z.K → PG X e (liG z as q)) : PG X e (anG K as q) := ⟨fun pins s σ H v u Q I r ⟨z, e, w⟩ => (h z e).run pins s σ H v u Q I r w⟩
theorem an_t0 {K : Fg} : PTs X [] (anT K tYes') := ⟨fun pins s σ H Q I ⟨z, e, S, M, ρ, Q0, sim, h, post⟩ => pts_nil.run pins s σ H Q I (post true H ⟨ρ, M, S, h, .refl, sim⟩)⟩
theorem an_t1 {c : Expr} {t : QT} {K : Fg} (h : ∀ z : Z, K = z.K → PT X c (liT z t)) : PTs X [c] (anT K t) := pts_one ⟨fun pins s σ H Q I ⟨z, e, w⟩ => (h z e).run pins s σ H Q I w⟩
theorem lc_lift {qi : QA} {g : QG} {qt : QT} {qe : QE} {vs as : List Nat} (hvs : ∀ j ∈ as, j ∈ vs) {σ : St} {H : Hp} {Q : VK} (h : liE z (eLc qi g qt qe vs) σ H Q) : tLc (liI z qi) (anG z.K as g) (anT z.K qt) (anE z.K qe) vs σ H Q := by
  obtain ⟨S, M, ρ, Q0, sim, h, post⟩ := h
  refine ⟨S, M, ρ, _, sim, h, fun J H1 ⟨ds, ρ1, M1, S1, ⟨hn, I, w0, turn, fin⟩, st1, sim1, y⟩ D hD => ?_⟩
  obtain ⟨simD, stD, resD⟩ := sim1.fresh (ds := []) hD .nil
  have hD0 : H D = none := by
    cases q : H D with
    | none => rfl
    | some o => exact absurd hD (st1.dom D (by rw [q]; simp))
  refine ⟨fun i m H' => m = ds.length - i ∧ i ≤ ds.length ∧ ∃ S' M' acc, Step S M H S' M' H' ∧ Same S1 S' ∧ Sim z S' M' ρ1 σ H' ∧ ResE z S' M' ρ1 σ H' (.ref D) (.ow (.lst acc)) ∧ I i acc M',
    ⟨ds.length, by simp, Nat.zero_le _, S1, M1, [], st1.trans stD, .refl _, simD, resD, w0⟩, ?_⟩
  rintro i m H2 ⟨rfl, hi, S2, M2, acc, st2, e2, sim2, res2, w2⟩
  by_cases hlt : i < ds.length
  · refine .inr ⟨y.go i H2 S2 e2 sim2.sub hlt, fun H' => i + 1 ≤ ds.length ∧ ∃ S' M' acc, Step S M H S' M' H' ∧ Same S1 S' ∧ Sim z S' M' ρ1 σ H' ∧ ResE z S' M' ρ1 σ H' (.ref D) (.ow (.lst acc)) ∧ I (i + 1) acc M',
      fun H' h => ⟨ds.length - (i + 1), by omega, rfl, h.1, h.2⟩, fun x H3 hy => ?_⟩
    have ed : ds[i]? = some ds[i] := List.getElem?_eq_getElem hlt
    obtain ⟨S3, a1, a2, a3, a4, rp⟩ := y.yld i H2 S2 x H3 _ e2 sim2.sub ed hy
    have sim3 := sim2.grow a1 a2 a3 a4
    have st3 : Step S2 M2 H2 S3 M2 H3 := .grow a1 a2
    obtain ⟨D', eD, n1, n2, ⟨xs, n3, n4⟩, n5, n6⟩ := id res2
    cases eD
    have res3 : ResE z S3 M2 ρ1 σ H3 (.ref D) (.ow (.lst acc)) := by
      refine ⟨D, rfl, ?_, n2, ⟨xs, a2 _ _ n3, RpA.ext a1 _ _ n4⟩, n5, n6⟩
      cases q : S3 D with
      | none => rfl
      | some o =>
        rcases a4 D (by rw [q]; simp) with e | e
        · exact absurd n1 e
        · rw [n3] at e; cases e
    have hid := sim3.hide res3
    have w3 := turn i _ acc M2 ed w2
    refine ⟨{ z with R := fun b => z.R b ∨ b = D }, rfl, S3, M2, wipeE ρ1 vs, _, _, hid.wiped vs, rp, w3, fun ρ4 σ4 ⟨er, q4⟩ sim4 k4 => ?_⟩
    have es : wipe σ4 vs = wipe σ vs := by
      have hl : σ4.length = σ.length := by
        have z1 := sim4.len
        have z2 := congrArg List.length er
        rw [wipeE_length, wipeE_length] at z2
        rw [z1, z2]
        exact sim3.len.symm
      refine wipe_same hl fun j hj => ?_
      rw [k4 j fun hm => hj (hvs j hm), wipe_at hj]
    -- back behind the block
    have back : ∀ {S6 : Hp} {M6 : Mu} {H6 : Hp}, Sim { z with R := fun b => z.R b ∨ b = D } S6 M6 ρ4 σ4 H6 → Step S3 M2 H3 S6 M6 H6 → Sim z S6 M6 ρ1 σ H6 ∧ Step S M H S6 M6 H6 ∧ Same S1 S6 ∧ ∃ xs, H6 D = some (.lst xs) ∧ RpA z.K S6 xs acc ∧ S6 D = none ∧ (∀ p ∈ M6, p.1 ≠ D) := by
      intro S6 M6 H6 s6 st6
      obtain ⟨r1, r2, r3⟩ := s6.rsv D (.inr rfl)
      have s6' := s6.show (fun b hb => .inl hb)
      exact ⟨sim3.unwiped hn st6 s6' er es, (st2.trans st3).trans st6, (e2.trans a1).trans st6.same, xs, st6.keep D _ (a2 _ _ n3) n5, RpA.ext (a1.trans st6.same) _ _ n4, r1, r3⟩
    refine ⟨es, { z with R := fun b => z.R b ∨ b = D }, rfl, S3, M2, ρ4, _, sim4, q4, fun b H5 ⟨ρ5, M5, S5, ⟨er5, q5⟩, st5, sim5⟩ => ?_⟩
    subst er5
    cases b with
    | false =>
      obtain ⟨k1, k2, k3, xs', k5, k6, k7, k8⟩ := back sim5 st5
      exact iteF ⟨hlt, S5, M5, acc, k2, k3, k1, ⟨D, rfl, k7, n2, ⟨xs', k5, k6⟩, k8, n6⟩, (by simpa using q5)⟩
    | true =>
      have q5' := (show qe _ M5 _ by simpa using q5)
      refine iteT ⟨{ z with R := fun b => z.R b ∨ b = D }, rfl, S5, M5, _, _, sim5, q5', fun v H6 ⟨r, ρ6, M6, S6, ⟨er6, hl6, q6⟩, st6, sim6, res6⟩ => ?_⟩
      subst er6
      obtain ⟨S7, sim7, st7, rp7⟩ := sim6.freeze res6
      obtain ⟨k1, k2, k3, xs', k5, k6, k7, k8⟩ := back sim7 ((st5.trans st6).trans st7)
      refine ⟨xs', k5, by rw [k6.length, sizeLine_eq]; exact hl6, hlt, S7, M6, acc ++ [r.val], ?_, k3, ?_, ?_, q6⟩
      · refine ⟨k2.same, fun c u q n => ?_, k2.mnew, fun c q => ?_⟩
        · rw [upd_ne (fun w => by rw [w, hD0] at q; cases q)]
          exact k2.keep c u q n
        · by_cases w : c = D
          · subst w; rw [upd_same]; simp
          · rw [upd_ne w]; exact k2.dom c q
      · exact k1.poke k7 n2 k8 n6
      · exact ⟨D, rfl, k7, n2, ⟨_, upd_same, k6.append (.one rp7)⟩, k8, n6⟩
  · have e : i = ds.length := by omega
    subst e
    exact .inl ⟨y.stop _ H2 S2 e2 sim2.sub (Nat.le_refl _), post _ H2 ⟨_, ρ1, M2, S2, fin acc M2 w2, st2, sim2, res2⟩⟩
theorem qe_lc {elt tg iter : Expr} {ifs : List Expr} {scope : Scope} {own : List (Str × Nat)} {pos : Pos} {qi : QA} {g : QG} {qt : QT} {qe : QE} {as : List Nat} (hc : X.calm = true) (hN : X.N.Nodup) (hi : PI X tg iter (liI z qi)) (ok : BlkOk X.N X.env.scope scope own)
    (hg : ∀ (s : Shared) (H : Hp) (C : Addr) (cl : List (Str × Addr)) (fp : List Addr) (z : Z), X.K = z.K → PG (X.blk s H scope (compEnvC scope cl C X.env) fp) tg (liG z as g))
    (ht : ∀ (s : Shared) (H : Hp) (C : Addr) (cl : List (Str × Addr)) (fp : List Addr), PTs (X.blk s H scope (compEnvC scope cl C X.env) fp) ifs (anT X.K qt))
    (he : ∀ (s : Shared) (H : Hp) (C : Addr) (cl : List (Str × Addr)) (fp : List Addr) (z : Z), X.K = z.K → PE (X.blk s H scope (compEnvC scope cl C X.env) fp) elt (liE z qe)) (hvs : ∀ j ∈ as, j ∈ own.map (·.2) := by decide) (hK : X.K = z.K := by first | assumption | rfl)
    (hs : ∀ x, foldedSetIterable iter X.env x = pure x := by intro _; rfl) : PE X (.ListComp elt [⟨tg, iter, ifs, 0⟩] scope pos) (liE z (eLc qi g qt qe (own.map (·.2)))) := by
  refine pe_w (pe_lc hc hN hi ok (fun s H C cl fp => an_g (K := X.K) (hg s H C cl fp)) ht (fun s H C cl fp => an_e (K := X.K) (he s H C cl fp)) hs) fun σ H Q h => ?_
  rw [hK]
  exact lc_lift hvs h
theorem qs_setLc {i : Nat} {y : Str} {py : Pos} {elt tg iter : Expr} {ifs : List Expr} {scope : Scope} {own : List (Str × Nat)} {pos spos : Pos} {qi : QA} {g : QG} {qt : QT} {qe : QE} {as : List Nat} (hc : X.calm = true) (hN : X.N.Nodup) (hy : X.N[i]? = some y) (hyl : X.env.scope.names.lookup y = some .local)
    (hsw : swapsWith (.ListComp elt [⟨tg, iter, ifs, 0⟩] scope pos) (some (.Name y py)) spos.line X.env = pure true) (hi : PI X tg iter (liI z qi)) (ok : BlkOk X.N X.env.scope scope own)
    (hg : ∀ (s : Shared) (H : Hp) (C : Addr) (cl : List (Str × Addr)) (fp : List Addr) (z : Z), X.K = z.K → PG (X.blk s H scope (compEnvC scope cl C X.env) fp) tg (liG z as g))
    (ht : ∀ (s : Shared) (H : Hp) (C : Addr) (cl : List (Str × Addr)) (fp : List Addr), PTs (X.blk s H scope (compEnvC scope cl C X.env) fp) ifs (anT X.K qt))
    (he : ∀ (s : Shared) (H : Hp) (C : Addr) (cl : List (Str × Addr)) (fp : List Addr) (z : Z), X.K = z.K → PE (X.blk s H scope (compEnvC scope cl C X.env) fp) elt (liE z qe)) (hvs : ∀ j ∈ as, j ∈ own.map (·.2) := by decide) (hK : X.K = z.K := by first | assumption | rfl)
    (hs : ∀ x, foldedSetIterable iter X.env x = pure x := by intro _; rfl) : PS X (.Assign [.Name y py] (.ListComp elt [⟨tg, iter, ifs, 0⟩] scope pos) spos) (liS z (sAsg i (eLc qi g qt qe (own.map (·.2))))) := by
  refine ps_w (ps_setLc (i := i) hc hN hy hyl hsw hi ok (fun s H C cl fp => an_g (K := X.K) (hg s H C cl fp)) ht (fun s H C cl fp => an_e (K := X.K) (he s H C cl fp)) hs) fun D σ H h => ?_
  obtain ⟨S, M, ρ, D0, sim, h, nx, _⟩ := h
  rw [hK]
  exact lc_lift hvs ⟨S, M, ρ, _, sim, h, fun v H' ⟨r, ρ', M', S', q, st, sim', res⟩ => nx _ M' S' _ H' q st.same (sim'.put res)⟩
end
end PL
namespace PL
open PySem PySem.Spec PyProof.Rows L2

/-! ### lists that are known by their address -/
def mput (M : Mu) (a : Addr) (o : MO) : Mu := M.map fun p => if p.1 = a then (a, o) else p
theorem mput_keys (M : Mu) (a : Addr) (o : MO) : (mput M a o).map (·.1) = M.map (·.1) := by
  unfold mput
  rw [List.map_map]
  refine List.map_congr_left fun p _ => ?_
  show (if p.1 = a then (a, o) else p).1 = p.1
  split
  · rename_i e; exact e.symm
  · rfl
theorem mem_mput {M : Mu} {a : Addr} {o : MO} {p : Addr × MO} (h : p ∈ mput M a o) : (p = (a, o) ∧ ∃ q ∈ M, q.1 = a) ∨ (p ∈ M ∧ p.1 ≠ a) := by
  obtain ⟨q, hq, e⟩ := List.mem_map.mp h
  by_cases hq2 : q.1 = a
  · rw [if_pos hq2] at e
    exact .inl ⟨e.symm, q, hq, hq2⟩
  · rw [if_neg hq2] at e
    subst e
    exact .inr ⟨hq, hq2⟩
section
variable {z : Z} {S S' : Hp} {M M' : Mu} {ρ : Ev} {σ : St} {H H' : Hp}
theorem lookup_mem {a : Addr} {o : MO} : ∀ {M : Mu}, M.lookup a = some o → (a, o) ∈ M
  | [], h => by cases h
  | (b, u) :: r, h => by
    rw [List.lookup_cons] at h
    cases e : a == b with
    | true =>
      rw [e] at h
      cases h
      rw [eq_of_beq e]
      exact List.mem_cons_self
    | false =>
      rw [e] at h
      exact List.mem_cons_of_mem _ (lookup_mem h)
theorem nodup_at {M : Mu} (hn : (M.map (·.1)).Nodup) {a : Addr} {o o' : MO} (h : (a, o) ∈ M) (h' : (a, o') ∈ M) : o = o' := by
  induction M with
  | nil => cases h
  | cons p M ih =>
    rw [List.map_cons, List.nodup_cons] at hn
    rcases List.mem_cons.mp h with e | h
    · rcases List.mem_cons.mp h' with e' | h'
      · rw [← e] at e'; cases e'; rfl
      · exact absurd (List.mem_map.mpr ⟨_, h', by rw [← e]⟩) hn.1
    · rcases List.mem_cons.mp h' with e' | h'
      · exact absurd (List.mem_map.mpr ⟨_, h, by rw [← e']⟩) hn.1
      · exact ih hn.2 h h'
/-- an object known by address is written -/
theorem Core.mset {a : Addr} {o o' : MO} {ho : HO} (h : Core z S M H) (hm : (a, o) ∈ M) (hk : MOk z.K S (upd H a ho) a o') : Core z S (mput M a o') (upd H a ho) := by
  have hs := (h.mu _ hm).1
  obtain ⟨u, hu⟩ := (h.mu _ hm).2.at
  refine ⟨⟨h.step.same, fun c w q n => ?_, fun p hp => ?_, fun c q => ?_⟩, fun c w q => ?_, h.frS, fun p hp => ?_, by rw [mput_keys]; exact h.mnd, fun c hc => ?_⟩
  · have k := h.step.keep c w q n
    rw [upd_ne (fun e => ?_)]
    · exact k
    · subst e
      rcases h.step.mnew _ hm with ⟨q', hq', e'⟩ | e'
      · exact n q' hq' e'
      · rw [show z.H0 c = none from e'] at q; cases q
  · rcases mem_mput hp with ⟨rfl, q, hq, e⟩ | ⟨hp, _⟩
    · have := h.step.mnew q hq
      rw [e] at this
      exact this
    · exact h.step.mnew p hp
  · by_cases e : c = a
    · subst e; rw [upd_same]; simp
    · rw [upd_ne e]; exact h.step.dom c q
  · rw [upd_ne (fun e => by rw [e, hs] at q; cases q)]
    exact h.sub c w q
  · rcases mem_mput hp with ⟨rfl, _⟩ | ⟨hp, ne⟩
    · exact ⟨hs, hk⟩
    · obtain ⟨k1, k2⟩ := h.mu p hp
      exact ⟨k1, k2.ext (.refl _) (upd_ne ne)⟩
  · obtain ⟨r1, r2, r3⟩ := h.rsv c hc
    refine ⟨r1, by rw [upd_ne (fun e : c = a => r3 _ hm e.symm)]; exact r2, fun p hp e => ?_⟩
    rcases mem_mput hp with ⟨rfl, q, hq, e2⟩ | ⟨hp, _⟩
    · exact r3 q hq (e2.trans e)
    · exact r3 p hp e
theorem Sim.mset {a : Addr} {o o' : MO} {ho : HO} (h : Sim z S M ρ σ H) (hm : (a, o) ∈ M) (hk : MOk z.K S (upd H a ho) a o') : Sim z S (mput M a o') ρ σ (upd H a ho) := by
  refine ⟨h.toCore.mset hm hk, h.len, h.va, fun i w e => ?_, h.sep⟩
  obtain ⟨b, h1, h2, h3, h4, h5⟩ := h.ow i w e
  refine ⟨b, h1, h2, h3, h4.ext (.refl _) (upd_ne fun e => h5 _ hm e.symm), fun p hp e => ?_⟩
  rcases mem_mput hp with ⟨rfl, q, hq, e2⟩ | ⟨hp, _⟩
  · exact h5 q hq (e2.trans e)
  · exact h5 p hp e
/-- .. is told otherwise, as it stands -/
theorem Core.mtell {a : Addr} {o o' : MO} (h : Core z S M H) (hm : (a, o) ∈ M) (hk : MOk z.K S H a o') : Core z S (mput M a o') H := by
  obtain ⟨u, hu⟩ := (h.mu _ hm).2.at
  have e : upd H a u = H := by
    funext b
    by_cases hb : b = a
    · subst hb; rw [upd_same, hu]
    · rw [upd_ne hb]
  have := h.mset (ho := u) hm (by rw [e]; exact hk)
  rw [e] at this
  exact this
end
/-- x[e], x a list that is known by its address -/
def eIxM (qa qb : QB) : QE := fun ρ M Q => qa ρ M fun d1 ρ1 M1 => qb ρ1 M1 fun d2 ρ2 M2 => match d1, d2 with
  | .ref a, .int i => (match M2.lookup a with
    | some (.lst ds) => (match atI ds i with | some d => Q (.va d) ρ2 M2 | none => False)
    | _ => False)
  | _, _ => False
def sSetM (q : QE) (qa qb : QB) : QS := fun D ρ M => q ρ M fun r ρ1 M1 => qa ρ1 M1 fun d1 ρ2 M2 => qb ρ2 M2 fun d2 ρ3 M3 => match d1, d2 with
  | .ref a, .int k => (match M3.lookup a with
    | some (.lst ds) => (match ixN ds.length k with | some j => D.nx ρ3 (mput M3 a (.lst (ds.set j r.val))) | none => False)
    | _ => False)
  | _, _ => False
section
variable {X : Cx} {z : Z} {a b e : Expr} {pos : Pos} {qa qb : QB} {ea : QE}
theorem qe_ixM (ha : PE X a (liB z qa)) (hb : PE X b (liB z qb)) (hs : PlainIx b := by exact fun _ _ => rfl) : PE X (.Subscript a b pos) (liE z (eIxM qa qb)) :=
  pe_w (pe_ix ix_list ha hb hs) fun σ H Q ⟨S, M, ρ, Q0, sim, h, post⟩ => ⟨S, M, ρ, _, sim, h, fun x H1 ⟨d1, ρ1, M1, S1, q1, st1, sim1, b1⟩ => ⟨S1, M1, ρ1, _, sim1, q1, fun y H2 ⟨d2, ρ2, M2, S2, q2, st2, sim2, b2⟩ => by
    dsimp only at q2
    split at q2
    · split at q2
      · rename_i ds em
        split at q2
        · rename_i d ed
          obtain ⟨_, xs, h1, h2⟩ := sim2.mu _ (lookup_mem em)
          obtain ⟨v, ev, rv⟩ := atI_rp h2 ed
          exact ⟨_, xs, _, v, (b1.step st2).ref, b2.int, .of h1, ev, post v H2 ⟨.va d, ρ2, M2, S2, q2, st1.trans st2, sim2, rv⟩⟩
        · exact q2.elim
      · exact q2.elim
    · exact q2.elim⟩⟩
theorem qs_setM {p2 : Pos} (he : PE X e (liE z ea)) (ha : PE X a (liB z qa)) (hb : PE X b (liB z qb))
    (hq : ∀ v, assign (.Subscript a b p2) X.env v = (do
      let ov ← holding [v] (eval a X.env)
      let iv ← holding [v, ov] (eval b X.env)
      standAt p2
      holding [v, ov, iv] (setItem ov iv v)
      release [v, ov, iv] []) := by intro _; rfl)
    (hs : swapsWithSole [.Subscript a b p2] e pos.line X.env = pure false := by rfl) (hw : swappedStores [.Subscript a b p2] e X.env = pure none := by rfl)
    (h1 : (assignEach [.Subscript a b p2] X.env).map (·.2) = [assign (.Subscript a b p2) X.env] := by rfl) : PS X (.Assign [.Subscript a b p2] e pos) (liS z (sSetM ea qa qb)) :=
  ps_w (ps_asg he (pg_sub ha hb set_list hq) hs hw h1) fun D σ H ⟨S, M, ρ, D0, sim, h, nx, _⟩ => ⟨S, M, ρ, _, sim, h, fun v H1 ⟨r, ρ1, M1, S1, q1, st1, sim1, res1⟩ => by
    obtain ⟨S1', sim1', st1', rp1⟩ := sim1.freeze res1
    refine ⟨S1', M1, ρ1, _, sim1', q1, fun x H2 ⟨d2, ρ2, M2, S2, q2, st2, sim2, b2⟩ => ⟨S2, M2, ρ2, _, sim2, q2, fun y H3 ⟨d3, ρ3, M3, S3, q3, st3, sim3, b3⟩ => ?_⟩⟩
    dsimp only at q3
    split at q3
    · split at q3
      · rename_i ds em
        split at q3
        · rename_i j ej
          obtain ⟨_, xs, h1, h2⟩ := sim3.mu _ (lookup_mem em)
          have rp3 := Rp.ext (st2.trans st3).same _ _ rp1
          exact ⟨_, xs, _, j, (b2.step st3).ref, b3.int, h1, by rw [h2.length]; exact ej, nx _ _ S3 σ _ q3 ((st1.trans st1').trans (st2.trans st3)).same (sim3.mset (lookup_mem em) ⟨_, upd_same, h2.set rp3⟩)⟩
        · exact q3.elim
      · exact q3.elim
    · exact q3.elim⟩
end

/-! ### a def keeps its promise -/
abbrev PF := fun (_ : Str) (_ : List D) (_ : Mu) => False
def stE (N : List Str) (ds : List D) : Ev := ds.map .va ++ List.replicate (N.length - ds.length) .un
theorem start_sim {K : Fg} {S : Hp} {M : Mu} {H : Hp} {vs : List V} {ds : List D} {N : List Str} {z : Z} (c : Core z S M H) (hK : z.K = K) (r : RpA K S vs ds) : Sim z S M (stE N ds) (L2.start N vs) H := by
  have hl := r.length
  have at1 : ∀ {i : Nat} {x : Sl}, (stE N ds)[i]? = some x → (∃ d, ds[i]? = some d ∧ x = .va d) ∨ x = .un := fun {i x} e => by
    unfold stE at e
    by_cases hi : i < ds.length
    · rw [List.getElem?_append_left (by simpa using hi), List.getElem?_map] at e
      cases q : ds[i]? with
      | none => rw [q] at e; cases e
      | some d => rw [q] at e; cases e; exact .inl ⟨d, rfl, rfl⟩
    · rw [List.getElem?_append_right (by simpa using hi), List.getElem?_replicate] at e
      split at e
      · cases e; exact .inr rfl
      · cases e
  refine ⟨c, ?_, fun i d e => ?_, fun i o e => ?_, fun i j o o' a e1 => ?_⟩
  · unfold stE L2.start
    simp only [List.length_append, List.length_map, List.length_replicate]
    rw [hl]
  · rcases at1 e with ⟨d', e1, e2⟩ | e2
    · cases e2
      obtain ⟨v, h1, h2⟩ := r.get e1
      refine ⟨v, ?_, by rw [hK]; exact h2⟩
      unfold L2.start
      have hi : i < vs.length := (List.getElem?_eq_some_iff.mp h1).1
      rw [List.getElem?_append_left (by simpa using hi), List.getElem?_map, h1]
      rfl
    · cases e2
  · rcases at1 e with ⟨d', e1, e2⟩ | e2 <;> cases e2
  · rcases at1 e1 with ⟨d', e1, e2⟩ | e2 <;> cases e2
theorem fn_P {P : Program} {w : World} {K : Fg} {mg : Str → Option Value} {base : Heap} {x qual : Str} {params : Arguments} {body : List Stmt} {scope : Scope} {dvs : List V} {kws : List (Str × V)} {f : Addr} {fd : FuncData} {N ps : List Str} {k : Nat} {p : PSp}
    (F : FunD K x qual params body scope dvs kws f fd) (Sc : FnScope N ps scope) (hl : ∀ ds M Q E, p ds M Q E → ds.length = ps.length)
    {q : QS} (hbody : ∀ (cdv : Value) (A : Around) (outer : List Env) (s : Shared) (H : Hp) (E : XK) (z : Z), K = z.K → Room k (A.deeper (envOfC qual scope s.heap.objs.size f cdv)) →
      PSs (cxOf CX0 P w K mg base N qual scope f cdv A outer s H E).nox body (liS z q))
    (hq : ∀ ds M Q0, p ds M Q0 PF → q { nx := fun _ M' => Q0 (.va .non) M', rt := Q0 } (stE N ds) M) : FnOk P w K mg base CX0 (k + 1) f fd ps (liP K p) := by
  refine F.ok Sc (fun vs H Q E ⟨S, M, ds, Q0, c, r, h, _⟩ => by rw [r.length]; exact hl _ _ _ _ h) fun cdv A outer s H vs Q E hr ⟨S, M, ds, Q0, c, r, h, post⟩ => ⟨_, (hbody cdv A outer s H E (zOf K H S M) rfl hr).nox, ?_⟩
  refine ⟨S, M, _, _, start_sim c rfl r, hq ds M Q0 h, fun ρ' M' S' σ' H' q e sim => ?_, fun _ _ _ _ _ q => q.elim, fun _ _ _ _ _ q => q.elim, fun r M' S' v H' q c' res => post v H' r M' S' q c' res⟩
  exact post .non H' _ M' S' q sim.toCore .non
/-! ### the law's tape -/
/-- one draw -/
def pDraw : PSp := fun ds M Q _ => match ds with
  | [.ref T, .int n] => ((T, MO.tape) ∈ M ∧ 1 ≤ n ∧ n < 1267650600228229401496703205376) ∧ ∀ r : Int, 0 ≤ r → r < n → Q (.va (.int r)) M
  | _ => False
theorem mput_mput (M : Mu) (a : Addr) (o o' : MO) : mput (mput M a o) a o' = mput M a o' := by
  unfold mput
  rw [List.map_map]
  refine List.map_congr_left fun p _ => ?_
  show (if (if p.1 = a then (a, o) else p).1 = a then (a, o') else (if p.1 = a then (a, o) else p)) = _
  by_cases h : p.1 = a
  · simp [h]
  · simp [h]
theorem mput_self {M : Mu} (hn : (M.map (·.1)).Nodup) {a : Addr} {o : MO} (h : (a, o) ∈ M) : mput M a o = M := by
  unfold mput
  conv => rhs; rw [← List.map_id M]
  refine List.map_congr_left fun p hp => ?_
  by_cases e : p.1 = a
  · rw [if_pos e]
    obtain ⟨b, o'⟩ := p
    have e' : b = a := e
    subst e'
    rw [nodup_at hn h hp]
    rfl
  · rw [if_neg e]; rfl
theorem lookup_mput {M : Mu} {a : Addr} {o : MO} (h : ∃ p ∈ M, p.1 = a) : (mput M a o).lookup a = some o := by
  induction M with
  | nil => obtain ⟨p, hp, _⟩ := h; cases hp
  | cons q M ih =>
    unfold mput
    rw [List.map_cons]
    by_cases e : q.1 = a
    · rw [if_pos e, List.lookup_cons]
      simp
    · rw [if_neg e]
      obtain ⟨p, hp, e2⟩ := h
      have hp' : p ∈ M := by
        rcases List.mem_cons.mp hp with rfl | hp
        · exact absurd e2 e
        · exact hp
      have := ih ⟨p, hp', e2⟩
      unfold mput at this
      obtain ⟨b, u⟩ := q
      rw [List.lookup_cons]
      have hb : (a == b) = false := beq_eq_false_iff_ne.mpr fun w => e w.symm
      rw [hb]
      exact this
theorem fn_draw {P : Program} {w : World} {K : Fg} {mg : Str → Option Value} {base : Heap} {x qual : Str} {params : Arguments} {body : List Stmt} {scope : Scope} {dvs : List V} {kws : List (Str × V)} {f : Addr} {fd : FuncData} {N ps : List Str} {k : Nat}
    (F : FunD K x qual params body scope dvs kws f fd) (Sc : FnScope N ps scope) (hps : ps.length = 2)
    {q : QS} (hbody : ∀ (cdv : Value) (A : Around) (outer : List Env) (s : Shared) (H : Hp) (E : XK) (z : Z), K = z.K → Room k (A.deeper (envOfC qual scope s.heap.objs.size f cdv)) →
      PSs (cxOf CX0 P w K mg base N qual scope f cdv A outer s H E).nox body (liS z q))
    (hq : ∀ (T : Addr) (n : Int) (M : Mu) (ns : List Int) (c x : Int) (Q0 : Sl → Mu → Prop), M.lookup T = some (.lst [.lst (ns.map D.int), .int c, .int x]) → 0 ≤ c → 0 ≤ x → 1 ≤ n → n < 1267650600228229401496703205376 →
      (∀ r c' x' : Int, 0 ≤ r → r < n → 0 ≤ c' → 0 ≤ x' → Q0 (.va (.int r)) (mput M T (.lst [.lst (ns.map D.int), .int c', .int x']))) → q { nx := fun _ M' => Q0 (.va .non) M', rt := Q0 } (stE N [.ref T, .int n]) M) :
    FnOk P w K mg base CX0 (k + 1) f fd ps (liP K pDraw) := by
  refine F.ok Sc (fun vs H Q E ⟨S, M, ds, Q0, c, r, h, _⟩ => ?_) fun cdv A outer s H vs Q E hr ⟨S, M, ds, Q0, c, r, h, post⟩ => ⟨_, (hbody cdv A outer s H E (zOf K H S M) rfl hr).nox, ?_⟩
  · rw [r.length, hps]
    unfold pDraw at h
    split at h
    · rfl
    · exact h.elim
  · unfold pDraw at h
    split at h
    · obtain ⟨⟨hm, h1, h2⟩, h3⟩ := h
      rename_i T n
      obtain ⟨cc, ns, kk, xx, e1, e2, e3, e4⟩ := (c.mu _ hm).2
      have hk : MOk K S H T (.lst [.lst (ns.map D.int), .int kk, .int xx]) := ⟨_, e1, .cons (.lst e2 .ints) (.cons (.int _) (.cons (.int _) .nil))⟩
      have c1 := c.mtell hm hk
      refine ⟨S, _, _, _, start_sim c1 rfl r, hq T n _ ns kk xx (fun r M' => (∃ i : Int, r = .va (.int i) ∧ 0 ≤ i ∧ i < n) ∧ ∃ c' x' : Int, 0 ≤ c' ∧ 0 ≤ x' ∧ M' = mput M T (.lst [.lst (ns.map D.int), .int c', .int x'])) (lookup_mput ⟨_, hm, rfl⟩) e3 e4 h1 h2 fun r c' x' r0 r1 c0 x0 => ⟨⟨r, rfl, r0, r1⟩, c', x', c0, x0, mput_mput _ _ _ _⟩,
        fun ρ' M' S' σ' H' q e sim => ?_, fun _ _ _ _ _ q => q.elim, fun _ _ _ _ _ q => q.elim, fun r M' S' v H' q c' res => ?_⟩
      · obtain ⟨⟨i, e, _⟩, _⟩ := q
        cases e
      · obtain ⟨⟨i, rfl, i0, i1⟩, c2, x2, c0, x0, rfl⟩ := q
        have hm2 : (T, MO.lst [.lst (ns.map D.int), .int c2, .int x2]) ∈ mput M T (.lst [.lst (ns.map D.int), .int c2, .int x2]) := lookup_mem (lookup_mput ⟨_, hm, rfl⟩)
        obtain ⟨xs, k1, k2⟩ := (c'.mu _ hm2).2
        have c3 := c'.mtell (o' := .tape) hm2 (by
          cases k2 with
          | cons a1 a2 =>
            cases a2 with
            | cons b1 b2 =>
              cases b2 with
              | cons d1 d2 =>
                cases d2
                cases b1
                cases d1
                cases a1 with
                | lst w1 w2 => exact ⟨_, ns, c2, x2, k1, by rw [w1, w2.intsV], c0, x0⟩)
        rw [mput_mput, mput_self c.mnd hm] at c3
        exact post v H' _ M S' (h3 i i0 i1) c3 res
    · exact h.elim

/-! ### the law -/
/-- script -> the tape -/
def spTape (K : Fg) : Sp := fun vs H Q _ => ∃ (a : Addr) (ns : List Int), vs = [.ref a] ∧ SqL K H a (ns.map V.int) ∧ ∀ (H' : Hp) (c p : Addr), Same H H' → H c = none → H p = none → p ≠ c → H' c = some (.lst (ns.map V.int)) → H' p = some (.lst [.ref c, .int 0, .int 0]) → Q (.ref p) H'
def spLaw (K : Fg) : Sp := fun vs H Q _ => ∃ (a : Addr) (ns : List Int), vs = [.ref a] ∧ SqL K H a (ns.map V.int) ∧ ∀ H', Q (.bl true) H'
theorem law_P {K : Fg} {N : List Str} {a : Addr} {H : Hp} {ns : List Int} {Q : VK} {q : QS} {t0 : TE} (hN : 2 ≤ N.length)
    (hS : SqL K H a (ns.map V.int)) (hQ : ∀ H', Q (.bl true) H')
    (h0 : ∀ Q' : VK, (∀ (H' : Hp) (c p : Addr), Same H H' → H c = none → H p = none → p ≠ c → H' c = some (.lst (ns.map V.int)) → H' p = some (.lst [.ref c, .int 0, .int 0]) → Q' (.ref p) H') → t0 (L2.start N [.ref a]) H Q')
    (hq : ∀ (T : Addr), q { nx := fun _ _ => False, rt := fun r _ => r = .va (.bl true) } ([Sl.un, .va (.ref T)] ++ List.replicate (N.length - 2) .un) [(T, .tape)]) :
    tSeq (tAsg t0 (gName 1)) (liS (zOf K H (fun _ => none) []) q) { nx := fun _ H' => Q .non H', rt := Q } (L2.start N [.ref a]) H := by
  refine h0 _ fun H' c p e nc np ne hc hp => ?_
  have hS1 : ∀ {b : Addr} {o : HO}, (if b = c then some (HO.lst (ns.map V.int)) else none) = some o → b = c ∧ o = .lst (ns.map V.int) := fun {b o} q => by
    by_cases hb : b = c
    · rw [if_pos hb] at q; cases q; exact ⟨hb, rfl⟩
    · rw [if_neg hb] at q; cases q
  refine ⟨fun b => if b = c then some (.lst (ns.map V.int)) else none, [(p, .tape)], _, _, ⟨⟨⟨fun _ _ q => (by cases q), fun b o q _ => e b o q, fun w hw => ?_, fun b q => ?_⟩, fun b o q => ?_, fun b q => ?_, fun w hw => ?_, by simp, fun _ r => r.elim⟩, ?_, fun i d q => ?_, fun i o q => ?_, fun i j o o' b q => ?_⟩, hq p, fun _ _ _ _ _ q => q.elim, fun _ _ _ _ _ q => q.elim, fun _ _ _ _ _ q => q.elim, fun r M' S' v H'' q c' res => ?_⟩
  · rw [List.mem_singleton.mp hw]; exact .inr np
  · cases k : H b with
    | none => exact absurd k q
    | some o => rw [e b o k]; simp
  · obtain ⟨rfl, rfl⟩ := hS1 q; exact hc
  · cases k : (if b = c then some (HO.lst (ns.map V.int)) else none) with
    | none => exact absurd k q
    | some o => obtain ⟨rfl, _⟩ := hS1 k; exact .inr nc
  · rw [List.mem_singleton.mp hw]
    exact ⟨if_neg ne, c, ns, 0, 0, hp, if_pos rfl, Int.le_refl _, Int.le_refl _⟩
  · unfold L2.start
    simp only [List.length_set, List.length_append, List.length_map, List.length_replicate, List.length_cons, List.length_nil]
    omega
  · match i with
    | 0 => cases q
    | 1 =>
      cases q
      refine ⟨.ref p, ?_, .ref p⟩
      rw [List.getElem?_set_self]
      unfold L2.start
      simp only [List.length_append, List.length_map, List.length_replicate, List.length_cons, List.length_nil]
      omega
    | i + 2 =>
      simp only [List.cons_append, List.nil_append, List.getElem?_cons_succ, List.getElem?_replicate] at q
      split at q <;> cases q
  · match i with
    | 0 => cases q
    | 1 => cases q
    | i + 2 =>
      simp only [List.cons_append, List.nil_append, List.getElem?_cons_succ, List.getElem?_replicate] at q
      split at q <;> cases q
  · match i with
    | 0 => cases q
    | 1 => cases q
    | i + 2 =>
      simp only [List.cons_append, List.nil_append, List.getElem?_cons_succ, List.getElem?_replicate] at q
      split at q <;> cases q
  · subst q
    cases res
    exact hQ H''
end PL
/-! the head's facts, with one more Bool of the written part -/
namespace PL
open PySem PySem.Spec PyProof.Rows L2 He
def obsE (fa : List Fa) (fn : List DefD) (ex : Fg → Bool) (K : Fg) : AlD := (((fa.all fun f => f.ok K) && fn.all fun d => d.ok K) && ex K, fn.map fun d => fnW K d.at_)
structure SaysE (fa : List Fa) (fn : List DefD) (ex : Fg → Bool) (K : Fg) : Prop where
  d : SaysD fa fn K
  x : ex K = true
theorem saysE_of {fa : List Fa} {fn : List DefD} {ex : Fg → Bool} {K : Fg} (h : obsE fa fn ex K = valD fn) : SaysE fa fn ex K := by
  unfold obsE valD at h
  have h1 := (Prod.mk.inj h).1
  have h2 := (Prod.mk.inj h).2
  obtain ⟨a, b⟩ := ba h1
  exact ⟨by unfold SaysD obsD valD; rw [a, h2], b⟩
/-! ### tables of the module: tuples of data -/
mutual
def tabB (K : Fg) : Value → D → Bool
  | .none, .non => true
  | .bool b, .bl c => b == c
  | .int i _, .int j => decide (i = j)
  | .str x _, .str y => decide (x = y)
  | .ref a, .tup ds => (match K.lookup a with
    | some ⟨.type c, _, .seq its _, _⟩ => decide (c = "tuple") && (decide (its.size ≤ sizeLine) && tabA K its.toList ds)
    | _ => false)
  | _, _ => false
def tabA (K : Fg) : List Value → List D → Bool
  | [], [] => true
  | v :: vs, d :: ds => tabB K v d && tabA K vs ds
  | _, _ => false
end
section
variable {K : Fg}
mutual
theorem tabB_rp (S : Hp) : ∀ (d : D) (u : Value), tabB K u d = true → ∃ v, RelV v u ∧ Rp K S v d
  | .non, u, h => by cases u <;> first | exact ⟨.non, rfl, .non⟩ | (simp [tabB] at h)
  | .bl c, u, h => by
    cases u <;> first | (simp [tabB] at h; done) | skip
    rename_i b
    simp [tabB] at h
    subst h
    exact ⟨.bl _, rfl, .bl _⟩
  | .int j, u, h => by
    cases u <;> first | (simp [tabB] at h; done) | skip
    rename_i i t
    simp [tabB] at h
    subst h
    exact ⟨.int _, ⟨_, rfl⟩, .int _⟩
  | .str y, u, h => by
    cases u <;> first | (simp [tabB] at h; done) | skip
    rename_i i t
    simp [tabB] at h
    subst h
    exact ⟨.str _, ⟨_, rfl⟩, .str _⟩
  | .lst ds, u, h => by cases u <;> simp [tabB] at h
  | .ref a, u, h => by cases u <;> simp [tabB] at h
  | .ty n, u, h => by cases u <;> simp [tabB] at h
  | .set f n, u, h => by cases u <;> simp [tabB] at h
  | .dic ks ds, u, h => by cases u <;> simp [tabB] at h
  | .obj c fs ds, u, h => by cases u <;> simp [tabB] at h
  | .tup ds, u, h => by
    cases u <;> first | (simp [tabB] at h; done) | skip
    rename_i a
    rw [tabB] at h
    split at h
    · rename_i c dd its n sl q
      simp only [Bool.and_eq_true, decide_eq_true_eq] at h
      obtain ⟨h1, h2, h3⟩ := h
      obtain ⟨vs, r1, r2⟩ := tabA_rp S ds its.toList h3
      exact ⟨.ref a, rfl, .tup (.inr ⟨_, its, n, q, by rw [h1], rfl, h2, r1⟩) r2⟩
    · cases h
theorem tabA_rp (S : Hp) : ∀ (ds : List D) (us : List Value), tabA K us ds = true → ∃ vs, Vals vs us ∧ RpA K S vs ds
  | [], us, h => by
    cases us with
    | nil => exact ⟨[], .nil, .nil⟩
    | cons => simp [tabA] at h
  | d :: ds, us, h => by
    cases us with
    | nil => simp [tabA] at h
    | cons u us =>
      rw [tabA, Bool.and_eq_true] at h
      obtain ⟨v, a1, a2⟩ := tabB_rp S d u h.1
      obtain ⟨vs, b1, b2⟩ := tabA_rp S ds us h.2
      exact ⟨v :: vs, .cons a1 b1, .cons a2 b2⟩
end
theorem tabB_ok {a : Addr} {d : D} (h : tabB K (.ref a) d = true) (S : Hp) : Rp K S (.ref a) d := by
  obtain ⟨v, r, q⟩ := tabB_rp S d _ h
  cases v with
  | ref b => cases r; exact q
  | non => cases r
  | bl _ => cases r
  | int _ => obtain ⟨_, e⟩ := r; cases e
  | str _ => obtain ⟨_, e⟩ := r; cases e
  | byt _ => obtain ⟨_, e⟩ := r; cases e
  | flt _ => obtain ⟨_, e⟩ := r; cases e
  | ty _ => cases r
end
/-! ### data compared -/
theorem cmpOk_int {i : Int} : cmpOk (.int i) = true := by rfl
theorem cmpOk_bl {i : Bool} : cmpOk (.bl i) = true := by rfl
theorem cmpOk_non : cmpOk .non = true := by rfl
theorem deq_int {i j : Int} : deq (.int i) (.int j) = decide (i = j) := by
  show (i == j) = decide (i = j)
  rw [Bool.beq_eq_decide_eq]
theorem deq_bl {i j : Bool} : deq (.bl i) (.bl j) = decide (i = j) := by
  show (i == j) = decide (i = j)
  rw [Bool.beq_eq_decide_eq]
theorem deq_str {i j : Str} : deq (.str i) (.str j) = decide (i = j) := by
  show (i == j) = decide (i = j)
  rw [Bool.beq_eq_decide_eq]
theorem deq_refl {d : D} (h : cmpOk d = true) : deq d d = true := by
  unfold cmpOk at h
  rw [Bool.and_eq_true] at h
  exact SeqAt.eqv_refl _ (SeqAt.canLay_of_shaped h.2)
theorem isi_non_bool : isInst .non "bool" = some false := by show kitB "NoneType" "bool" = some false; decide +kernel
theorem isi_non_int : isInst .non "int" = some false := by show kitB "NoneType" "int" = some false; decide +kernel
theorem isi_non_str : isInst .non "str" = some false := by show kitB "NoneType" "str" = some false; decide +kernel
theorem isi_non_list : isInst .non "list" = some false := by show kitB "NoneType" "list" = some false; decide +kernel
theorem isi_non_tuple : isInst .non "tuple" = some false := by show kitB "NoneType" "tuple" = some false; decide +kernel
theorem isi_bl_bool {i : Bool} : isInst (.bl i) "bool" = some true := by show kitB "bool" "bool" = some true; decide +kernel
theorem isi_bl_int {i : Bool} : isInst (.bl i) "int" = some true := by show kitB "bool" "int" = some true; decide +kernel
theorem isi_bl_str {i : Bool} : isInst (.bl i) "str" = some false := by show kitB "bool" "str" = some false; decide +kernel
theorem isi_bl_list {i : Bool} : isInst (.bl i) "list" = some false := by show kitB "bool" "list" = some false; decide +kernel
theorem isi_bl_tuple {i : Bool} : isInst (.bl i) "tuple" = some false := by show kitB "bool" "tuple" = some false; decide +kernel
theorem isi_int_bool {i : Int} : isInst (.int i) "bool" = some false := by show kitB "int" "bool" = some false; decide +kernel
theorem isi_int_int {i : Int} : isInst (.int i) "int" = some true := by show kitB "int" "int" = some true; decide +kernel
theorem isi_int_str {i : Int} : isInst (.int i) "str" = some false := by show kitB "int" "str" = some false; decide +kernel
theorem isi_int_list {i : Int} : isInst (.int i) "list" = some false := by show kitB "int" "list" = some false; decide +kernel
theorem isi_int_tuple {i : Int} : isInst (.int i) "tuple" = some false := by show kitB "int" "tuple" = some false; decide +kernel
theorem isi_str_bool {i : Str} : isInst (.str i) "bool" = some false := by show kitB "str" "bool" = some false; decide +kernel
theorem isi_str_int {i : Str} : isInst (.str i) "int" = some false := by show kitB "str" "int" = some false; decide +kernel
theorem isi_str_str {i : Str} : isInst (.str i) "str" = some true := by show kitB "str" "str" = some true; decide +kernel
theorem isi_str_list {i : Str} : isInst (.str i) "list" = some false := by show kitB "str" "list" = some false; decide +kernel
theorem isi_str_tuple {i : Str} : isInst (.str i) "tuple" = some false := by show kitB "str" "tuple" = some false; decide +kernel
theorem isi_lst_bool {i : List D} : isInst (.lst i) "bool" = some false := by show kitB "list" "bool" = some false; decide +kernel
theorem isi_lst_int {i : List D} : isInst (.lst i) "int" = some false := by show kitB "list" "int" = some false; decide +kernel
theorem isi_lst_str {i : List D} : isInst (.lst i) "str" = some false := by show kitB "list" "str" = some false; decide +kernel
theorem isi_lst_list {i : List D} : isInst (.lst i) "list" = some true := by show kitB "list" "list" = some true; decide +kernel
theorem isi_lst_tuple {i : List D} : isInst (.lst i) "tuple" = some false := by show kitB "list" "tuple" = some false; decide +kernel
theorem isi_tup_bool {i : List D} : isInst (.tup i) "bool" = some false := by show kitB "tuple" "bool" = some false; decide +kernel
theorem isi_tup_int {i : List D} : isInst (.tup i) "int" = some false := by show kitB "tuple" "int" = some false; decide +kernel
theorem isi_tup_str {i : List D} : isInst (.tup i) "str" = some false := by show kitB "tuple" "str" = some false; decide +kernel
theorem isi_tup_list {i : List D} : isInst (.tup i) "list" = some false := by show kitB "tuple" "list" = some false; decide +kernel
theorem isi_tup_tuple {i : List D} : isInst (.tup i) "tuple" = some true := by show kitB "tuple" "tuple" = some true; decide +kernel
/-- may be compared: how deep -/
def Ck (n : Nat) (d : D) : Prop := isPure d = true ∧ (toPy d).canLay0 = true ∧ (toPy d).depth ≤ n
def CkA (n : Nat) (ds : List D) : Prop := isPureA ds = true ∧ PyData.canLayAll0 (toPyA ds) = true ∧ PyData.depthAll (toPyA ds) ≤ n
theorem cmpOk_iff {d : D} : cmpOk d = true ↔ Ck 64 d := by
  unfold cmpOk Ck SeqAt.shaped
  simp only [Bool.and_eq_true, decide_eq_true_eq]
theorem ckA_iff {n : Nat} : ∀ {ds : List D}, CkA n ds ↔ ∀ d ∈ ds, Ck n d
  | [] => ⟨fun _ _ h => (by simp at h), fun _ => ⟨rfl, rfl, Nat.zero_le _⟩⟩
  | d :: ds => by
    have ih := ckA_iff (n := n) (ds := ds)
    unfold CkA at ih ⊢
    unfold Ck at ih ⊢
    simp only [isPureA, toPyA, PyData.canLayAll0, PyData.depthAll, Bool.and_eq_true, Nat.max_le, List.mem_cons, forall_eq_or_imp]
    rw [← ih]
    constructor
    · rintro ⟨⟨a, b⟩, ⟨c, e⟩, f, g⟩; exact ⟨⟨a, c, f⟩, b, e, g⟩
    · rintro ⟨⟨a, c, f⟩, b, e, g⟩; exact ⟨⟨a, b⟩, ⟨c, e⟩, f, g⟩
theorem ck_lst {n : Nat} {ds : List D} : Ck (n + 1) (.lst ds) ↔ ∀ d ∈ ds, Ck n d := by
  rw [← ckA_iff]
  unfold Ck CkA
  simp only [isPure, toPy, PyData.canLay0, PyData.depth, Nat.add_le_add_iff_right]
theorem ck_tup {n : Nat} {ds : List D} : Ck (n + 1) (.tup ds) ↔ ∀ d ∈ ds, Ck n d := by
  rw [← ckA_iff]
  unfold Ck CkA
  simp only [isPure, toPy, PyData.canLay0, PyData.depth, Nat.add_le_add_iff_right]
theorem ck_int {n : Nat} {i : Int} : Ck n (.int i) := ⟨rfl, rfl, Nat.zero_le _⟩
theorem ck_bl {n : Nat} {i : Bool} : Ck n (.bl i) := ⟨rfl, rfl, Nat.zero_le _⟩
theorem ck_non {n : Nat} : Ck n .non := ⟨rfl, rfl, Nat.zero_le _⟩
theorem ck_str {n : Nat} {x : Str} (h : PyData.strOk x = true) : Ck n (.str x) := ⟨rfl, by simpa [toPy, PyData.canLay0] using h, by simp [toPy, PyData.depth]⟩
theorem Ck.mono {n m : Nat} {d : D} (h : Ck n d) (k : n ≤ m) : Ck m d := ⟨h.1, h.2.1, Nat.le_trans h.2.2 k⟩
theorem ck_intsA {n : Nat} {ns : List Int} : ∀ d ∈ ns.map D.int, Ck n d := fun d h => by
  obtain ⟨i, _, rfl⟩ := List.mem_map.mp h
  exact ck_int
def deqA : List D → List D → Bool
  | [], [] => true
  | x :: xs, y :: ys => deq x y && deqA xs ys
  | _, _ => false
theorem deqA_eq : ∀ xs ys : List D, PyData.eqvAll (toPyA xs) (toPyA ys) = deqA xs ys
  | [], [] => by simp [toPyA, PyData.eqvAll, deqA]
  | [], _ :: _ => by simp [toPyA, PyData.eqvAll, deqA]
  | _ :: _, [] => by simp [toPyA, PyData.eqvAll, deqA]
  | x :: xs, y :: ys => by simp [toPyA, PyData.eqvAll, deqA, deqA_eq xs ys, deq]
theorem deq_tup {xs ys : List D} : deq (.tup xs) (.tup ys) = deqA xs ys := by
  unfold deq
  rw [toPy, toPy, PyData.eqv, deqA_eq]
theorem deq_lst {xs ys : List D} : deq (.lst xs) (.lst ys) = deqA xs ys := by
  unfold deq
  rw [toPy, toPy, PyData.eqv, deqA_eq]
theorem deqA_nil : deqA [] [] = true := rfl
theorem deqA_cons {x y : D} {xs ys : List D} : deqA (x :: xs) (y :: ys) = (deq x y && deqA xs ys) := rfl
theorem deqA_ints : ∀ {ns ms : List Int}, deqA (ns.map D.int) (ms.map D.int) = decide (ns = ms)
  | [], [] => by simp [deqA]
  | [], _ :: _ => by simp [deqA]
  | _ :: _, [] => by simp [deqA]
  | n :: ns, m :: ms => by
    rw [List.map_cons, List.map_cons, deqA_cons, deqA_ints, deq_int]
    by_cases h : n = m <;> by_cases h2 : ns = ms <;> simp [h, h2]
/-! ### readings opened -/
theorem atI0 {d : D} {ds : List D} : atI (d :: ds) 0 = some d := by
  unfold atI ixN
  rw [if_pos (Int.le_refl _), if_pos (by simp)]
  rfl
theorem atI_one {a d : D} {ds : List D} : atI (a :: d :: ds) 1 = some d := by
  unfold atI ixN
  rw [if_pos (by decide), if_pos (by simp only [List.length_cons]; omega)]
  rfl
theorem atI1 {a d : D} {ds : List D} : atI (a :: d :: ds) 1 = some d := atI_one
theorem atI2 {a b d : D} {ds : List D} : atI (a :: b :: d :: ds) 2 = some d := by
  unfold atI ixN
  rw [if_pos (by decide), if_pos (by simp only [List.length_cons]; omega)]
  rfl
theorem atI3 {a b c d : D} {ds : List D} : atI (a :: b :: c :: d :: ds) 3 = some d := by
  unfold atI ixN
  rw [if_pos (by decide), if_pos (by simp only [List.length_cons]; omega)]
  rfl
theorem atI4 {a b c e d : D} {ds : List D} : atI (a :: b :: c :: e :: d :: ds) 4 = some d := by
  unfold atI ixN
  rw [if_pos (by decide), if_pos (by simp only [List.length_cons]; omega)]
  rfl
theorem atI_nn {ds : List D} {i : Int} {d : D} (h0 : 0 ≤ i) (h : ds[i.toNat]? = some d) : atI ds i = some d := by
  unfold atI ixN
  have hl := (List.getElem?_eq_some_iff.mp h).1
  rw [if_pos h0, if_pos (by omega)]
  exact h
theorem ixN31 : ixN 3 1 = some 1 := rfl
theorem ixN32 : ixN 3 2 = some 2 := rfl
/-- a whole number within bounds -/
def InB (a b : Int) (d : D) : Prop := ∃ v, d = .int v ∧ a ≤ v ∧ v ≤ b
theorem InB.mk {a b v : Int} (h1 : a ≤ v) (h2 : v ≤ b) : InB a b (.int v) := ⟨v, rfl, h1, h2⟩
theorem sSeq_i {t u : QS} {D' : QK} {ρ : Ev} {M : Mu} (h : ∀ N : Ev → Mu → Prop, (∀ ρ M, u D' ρ M → N ρ M) → t { D' with nx := N } ρ M) : sSeq t u D' ρ M := h _ fun _ _ h => h
end PL
namespace PL
open PySem PySem.Spec PyProof.Rows L2
/-- a comprehension that picks and maps, without effect -/
theorem eLc_fm {qi : QA} {g : QG} {qt : QT} {qe : QE} {vs : List Nat} {ρ : Ev} {M : Mu} {Q : Sl → Ev → Mu → Prop} (h : D → Option D) (ds : List D)
    (hq : ∀ Q : List D → Ev → Mu → Prop, Q ds ρ M → qi ρ M Q) (hv : notOw ρ vs = true) (hl : ds.length < 16777216)
    (hs : ∀ (i : Nat) (d : D) (acc : List D) (J : List D → Mu → Prop), ds[i]? = some d → acc.length < 16777216 → J (acc ++ (h d).toList) M → g d (wipeE ρ vs) fun ρ2 => wipeE ρ2 vs = wipeE ρ vs ∧ qt ρ2 M fun b ρ3 M3 => ρ3 = ρ2 ∧
      (if b = true then qe ρ3 M3 fun r ρ4 M4 => ρ4 = ρ3 ∧ acc.length < 16777216 ∧ J (acc ++ [r.val]) M4 else J acc M3))
    (hk : Q (.ow (.lst (ds.filterMap h))) ρ M) : eLc qi g qt qe vs ρ M Q := by
  refine hq _ ⟨hv, fun i acc M' => M' = M ∧ acc = (ds.take i).filterMap h ∧ i ≤ ds.length, ⟨rfl, rfl, Nat.zero_le _⟩, ?_, ?_⟩
  · rintro i d acc M' hd ⟨rfl, rfl, hi⟩
    have hlt : i < ds.length := by
      rcases Nat.lt_or_ge i ds.length with w | w
      · exact w
      · rw [List.getElem?_eq_none w] at hd; cases hd
    have ht : ds.take (i + 1) = ds.take i ++ [d] := by rw [List.take_add_one, hd]; rfl
    have hlen : ((ds.take i).filterMap h).length < 16777216 := by
      have h1 := List.length_filterMap_le h (ds.take i)
      rw [List.length_take] at h1
      omega
    refine hs i d _ (fun acc M2 => M2 = M' ∧ acc = (ds.take (i + 1)).filterMap h ∧ i + 1 ≤ ds.length) hd hlen ⟨rfl, ?_, by omega⟩
    rw [ht, List.filterMap_append]
    cases e : h d <;> simp [e]
  · rintro acc M' ⟨rfl, rfl, _⟩
    rw [List.take_length]
    exact hk
/-- the whole numbers from lo that are less than hi -/
def rgI (lo hi : Int) : List Int := (List.range (hi - lo).toNat).map fun (k : Nat) => lo + (k : Int)
theorem rangeL_rgI (lo hi : Int) : rangeL lo hi = (rgI lo hi).map D.int := by
  unfold rangeL rgI
  rw [List.map_map]
  rfl
theorem rgI_len (lo hi : Int) : (rgI lo hi).length = (hi - lo).toNat := by unfold rgI; rw [List.length_map, List.length_range]
theorem rgI_mem {lo hi n : Int} : n ∈ rgI lo hi ↔ lo ≤ n ∧ n < hi := by
  unfold rgI
  rw [List.mem_map]
  constructor
  · rintro ⟨k, h, rfl⟩
    have := List.mem_range.mp h
    omega
  · intro h
    exact ⟨(n - lo).toNat, List.mem_range.mpr (by omega), by omega⟩
theorem rgI_get {lo hi : Int} {i : Nat} {n : Int} (h : (rgI lo hi)[i]? = some n) : n = lo + i ∧ i < (hi - lo).toNat := by
  unfold rgI at h
  rw [List.getElem?_map] at h
  cases e : (List.range (hi - lo).toNat)[i]? with
  | none => rw [e] at h; cases h
  | some k =>
    rw [e] at h
    have h : lo + (k : Int) = n := Option.some.inj h
    obtain ⟨h1, h2⟩ := List.getElem?_eq_some_iff.mp e
    rw [List.getElem_range] at h2
    rw [List.length_range] at h1
    omega
theorem rgI_nil {lo hi : Int} (h : hi ≤ lo) : rgI lo hi = [] := by
  unfold rgI
  rw [show (hi - lo).toNat = 0 by omega]
  rfl
theorem rgI_cons {lo hi : Int} (h : lo < hi) : rgI lo hi = lo :: rgI (lo + 1) hi := by
  unfold rgI
  rw [show (hi - lo).toNat = (hi - (lo + 1)).toNat + 1 by omega, List.range_succ_eq_map, List.map_cons, List.map_map]
  congr 1
  · simp
  · refine List.map_congr_left fun k _ => ?_
    simp only [Function.comp]
    omega
/-- what a comprehension over whole numbers picks, when it keeps the number -/
def pickI (P : Int → Prop) [DecidablePred P] : D → Option D
  | .int n => if P n then some (.int n) else none
  | _ => none
theorem pickI_map (P : Int → Prop) [DecidablePred P] : ∀ ns : List Int, (ns.map D.int).filterMap (pickI P) = (ns.filter fun n => decide (P n)).map D.int
  | [] => rfl
  | n :: ns => by
    rw [List.map_cons, List.filterMap_cons, List.filter_cons, pickI_map P ns]
    unfold pickI
    by_cases e : P n
    · simp [e]
    · simp [e]
def chS (r : Sl) (A B : Prop) : Prop := match r with
  | .va (.bl true) => A
  | .va (.bl false) => B
  | _ => False
theorem chS_true {A B : Prop} : chS (.va (.bl true)) A B = A := rfl
theorem chS_false {A B : Prop} : chS (.va (.bl false)) A B = B := rfl
theorem eChain_eq {od od' : OD} {qa qb qc : QB} : eChain od od' qa qb qc = fun ρ M Q => qa ρ M fun d1 ρ1 M1 => qb ρ1 M1 fun d2 ρ2 M2 => od d1 d2 fun r => chS r (qc ρ2 M2 fun d3 ρ3 M3 => od' d2 d3 fun r => Q r ρ3 M3) (Q (.va (.bl false)) ρ2 M2) := by
  rfl
theorem wipeE_nil {ρ : Ev} : wipeE ρ [] = ρ := rfl
theorem wipeE_cons {ρ : Ev} {v : Nat} {vs : List Nat} : wipeE ρ (v :: vs) = (wipeE ρ vs).set v .un := rfl
theorem pickI_t {P : Int → Prop} [DecidablePred P] {n : Int} (h : P n) : pickI P (.int n) = some (.int n) := if_pos h
theorem pickI_f {P : Int → Prop} [DecidablePred P] {n : Int} (h : ¬ P n) : pickI P (.int n) = none := if_neg h
/-- what a picking comprehension's turn asks -/
theorem pickI_J {P : Int → Prop} [DecidablePred P] {n : Int} {acc : List D} {J : List D → Mu → Prop} {M : Mu} (hl : acc.length < 16777216) (h : J (acc ++ (pickI P (.int n)).toList) M) : if P n then acc.length < 16777216 ∧ J (acc ++ [D.int n]) M else J acc M := by
  by_cases e : P n
  · rw [if_pos e]; rw [pickI_t e] at h; exact ⟨hl, h⟩
  · rw [if_neg e]; rw [pickI_f e] at h; simpa using h
end PL
namespace PL
open PySem PySem.Spec PyProof.Rows L2
/-! ### comparing literal data -/
def CkAl (n : Nat) (ds : List D) : Prop := ∀ d ∈ ds, Ck n d
theorem ckAl_nil {n : Nat} : CkAl n [] := fun _ h => (by cases h)
theorem ckAl_cons {n : Nat} {d : D} {ds : List D} : CkAl n (d :: ds) ↔ Ck n d ∧ CkAl n ds := by unfold CkAl; simp
theorem ckAl_ints {n : Nat} {ns : List Int} : CkAl n (ns.map D.int) := ck_intsA
theorem ckAl_rangeL {n : Nat} {a b : Int} : CkAl n (rangeL a b) := by rw [rangeL_rgI]; exact ck_intsA
theorem cmpOk_lstA {ds : List D} : cmpOk (.lst ds) = true ↔ CkAl 63 ds := cmpOk_iff.trans ck_lst
theorem cmpOk_tupA {ds : List D} : cmpOk (.tup ds) = true ↔ CkAl 63 ds := cmpOk_iff.trans ck_tup
theorem ckA_lst {n : Nat} {ds : List D} : Ck (n + 1) (.lst ds) ↔ CkAl n ds := ck_lst
theorem ckA_tup {n : Nat} {ds : List D} : Ck (n + 1) (.tup ds) ↔ CkAl n ds := ck_tup
theorem cmpOk_str {x : Str} : cmpOk (.str x) = true ↔ PyData.strOk x = true := by
  rw [cmpOk_iff]
  constructor
  · intro h
    have := h.2.1
    simpa [toPy, PyData.canLay0] using this
  · exact ck_str
theorem ck_strI {n : Nat} {x : Str} : Ck n (.str x) ↔ PyData.strOk x = true := ⟨fun h => by simpa [toPy, PyData.canLay0] using h.2.1, ck_str⟩
theorem chS_bl {b : Bool} {A B : Prop} : chS (.va (.bl b)) A B = (if b = true then A else B) := by cases b <;> rfl
theorem eAnd_eq {qa qb : QE} : eAnd qa qb = fun ρ M Q => qa ρ M fun r ρ1 M1 => chS r (qb ρ1 M1 Q) (Q (.va (.bl false)) ρ1 M1) := rfl
theorem eOr_eq {qa qb : QE} : eOr qa qb = fun ρ M Q => qa ρ M fun r ρ1 M1 => chS r (Q (.va (.bl true)) ρ1 M1) (qb ρ1 M1 Q) := by
  unfold eOr
  funext ρ M Q
  congr 1
  funext r ρ1 M1
  unfold chS
  split <;> first | rfl | (split <;> first | rfl | (rename_i a b c; cases b) | skip)
  all_goals first | rfl | contradiction | skip
/-- a statement that is never come to -/
def sNever : QS := fun _ _ _ => False
theorem qs_never {X : Cx} {z : Z} {s : Stmt} : PS X s (liS z sNever) := by
  constructor
  intro pins s2 σ H Q I h
  obtain ⟨_, _, _, _, _, h, _⟩ := h
  exact h.elim
/-- a comprehension that picks and maps, without effect -/
theorem eLc_fmj {qi : QA} {g : QG} {qt : QT} {qe : QE} {vs : List Nat} {ρ0 : Ev} {M0 : Mu} {Q : Sl → Ev → Mu → Prop} (h : D → Option D) (ds : List D) (ρ : Ev) (M : Mu)
    (hq : ∀ Q : List D → Ev → Mu → Prop, Q ds ρ M → qi ρ0 M0 Q) (hv : notOw ρ vs = true) (hl : ds.length < 16777216)
    (hs : ∀ (i : Nat) (d : D) (acc : List D) (J : List D → Mu → Prop), ds[i]? = some d → acc.length < 16777216 → J (acc ++ (h d).toList) M → g d (wipeE ρ vs) fun ρ2 => wipeE ρ2 vs = wipeE ρ vs ∧ qt ρ2 M fun b ρ3 M3 => ρ3 = ρ2 ∧
      (if b = true then qe ρ3 M3 fun r ρ4 M4 => ρ4 = ρ3 ∧ acc.length < 16777216 ∧ J (acc ++ [r.val]) M4 else J acc M3))
    (hk : Q (.ow (.lst (ds.filterMap h))) ρ M) : eLc qi g qt qe vs ρ0 M0 Q := by
  refine hq _ ⟨hv, fun i acc M' => M' = M ∧ acc = (ds.take i).filterMap h ∧ i ≤ ds.length, ⟨rfl, rfl, Nat.zero_le _⟩, ?_, ?_⟩
  · rintro i d acc M' hd ⟨rfl, rfl, hi⟩
    have hlt : i < ds.length := by
      rcases Nat.lt_or_ge i ds.length with w | w
      · exact w
      · rw [List.getElem?_eq_none w] at hd; cases hd
    have ht : ds.take (i + 1) = ds.take i ++ [d] := by rw [List.take_add_one, hd]; rfl
    have hlen : ((ds.take i).filterMap h).length < 16777216 := by
      have h1 := List.length_filterMap_le h (ds.take i)
      rw [List.length_take] at h1
      omega
    refine hs i d _ (fun acc M2 => M2 = M' ∧ acc = (ds.take (i + 1)).filterMap h ∧ i + 1 ≤ ds.length) hd hlen ⟨rfl, ?_, by omega⟩
    rw [ht, List.filterMap_append]
    cases e : h d <;> simp [e]
  · rintro acc M' ⟨rfl, rfl, _⟩
    rw [List.take_length]
    exact hk
def mapI (f : Int → Int) : D → Option D
  | .int n => some (.int (f n))
  | _ => none
theorem mapI_map (f : Int → Int) : ∀ ns : List Int, (ns.map D.int).filterMap (mapI f) = (ns.map f).map D.int
  | [] => rfl
  | n :: ns => by
    rw [List.map_cons, List.filterMap_cons, List.map_cons, mapI_map f ns]
    rfl
theorem at_ints {ns : List Int} {i : Int} (h0 : 0 ≤ i) (h1 : i < ns.length) : ∃ v, ns[i.toNat]? = some v ∧ atI (ns.map D.int) i = some (.int v) := by
  have h2 : i.toNat < ns.length := by omega
  refine ⟨ns[i.toNat], List.getElem?_eq_getElem h2, atI_nn h0 ?_⟩
  rw [List.getElem?_map, List.getElem?_eq_getElem h2]
  rfl
theorem ints_get {ns : List Int} {i : Nat} {d : D} (h : (ns.map D.int)[i]? = some d) : ∃ v, d = .int v ∧ ns[i]? = some v := by
  rw [List.getElem?_map] at h
  cases e : ns[i]? with
  | none => rw [e] at h; cases h
  | some v => rw [e] at h; exact ⟨v, (Option.some.inj h).symm, rfl⟩
end PL
namespace PL
open PySem PySem.Spec PyProof.Rows L2
theorem intsOf_ints : ∀ ns : List Int, intsOf (ns.map D.int) = some ns
  | [] => rfl
  | n :: ns => by
    rw [List.map_cons]
    unfold intsOf
    rw [intsOf_ints ns]
    rfl
theorem boolsOf_bls : ∀ ns : List Bool, boolsOf (ns.map D.bl) = some ns
  | [] => rfl
  | n :: ns => by
    rw [List.map_cons]
    unfold boolsOf
    rw [boolsOf_bls ns]
    rfl
theorem plAnyI {a : Int} : ∀ ns : List Int, ((ns.map D.int).any fun x => deq x (.int a)) = decide (a ∈ ns)
  | [] => by simp
  | n :: ns => by
    rw [List.map_cons, List.any_cons, plAnyI ns, deq_int, Bool.eq_iff_iff]
    simp only [Bool.or_eq_true, decide_eq_true_eq, List.mem_cons]
    rw [show (n = a) = (a = n) from propext ⟨Eq.symm, Eq.symm⟩]
theorem plAnyR {lo hi a : Int} : ((rangeL lo hi).any fun x => deq x (.int a)) = decide (lo ≤ a ∧ a < hi) := by
  rw [rangeL_rgI, plAnyI, Bool.eq_iff_iff]
  simp [rgI_mem]
/-- strictly ascending -/
abbrev Asc (ns : List Int) : Prop := ns.Pairwise (· < ·)
/-- how many are below -/
def cntL (ns : List Int) (r : Int) : Int := ((ns.filter fun n => decide (n < r)).length : Nat)
theorem asc_of {ms : List Int} (h : ms.Pairwise (· ≤ ·)) (n : ms.Nodup) : Asc ms := by
  have := List.Pairwise.and h n
  exact this.imp fun ⟨a, b⟩ => by omega
theorem Asc.get {ns : List Int} (h : Asc ns) {i j : Nat} {a b : Int} (hij : i < j) (ha : ns[i]? = some a) (hb : ns[j]? = some b) : a < b := by
  obtain ⟨h1, rfl⟩ := List.getElem?_eq_some_iff.mp ha
  obtain ⟨h2, rfl⟩ := List.getElem?_eq_some_iff.mp hb
  exact List.pairwise_iff_getElem.mp h i j h1 h2 hij
/-- the place among ascending ones -/
theorem cntL_at {ns : List Int} (h : Asc ns) {k : Nat} {r : Int} (hk : k ≤ ns.length) (h1 : ∀ i v, i < k → ns[i]? = some v → v < r) (h2 : ∀ i v, k ≤ i → ns[i]? = some v → r ≤ v) : cntL ns r = k := by
  unfold cntL
  have e : ns.filter (fun n => decide (n < r)) = ns.take k := by
    conv => lhs; rw [← List.take_append_drop k ns]
    rw [List.filter_append, List.filter_eq_self.mpr, List.filter_eq_nil_iff.mpr, List.append_nil]
    · intro v hv
      obtain ⟨i, hi, rfl⟩ := List.mem_iff_getElem.mp hv
      rw [List.getElem_drop]
      have := h2 (k + i) _ (by omega) (List.getElem?_eq_getElem (by rw [List.length_drop] at hi; omega))
      simp; omega
    · intro v hv
      obtain ⟨i, hi, rfl⟩ := List.mem_iff_getElem.mp hv
      rw [List.getElem_take]
      have := h1 i _ (by rw [List.length_take] at hi; omega) (List.getElem?_eq_getElem (by rw [List.length_take] at hi; omega))
      simp; omega
  rw [e, List.length_take]
  omega
theorem cntL_le {ns : List Int} {r : Int} : 0 ≤ cntL ns r ∧ cntL ns r ≤ ns.length := by
  unfold cntL
  have := List.length_filter_le (fun n => decide (n < r)) ns
  omega
/-- before the place they are less, from it on they aren't -/
theorem cntL_lt {ns : List Int} (h : Asc ns) {r : Int} {i : Nat} {v : Int} (e : ns[i]? = some v) : v < r ↔ (i : Int) < cntL ns r := by
  induction ns generalizing i with
  | nil => cases e
  | cons n ns ih =>
    have hA : Asc ns := (List.pairwise_cons.mp h).2
    have hn := (List.pairwise_cons.mp h).1
    unfold cntL at ih ⊢
    rw [List.filter_cons]
    by_cases c : n < r
    · rw [if_pos (by simp [c]), List.length_cons]
      cases i with
      | zero => cases e; constructor <;> intro _ <;> omega
      | succ i =>
        have := ih hA (i := i) e
        rw [this]
        omega
    · rw [if_neg (by simp [c])]
      have e2 : ns.filter (fun n => decide (n < r)) = [] := List.filter_eq_nil_iff.mpr fun w hw => by have := hn w hw; simp; omega
      rw [e2]
      have : n ≤ v := by
        cases i with
        | zero => cases e; omega
        | succ i => have := hn v (List.mem_of_getElem? e); omega
      simp only [List.length_nil]
      constructor <;> intro _ <;> omega
/-- a loop over these data -/
def LoopK (g : QG) (tb : QS) (D' : QK) (ds : List D) (ρ : Ev) (M : Mu) : Prop := ∃ I : Nat → Ev → Mu → Prop, I 0 ρ M ∧
  (∀ i d ρ M, ds[i]? = some d → I i ρ M → g d ρ fun ρ2 => tb { nx := I (i + 1), ct := I (i + 1), bk := D'.nx, rt := D'.rt } ρ2 M) ∧ (∀ ρ M, I ds.length ρ M → D'.nx ρ M)
theorem sFor_k {qi : QA} {g : QG} {tb : QS} {D' : QK} {ρ : Ev} {M : Mu} (h : ∀ N : List D → Ev → Mu → Prop, (∀ ds ρ1 M1, LoopK g tb D' ds ρ1 M1 → N ds ρ1 M1) → qi ρ M N) : sFor qi g tb D' ρ M := h _ fun _ _ _ h => h
theorem loop_i {g : QG} {tb : QS} {D' : QK} {ds : List D} {ρ : Ev} {M : Mu} (I : Nat → Ev → Mu → Prop) (h0 : I 0 ρ M)
    (hs : ∀ J : Nat → Ev → Mu → Prop, (∀ i ρ M, I i ρ M → J i ρ M) → ∀ i d ρ M, ds[i]? = some d → I i ρ M → g d ρ fun ρ2 => tb { nx := J (i + 1), ct := J (i + 1), bk := D'.nx, rt := D'.rt } ρ2 M)
    (hn : ∀ ρ M, I ds.length ρ M → D'.nx ρ M) : LoopK g tb D' ds ρ M := ⟨I, h0, hs I fun _ _ _ h => h, hn⟩
theorem sWhile_i {c : QT} {tb : QS} {D' : QK} {ρ : Ev} {M : Mu} (I : Nat → Ev → Mu → Prop) (m0 : Nat) (h0 : I m0 ρ M)
    (hs : ∀ (m : Nat) (J : Ev → Mu → Prop), (∀ m' ρ M, m' < m → I m' ρ M → J ρ M) → ∀ ρ M, I m ρ M → c ρ M fun b ρ1 M1 => if b = true then tb { nx := J, ct := J, bk := D'.nx, rt := D'.rt } ρ1 M1 else D'.nx ρ1 M1) : sWhile c tb D' ρ M :=
  ⟨I, ⟨m0, h0⟩, fun m ρ M h => hs m (fun ρ M => ∃ m', m' < m ∧ I m' ρ M) (fun m' ρ M l h => ⟨m', l, h⟩) ρ M h⟩
end PL
namespace PL
open PySem PySem.Spec PyProof.Rows L2
/-! ### a, b, .. = a tuple or a list -/
def gSq (n : Nat) (gs : QGs) : QG := fun d ρ Q => match d with
  | .tup ds => ds.length = n ∧ gs ds ρ Q
  | .lst ds => ds.length = n ∧ gs ds ρ Q
  | _ => False
section
variable {X : Cx} {z : Z} {pos : Pos} {e o : Expr} {es : List Expr} {gs : QGs} {as : List Nat}
theorem qg_lst {k n : Nat} (hc : X.calm = true) (h : PGs X es (liGs z as gs)) (hK : X.K = z.K := by first | assumption | rfl) (hn : (assignEach es X.env).length = n := by rfl) (hst : (assignEach es X.env).findIdx? (·.1) = none := by rfl) :
    PG X (.Tuple es k pos) (liG z as fun d ρ Q => match d with | .lst ds => ds.length = n ∧ gs ds ρ Q | _ => False) :=
  pg_w (pg_lst hc h hn hst) fun v σ H Q ⟨S, M, ρ, d, Q0, sim, r, h, post⟩ => by
    dsimp only at h
    split at h
    · cases r with
      | lst r1 r2 => exact ⟨_, _, rfl, .of (sim.sub _ _ r1), by rw [r2.length]; exact h.1, S, M, ρ, _, Q0, sim, r2, h.2, post⟩
    · exact h.elim
theorem qg_seq {k n : Nat} (hc : X.calm = true) (h : PGs X es (liGs z as gs)) (hK : X.K = z.K := by first | assumption | rfl) (hn : (assignEach es X.env).length = n := by rfl) (hst : (assignEach es X.env).findIdx? (·.1) = none := by rfl) : PG X (.Tuple es k pos) (liG z as (gSq n gs)) := by
  refine ⟨fun pins s σ H v u Q I r ⟨S, M, ρ, d, Q0, sim, rp, h0, post⟩ => ?_⟩
  unfold gSq at h0
  split at h0
  · exact (qg_tup (n := n) hc h hK hn hst).run pins s σ H v u Q I r ⟨S, M, ρ, _, Q0, sim, rp, h0, post⟩
  · exact (qg_lst (n := n) hc h hK hn hst).run pins s σ H v u Q I r ⟨S, M, ρ, _, Q0, sim, rp, h0, post⟩
  · exact h0.elim

/-! ### methods of built-in types -/
abbrev MD := D → List D → (Sl → Prop) → Prop
/-- the built-in type of data -/
def tyM : D → String
  | .lst _ => "list"
  | .str _ => "str"
  | .set _ _ => "set"
  | _ => ""
def eM (T : String) (md : MD) (qo : QB) (qr : QA) : QE := fun ρ M Q => qo ρ M fun d ρ1 M1 => tyM d = T ∧ qr ρ1 M1 fun ds ρ2 M2 => md d ds fun r => Q r ρ2 M2
/-- l.index(x): the first equal one -/
def mIndex : MD := fun d ds Q => match d, ds with
  | .lst xs, [a] => (cmpOk a = true ∧ cmpOk (.lst xs) = true) ∧ (match xs.findIdx? (fun x => deq x a) with | some j => Q (.va (.int (j : Nat))) | none => False)
  | _, _ => False
/-! ### sets of ints -/
theorem poE_set {S : Hp} {M : Mu} {H : Hp} {ρ : Ev} {σ : St} {Q0 : Sl → Prop} {p : Addr} {f : Int → Bool} {n : Nat} (sim : Sim z S M ρ σ H) (hp : H p = none) (q : Q0 (.va (.set f n))) : PoE z S M σ H (fun r ρ' M' => ρ' = ρ ∧ M' = M ∧ Q0 r) (.ref p) (upd H p (.set f n)) := by
  obtain ⟨a, b⟩ := sim.alloc (o := .set f n) hp
  exact ⟨_, ρ, M, _, ⟨rfl, rfl, q⟩, b, a, Rp.set upd_same⟩
/-- set(tuple of ints) -/
def cSet : CD := fun ds Q => match ds with
  | [.tup xs] => ∃ ns : List Int, xs = ns.map D.int ∧ ns.length < 4000 ∧ ∀ c : Nat, c ≤ ns.length → Q (.va (.set (fun j => decide (j ∈ ns)) c))
  | _ => False
theorem cb_set (hc : X.calm = true) (hK : X.K = z.K := by first | assumption | rfl) : CallB X z (.type "set") cSet := by
  intro pins s σ H S M ρ xs us ds Q0 I sim rb rv q
  unfold cSet at q
  split at q
  · obtain ⟨ns, rfl, hl, q⟩ := q
    cases rb with
    | cons r1 rr =>
      cases rr
      obtain ⟨a, ys, rfl, h1, k1⟩ := r1.tup
      cases rv with
      | cons rx rt =>
        cases rt
        cases rx
        have h2 : SqT X.K H a ys := by rw [hK]; exact same_seqT sim.sub h1
        obtain ⟨its, rvs, pt, hz⟩ := I.tuple h2
        have hys : ys = ns.map V.int := k1.intsV
        subst hys
        refine call_set_tupI ns (I.ok.hd hc) pt rvs.ints (by unfold scanBound; omega) fun h' tk c R hcl hk => ?_
        have I1 : Inv X pins σ (upd H s.heap.objs.size (.set (fun j => decide (j ∈ ns)) c)) { s with heap := h', toks := tk } := I.laid hk (Nat.le_refl _) (show ObjOk X.prog X.w _ _ _ (.set (fun j => decide (j ∈ ns)) c) from R.setOf)
        exact ⟨.ref s.heap.objs.size, _, I1, rfl, poE_set sim (I.hok.fresh (Nat.le_refl _)) (q c hcl)⟩
  · exact q.elim
/-- in: a list, a tuple, a set -/
def dInX (neg : Bool) : OD := fun a b Q => match b with
  | .set f n => (match a with | .int i => Q (.va (.bl (if neg then !f i else f i))) | _ => False)
  | b => dIn neg a b Q
theorem Rb.setV {S : Hp} {M : Mu} {H : Hp} {v : V} {f : Int → Bool} {n : Nat} (h : Rb z.K S M H v (.set f n)) : ∃ a, v = .ref a ∧ S a = some (.set f n) := by
  rcases h with h | ⟨_, _, _, rfl, e, _⟩
  · cases h with | set a => exact ⟨_, rfl, a⟩
  · cases e
theorem ob_inX (hu : X.A.units + 65 < cLine) (hK : X.K = z.K := by first | assumption | rfl) : OpB X z (compareOp .In) (dInX false) := by
  intro pins s σ H S M ρ x y u w d1 d2 Q0 I sim b1 b2 r1 r2 q
  cases d2 with
  | set f n =>
    unfold dInX at q
    dsimp only at q
    split at q
    · rename_i i
      obtain ⟨a, rfl, ha⟩ := b2.setV
      rw [b1.int] at r1
      obtain ⟨tk, rfl⟩ := r1
      cases r2
      exact wpAny_inSet_of (intKind_is _ _ _ _) rfl (I.hok a _ (sim.sub _ _ ha)) ⟨.bl (f i), H, I.tok _, rfl, poE_va sim (.bl _) q⟩
    · exact q.elim
  | _ => exact ob_in hu hK pins s σ H S M ρ x y u w d1 _ Q0 I sim b1 b2 r1 r2 q
theorem ob_notInX (hu : X.A.units + 65 < cLine) (hK : X.K = z.K := by first | assumption | rfl) : OpB X z (compareOp .NotIn) (dInX true) := by
  intro pins s σ H S M ρ x y u w d1 d2 Q0 I sim b1 b2 r1 r2 q
  cases d2 with
  | set f n =>
    unfold dInX at q
    dsimp only at q
    split at q
    · rename_i i
      obtain ⟨a, rfl, ha⟩ := b2.setV
      rw [b1.int] at r1
      obtain ⟨tk, rfl⟩ := r1
      cases r2
      exact wpAny_notInSet_of (intKind_is _ _ _ _) rfl (I.hok a _ (sim.sub _ _ ha)) ⟨.bl (!f i), H, I.tok _, rfl, poE_va sim (.bl _) q⟩
    · exact q.elim
  | _ => exact ob_notIn hu hK pins s σ H S M ρ x y u w d1 _ Q0 I sim b1 b2 r1 r2 q
end
theorem natc0 : ((0 : Nat) : Int) = 0 := rfl
theorem natc1 : ((1 : Nat) : Int) = 1 := rfl
theorem natc2 : ((2 : Nat) : Int) = 2 := rfl
end PL
namespace PL
open PySem PySem.Spec PyProof.Rows L2
/-! ### exceptions, told by their class's name -/
abbrev WP := Str → Ev → Mu → Prop
def eCallX (W : WP) (p : PSp) (qr : QA) : QE := fun ρ M Q => qr ρ M fun ds ρ1 M1 => p ds M1 (fun r M2 => Q r ρ1 M2) fun c _ M2 => W c ρ1 M2
section
variable {X : Cx} {z : Z} {k : Nat} {f : Addr} {fd : FuncData} {ps : List Str} {p : PSp} {x : Str} {pp pos : Pos} {e : Expr} {es : List Expr} {qr : QA} {W : WP}
def sRaise (W : WP) (c : Str) : QS := fun _ ρ M => W c ρ M
abbrev Z.at (z : Z) (S : Hp) : Z := { z with S0 := S }
/-- try: body, except x: suite; cat tells of a class whether it is caught -/
def sTry (W : WP) (cat : Str → Option Bool) (tb : WP → QS) (th : QS) : QS := fun D ρ M => tb (fun c ρ' M' => match cat c with
  | some true => th D ρ' M'
  | some false => W c ρ' M'
  | none => False) D ρ M
end
end PL
namespace PL
open PySem PySem.Spec PyProof.Rows L2 He HandSHeadRun
/-! ### the head's objects, gathered with a row of bits -/
def refF (g : Addr → Option Obj) (a : Addr) : List Addr := match g a with
  | some o => refsD o
  | none => []
def gat (g : Addr → Option Obj) : Nat → List Addr → Nat → List Addr
  | 0, _, _ => []
  | _ + 1, [], _ => []
  | n + 1, a :: r, seen => frNat a fun a => match seen.testBit a with
    | true => gat g n r seen
    | false => a :: frNat (seen ||| (1 <<< a)) fun seen => gat g n (refF g a ++ r) seen
def asF (g : Addr → Option Obj) : List Addr := gat g 20000 [mainGlobals] 0
def obsFG (fa : List Fa) (fn : List DefD) (ex : Fg → Bool) (g : Addr → Option Obj) : AlD := obsE fa fn ex (frG g (asF g))
def hookF (fa : List Fa) (fn : List DefD) (ex : Fg → Bool) : PySem.W.Hook where
  α := AlD
  obs := fun s => obsFG fa fn ex s.heap.get?
  val := fun _ => valD fn
  says := fun _ h => ∃ K : PySem.W.Frag, K.In h ∧ SaysE fa fn ex K
  of := fun _ _ e => ⟨_, frG_in, saysE_of e⟩
  keeps := fun _ _ _ ⟨K, hK, c⟩ k => ⟨K, PySem.W.Frag.In.keeps hK k, c⟩
theorem obsFG_eq {fa : List Fa} {fn : List DefD} {ex : Fg → Bool} {g : Addr → Option Obj} {s : Shared} (h : ∀ a, g a = s.heap.get? a) : obsFG fa fn ex g = (hookF fa fn ex).obs s := by
  have e : g = s.heap.get? := funext h
  rw [e] <;> rfl
/-- the run's equation, by parts -/
theorem run_split {α S : Type} {o : Option α} {l : α → Bool} {s : α → S} {g : α → Addr → Option Obj} {fa : List Fa} {fn : List DefD} {ex : Fg → Bool} {sv : S}
    (h1 : o.map l = some true) (h2 : o.map s = some sv) (h3 : o.map (fun x => (fa.all fun f => f.ok (frG (g x) (asF (g x)))) && ex (frG (g x) (asF (g x)))) = some true)
    (h4 : o.map (fun x => fn.all fun d => d.ok (frG (g x) (asF (g x)))) = some true) (h5 : o.map (fun x => fn.map fun d => fnW (frG (g x) (asF (g x))) d.at_) = some (fn.map DefD.val)) :
    o.map (fun x => (l x, s x, obsFG fa fn ex (g x))) = some (true, sv, valD fn) := by
  cases o with
  | none => cases h1
  | some x =>
    simp only [Option.map_some, Option.some.injEq] at h1 h2 h3 h4 h5 ⊢
    rw [Bool.and_eq_true] at h3
    unfold obsFG obsE valD
    rw [h1, h2, h3.1, h3.2, h4, h5]
    rfl
end PL
namespace PySem
open Sem (wp)
theorem meets_enumerate_new1 {v : Value} {o : Obj} {H : Heap → Prop} (B : Begins v o H) :
    Meets (Builtin.«enumerate.__new__» ⟨[.type "enumerate", v], []⟩) (fun _ R s => H s.heap ∧
      R (.ok (.ret (.ref (s.heap.push o).objs.size))) { s with heap := (s.heap.push o).push { cls := .type "enumerate", data := .fields #[.none, .bool false, .ref s.heap.objs.size, rawInt 0, .none, .none] } }) :=
  .of_wp fun prog w A R s h => by
    obtain ⟨hh0, g, d, tk, os⟩ := s; obtain ⟨hH, h⟩ := h
    have sb0 := sub_enumerate
    have qq1 : ∀ {A' : Around} {E : Value → Shared → Prop} {Q : Value → Shared → Prop}, Q (.ref hh0.objs.size) ⟨hh0.push o, g, d, tk, os⟩ → wpAny (model prog w) A' (pyIter v) Q E ⟨hh0, g, d, tk, os⟩ :=
      fun q => B.iter prog w _ _ ⟨hh0, g, d, tk, os⟩ _ hH q
    wp_walk using qq1
    refine wpAny_stack_any fun stt => wpAny_pure ?_
    split
    · rename_i c _ _ _ _ _
      cases (c == Value.type "enumerate")
      · wp_walk using qq1
        exact ⟨_, rfl, h⟩
      · wp_walk using qq1
        exact ⟨_, rfl, h⟩
    · wp_walk using qq1
      exact ⟨_, rfl, h⟩
section
variable {prog : Program} {w : World} {A : Around} {E : Value → Shared → Prop} {s : Shared}
theorem enum_begins1 {v : Value} {o : Obj} {H : Heap → Prop} {Q : Value → Shared → Prop} (B : Begins v o H) (hH : H s.heap)
    (h : ∀ h', IsEnum h' (s.heap.objs.size + 1) s.heap.objs.size 0 .none → h'.get? s.heap.objs.size = some o → h'.objs.size = s.heap.objs.size + 2 →
      (∀ b o, s.heap.get? b = some o → h'.get? b = some o) → Q (.ref (s.heap.objs.size + 1)) { s with heap := h' }) :
    wpAny (model prog w) A (call (.type "enumerate") [v]) Q E s := by
  refine callType_new F.called_enumerate (by decide) (F.typeCall_enumerate_1 _) (F.newCall_enumerate_1 _) (fun obj => F.args_object_init_2 obj _) F.entry_enumerate_new
    (meets_enumerate_new1 B) ⟨hH, ?_⟩
  have sz0 : (s.heap.push o).objs.size = s.heap.objs.size + 1 := Heap.size_push ..
  show _ ∧ _
  rw [sz0]
  have en : IsEnum ((s.heap.push o).push { cls := .type "enumerate", data := .fields #[.none, .bool false, .ref s.heap.objs.size, rawInt 0, .none, .none] }) (s.heap.objs.size + 1) s.heap.objs.size 0 .none := by
    have := Heap.get?_push_size (s.heap.push o) (o := { cls := .type "enumerate", data := .fields #[.none, .bool false, .ref s.heap.objs.size, rawInt 0, .none, .none] }) rfl
    rw [sz0] at this; exact this
  refine ⟨⟨_, en, rfl⟩, h _ en (Heap.get?_push_of_some _ (Heap.get?_push_size _ B.free)) (by rw [Heap.size_push, sz0]) fun b o x => Heap.get?_push_of_some _ (Heap.get?_push_of_some _ x)⟩
end
end PySem
namespace PL
open PySem PySem.Spec PyProof.Rows L2
/-! ### enumerate(tuple) -/
/-- the tuple at a, n items -/
def IteT (K : Fg) (a : Addr) (n : Nat) : It :=
  ⟨fun i H => i < n ∧ ∃ (xs : List V) (x : V), SqT K H a xs ∧ xs[i]? = some x ∧ xs.length = n, fun i H v H' => ∃ T x, v = .ref T ∧ H T = none ∧ H' = upd H T (.tup [.int (i : Nat), x]) ∧ ∀ xs, SqT K H a xs → xs[i]? = some x, fun i H => n ≤ i ∧ ∃ xs : List V, SqT K H a xs ∧ xs.length = n⟩
theorem tup_ne_it {h : Heap} {a it : Addr} {i : Nat} {items : Array Value} (p : h.IsTuple a items) (hti : h.IsTupleIter it a i) : a ≠ it := by
  rintro rfl
  obtain ⟨o, hout, hc, _⟩ := p
  obtain ⟨o', ho', hc', _⟩ := hti
  rw [hout] at ho'
  cases ho'
  rw [hc] at hc'
  injection hc' with e
  exact absurd e (by decide)
theorem tup_ne_en {h : Heap} {a e it : Addr} {i : Int} {o0 : Value} {items : Array Value} (p : h.IsTuple a items) (en : IsEnum h e it i o0) : e ≠ a := by
  rintro rfl
  obtain ⟨o, hout, hc, _⟩ := p
  have he' := en
  unfold IsEnum at he'
  rw [hout] at he'
  have e := Option.some.inj he'
  rw [e] at hc
  injection hc with e
  exact absurd e (by decide)
theorem turn_enumT {P : Program} {w : World} {K : Fg} {elts : List Expr} {kk : Nat} {tpos : Pos} (a e it : Addr) (n : Nat) :
    Turn P w K (.Tuple elts kk tpos) (IteT K a n) [e, it] e (fun i h => (∃ o0, IsEnum h e it ((i : Nat) : Int) o0) ∧ h.IsTupleIter it a i ∧ e ≠ it ∧ i ≤ n) where
  mem := by simp
  obj := fun i h stt b hb0 => by
    obtain ⟨⟨o0, en⟩, ⟨o, hout, hc, hd⟩, _⟩ := stt
    have e' : b = e ∨ b = it := by simpa using hb0
    rcases e' with z | z
    · rw [z]; exact ⟨_, en, fun v q => nomatch q⟩
    · rw [z]; exact ⟨o, hout, fun v q => by rw [hd] at q; cases q⟩
  keep := fun i h h' stt k => let ⟨⟨o0, en⟩, hi, hne, hn⟩ := stt; ⟨⟨o0, k e (by simp) _ en⟩, hi.at fun o q => k it (by simp) o q, hne, hn⟩
  item := by
    intro X hP hw hK hc i pins s σ H E I hfp stt hgl
    subst hP hw hK
    obtain ⟨⟨o0, en⟩, hti, hne, hle0⟩ := stt
    obtain ⟨hlt, xs, x, hq0, hxi, hxn⟩ := hgl
    obtain ⟨its, vs0, p, sz0⟩ := I.tuple hq0
    obtain ⟨u, hu0, ru0⟩ := vs0.get hxi
    have ptu : s.heap.IsTuple a its.toArray := p
    have le1 : e < s.heap.objs.size := Heap.lt_size en
    have le2 : it < s.heap.objs.size := by obtain ⟨_, q, _⟩ := hti; exact Heap.lt_size q
    have hea := tup_ne_en ptu en
    have DR : Draws X.prog X.w X.A.in1 it [it, a] its.toArray.size (fun i v => its.toArray[i]? = some v) (fun i h => h.IsTupleIter it a i ∧ h.IsTuple a its.toArray) := Draws.tuple (show X.A.in1.handled = none from I.ok.hd hc) it a (tup_ne_it ptu hti) its.toArray
    refine wpAny_pyNext_enum_itemD DR en ⟨hti, ptu⟩ (by have := (List.getElem?_eq_some_iff.mp hu0).1; simpa using this) hne (by simp [hne, hea]) fun x' h' tk hx' hout st' hTu hs0 kp => ?_
    have exx : x' = u := by
      have hx2 : its[i]? = some x' := by simpa using hx'
      rw [hu0] at hx2
      exact (Option.some.inj hx2).symm
    subst exx
    refine ⟨_, rfl, wpAny_letOwnedTupleGo_enum (s := { s with heap := h', toks := tk + 1 }) hout fun h'' he' sb => ?_⟩
    have hT2 : h''.get? s.heap.objs.size = some { cls := .type "tuple", data := .seq #[.int i tk, x'] } := (sb.2 _ (Nat.ne_of_gt le1)).trans hTu
    have new : ObjOk X.prog X.w (upd H s.heap.objs.size (.tup [.int (i : Nat), x])) h'' s.heap.objs.size (.tup [.int (i : Nat), x]) :=
      ⟨by show 2 ≤ sizeLine; decide, [.int i tk, x'], .cons ⟨_, rfl⟩ (.cons ru0 .nil), ⟨_, hT2, rfl, _, rfl⟩⟩
    have J1 : Inv X pins σ (upd H s.heap.objs.size (.tup [.int (i : Nat), x])) { s with heap := h'', toks := tk + 1 } :=
      I.turnedNew (ch := [e, it]) (fun b ob hb0 q => (sb.2 b (fun z => hb0 (by simp [z]))).trans (kp b ob (fun z => hb0 (by simp [z])) (fun z => hb0 (by simp [z])) q)) hfp (Nat.le_refl _) new
    refine ⟨.ref s.heap.objs.size, _, J1, rfl, ⟨_, x, rfl, I.hok.fresh (Nat.le_refl _), rfl, fun ys hy => by rw [I.tuple_inj hy hq0]; exact hxi⟩, ⟨⟨x', ?_⟩, st'.1.at fun o q => (sb.2 it (Ne.symm hne)).trans q, hne, hlt⟩, fun b hb0 => ?_⟩
    · have eq1 : ((i + 1 : Nat) : Int) = (i : Int) + 1 := by omega
      rw [eq1]; exact he'
    · have hb' : b < s.heap.objs.size := by
        have e' : b = e ∨ b = it := by simpa using hb0
        rcases e' with z | z
        · rw [z]; exact le1
        · rw [z]; exact le2
      rw [upd_ne (Nat.ne_of_lt hb')]
      exact (hfp b hb0).1
  done := by
    intro X hP hw hK hc i pins s σ H E I hfp stt hgl
    subst hP hw hK
    obtain ⟨⟨o0, en⟩, hti, hne, hle0⟩ := stt
    obtain ⟨hge, xs, hq0, hxi⟩ := hgl
    obtain ⟨its, vs0, p, sz0⟩ := I.tuple hq0
    have ptu : s.heap.IsTuple a its.toArray := p
    obtain ⟨f0, f1, f2, f3, f4, f5⟩ := hfp it (by simp)
    have hl := vs0.length
    have eq1 : i = its.toArray.size := by simp only [List.size_toArray]; omega
    subst eq1
    have DR : Draws X.prog X.w X.A.in1 it [it, a] its.toArray.size (fun i v => its.toArray[i]? = some v) (fun i h => h.IsTupleIter it a i ∧ h.IsTuple a its.toArray) := Draws.tuple (show X.A.in1.handled = none from I.ok.hd hc) it a (tup_ne_it ptu hti) its.toArray
    exact wpAny_pyNext_enum_endD DR en ⟨hti, ptu⟩ fun h' eb => ⟨rfl, I.turned (t' := s.toks) (fun b o hb0 q => eb b o hb0 q) f0 f1 f3 f4 f5⟩
  self := fun A i s Q E stt h => let ⟨⟨_, en⟩, _⟩ := stt; wpAny_pyIter_enum en h
/-- enumerate(list or tuple) -/
def iEnumX (K : Fg) (ta : TA) : TI := fun σ H R => ta σ H fun vl H1 => ∃ a, vl = [.ref a] ∧ (((∃ xs, SqL K H1 a xs) ∧ R (Ite K a) H1) ∨ (∃ xs : List V, SqT K H1 a xs ∧ R (IteT K a xs.length) H1))
theorem pi_enumX {X : Cx} {e : Expr} {ta : TA} {p pos tpos : Pos} {elts : List Expr} {kk : Nat} (hgl : Gl X "enumerate") (hm : X.mg "enumerate" = none) (ha : PA X [e] ta) (hs : starEach [e] X.env = [(false, eval e X.env)] := by rfl) :
    PI X (.Tuple elts kk tpos) (.Call (.Name "enumerate" p) [e] [] pos) (iEnumX X.K ta) := by
  refine ⟨fun pins s σ H R I h => ?_⟩
  refine Call_ (ld_blt I hgl hm boot_enumerate (PyProof.Rows.callWith_type1 (thn (ha.run pos pins s σ H _ I h) fun us s1 ⟨vl, H1, J1, rr1, qq1⟩ => ?_) hs rfl))
  obtain ⟨a, exx, qq1⟩ := qq1
  subst exx
  cases rr1 with
  | cons r rr =>
    cases rr
    cases r
    have fin : ∀ (J : It) (St : Nat → Heap → Prop) (h' : Heap), (∀ b o, s1.heap.get? b = some o → h'.get? b = some o) → IsEnum h' (s1.heap.objs.size + 1) s1.heap.objs.size 0 .none → R J H1 →
        Turn X.prog X.w X.K (.Tuple elts kk tpos) J [s1.heap.objs.size + 1, s1.heap.objs.size] (s1.heap.objs.size + 1) St → St 0 h' → wpAny (model X.prog X.w) X.A (pyIter (.ref (s1.heap.objs.size + 1))) (PIE X pins σ (.Tuple elts kk tpos) R) X.xe { s1 with heap := h' } := by
      intro J St h' kp en q T stt
      refine wpAny_pyIter_enum en ?_
      have J2 : Inv X pins σ H1 { s1 with heap := h' } := J1.kept (t' := s1.toks) kp
      refine ⟨s1.heap.objs.size + 1, [s1.heap.objs.size + 1, s1.heap.objs.size], _, _, H1, rfl, J2, T, stt, fun b hb0 => ?_, q⟩
      have e' : b = s1.heap.objs.size + 1 ∨ b = s1.heap.objs.size := by simpa using hb0
      have hle : s1.heap.objs.size ≤ b := by
        rcases e' with z | z
        · rw [z]; exact Nat.le_add_right _ _
        · rw [z]; exact Nat.le_refl _
      exact J1.fpOk hle (J1.hok.fresh hle)
    rcases qq1 with ⟨⟨xs, hq0⟩, q⟩ | ⟨xs, hq0, q⟩
    · obtain ⟨its, vs0, p', sz0⟩ := J1.list hq0
      exact call_enumerate_list p'.isList fun h' en hti hs0 kp => fin _ _ h' kp en q (turn_enum a (s1.heap.objs.size + 1) s1.heap.objs.size) ⟨⟨.none, en⟩, hti, Nat.succ_ne_self _⟩
    · obtain ⟨its, vs0, p', sz0⟩ := J1.tuple hq0
      exact enum_begins1 (begins_tuple a its.toArray) (show s1.heap.IsTuple a its.toArray from p') fun h' en hti hs0 kp => fin _ _ h' kp en q (turn_enumT a (s1.heap.objs.size + 1) s1.heap.objs.size xs.length) ⟨⟨.none, en⟩, ⟨_, hti, rfl, rfl⟩, Nat.succ_ne_self _, Nat.zero_le _⟩
/-- (0, x0), (1, x1), .. -/
def enumD : Nat → List D → List D
  | _, [] => []
  | k, d :: ds => .tup [.int (k : Nat), d] :: enumD (k + 1) ds
theorem enumD_len : ∀ (k : Nat) (ds : List D), (enumD k ds).length = ds.length
  | _, [] => rfl
  | k, d :: ds => by rw [enumD, List.length_cons, List.length_cons, enumD_len]
theorem enumD_get : ∀ {k : Nat} {ds : List D} {i : Nat} {d : D}, (enumD k ds)[i]? = some d → ∃ x, ds[i]? = some x ∧ d = .tup [.int ((k + i : Nat) : Int), x]
  | _, [], _, _, h => by simp [enumD] at h
  | k, c :: ds, 0, d, h => by simp [enumD] at h; exact ⟨c, rfl, by rw [← h]; simp⟩
  | k, c :: ds, i + 1, d, h => by
    obtain ⟨x, h1, h2⟩ := enumD_get (k := k + 1) (ds := ds) (i := i) (by simpa [enumD] using h)
    exact ⟨x, by simpa using h1, by rw [h2, show k + 1 + i = k + (i + 1) by omega]⟩
def iEnum1 (qr : QA) : QA := fun ρ M Q => qr ρ M fun ds ρ' M' => match ds with
  | [.lst xs] => Q (enumD 0 xs) ρ' M'
  | [.tup xs] => Q (enumD 0 xs) ρ' M'
  | _ => False
section
variable {X : Cx} {z : Z} {tg e : Expr} {pos p tpos : Pos} {qr : QA} {elts : List Expr} {kk : Nat}
theorem yld_new {S H : Hp} {T : Addr} {xs : List V} {ds : List D} (hT : H T = none) (sub : Same S H) (r : RpA z.K S xs ds) :
    ∃ S', Same S S' ∧ Same H (upd H T (.tup xs)) ∧ Same S' (upd H T (.tup xs)) ∧ (∀ b, S' b ≠ none → S b ≠ none ∨ H b = none) ∧ Rp z.K S' (.ref T) (.tup ds) := by
  have hs : S T = none := by
    cases q : S T with
    | none => rfl
    | some o => rw [sub _ _ q] at hT; cases hT
  refine ⟨upd S T (.tup xs), same_upd hs, same_upd hT, fun b u q => ?_, fun b q => ?_, .tup (.of upd_same) (RpA.ext (same_upd hs) _ _ r)⟩
  · by_cases hb : b = T
    · subst hb; rw [upd_same] at q ⊢; exact q
    · rw [upd_ne hb] at q ⊢; exact sub b u q
  · by_cases hb : b = T
    · subst hb; exact .inr hT
    · rw [upd_ne hb] at q; exact .inl q
theorem ylds_enumL {S1 : Hp} {a : Addr} {xs : List V} {ds : List D} (h : S1 a = some (.lst xs)) (r : RpA z.K S1 xs ds) : Ylds z (Ite z.K a) S1 (enumD 0 ds) := by
  have hl := r.length
  refine ⟨fun i H S e1 e2 hi => ?_, fun i H S e1 e2 hi => ⟨xs, .of ((e1.trans e2) _ _ h), by rw [enumD_len] at hi; omega⟩, fun i H S x H' d e1 e2 ed y => ?_⟩
  · rw [enumD_len] at hi
    exact ⟨xs, xs[i], .of ((e1.trans e2) _ _ h), List.getElem?_eq_getElem (by omega)⟩
  · obtain ⟨T, v, rfl, hT, rfl, y⟩ := y
    obtain ⟨c, ec, rfl⟩ := enumD_get ed
    have ex := y xs (.of ((e1.trans e2) _ _ h))
    obtain ⟨v', h1, h2⟩ := r.get ec
    rw [ex] at h1
    cases h1
    rw [show ((0 + i : Nat) : Int) = (i : Nat) by omega]
    exact yld_new hT e2 (.cons (.int _) (.one (Rp.ext e1 _ _ h2)))
theorem ylds_enumT {S1 : Hp} {a : Addr} {xs : List V} {ds : List D} (h : SqT z.K S1 a xs) (r : RpA z.K S1 xs ds) : Ylds z (IteT z.K a xs.length) S1 (enumD 0 ds) := by
  have hl := r.length
  refine ⟨fun i H S e1 e2 hi => ?_, fun i H S e1 e2 hi => ⟨by rw [enumD_len] at hi; omega, xs, same_seqT (e1.trans e2) h, rfl⟩, fun i H S x H' d e1 e2 ed y => ?_⟩
  · rw [enumD_len] at hi
    exact ⟨by omega, xs, xs[i], same_seqT (e1.trans e2) h, List.getElem?_eq_getElem (by omega), rfl⟩
  · obtain ⟨T, v, rfl, hT, rfl, y⟩ := y
    obtain ⟨c, ec, rfl⟩ := enumD_get ed
    have ex := y xs (same_seqT (e1.trans e2) h)
    obtain ⟨v', h1, h2⟩ := r.get ec
    rw [ex] at h1
    cases h1
    rw [show ((0 + i : Nat) : Int) = (i : Nat) by omega]
    exact yld_new hT e2 (.cons (.int _) (.one (Rp.ext e1 _ _ h2)))
theorem qi_enumerate (hg : Gl X "enumerate") (hm : X.mg "enumerate" = none) (ha : PA X [e] (liA z qr)) (hK : X.K = z.K := by first | assumption | rfl) (hs : starEach [e] X.env = [(false, eval e X.env)] := by rfl) :
    PI X (.Tuple elts kk tpos) (.Call (.Name "enumerate" p) [e] [] pos) (liI z (iEnum1 qr)) :=
  pi_w (pi_enumX hg hm ha hs) fun σ H R ⟨S, M, ρ, Q0, sim, h, post⟩ => ⟨S, M, ρ, _, sim, h, fun vs H1 ⟨ds, ρ1, M1, S1, q1, st1, sim1, rp⟩ => by
    dsimp only at q1
    split at q1
    · cases rp with
      | cons r1 rr =>
        cases rr
        cases r1 with
        | lst h1 h2 => exact ⟨_, rfl, .inl ⟨⟨_, .of (sim1.sub _ _ h1)⟩, by rw [hK]; exact post _ H1 ⟨_, ρ1, M1, S1, q1, st1, sim1, ylds_enumL h1 h2⟩⟩⟩
    · cases rp with
      | cons r1 rr =>
        cases rr
        cases r1 with
        | tup h1 h2 => exact ⟨_, rfl, .inr ⟨_, by rw [hK]; exact same_seqT sim1.sub h1, by rw [hK]; exact post _ H1 ⟨_, ρ1, M1, S1, q1, st1, sim1, ylds_enumT h1 h2⟩⟩⟩
    · exact q1.elim⟩
/-- reversed(list) -/
def iRev1 (qr : QA) : QA := fun ρ M Q => qr ρ M fun ds ρ' M' => match ds with
  | [.lst xs] => Q xs.reverse ρ' M'
  | _ => False
end
end PL
namespace PL
open PySem PySem.Spec PyProof.Rows L2
/-! ### set(list), sorted(set) of any size that the machine's sets of numbers have -/
/-- an empty set's object -/
abbrev set0 (w : World) : Obj := { cls := .type "set", dict := none, data := .set #[] 0 (.fresh 0 0 (!w.params.followText "set-order")) }
section
variable {P : Program} {w : World} {A : Around} {E : Value → Shared → Prop} {s : Shared}
theorem call_set_lstI {l : Addr} {xs : Array Value} (ns : List Int) {Q : Value → Shared → Prop} (hA : A.handled = none) (hl : s.heap.IsList l xs) (hx : IntsAre xs.toList ns) (small : ns.length + 1 < scanBound)
    (fin : ∀ (h2 : Heap) (tk c : Nat), SetR w h2 s.heap.objs.size (fun j => decide (j ∈ ns)) c → c ≤ ns.length → (∀ b o, s.heap.get? b = some o → h2.get? b = some o) → Q (.ref s.heap.objs.size) { s with heap := h2, toks := tk }) :
    wpAny (model P w) A (call (.type "set") [.ref l]) Q E s := by
  have len : xs.size = ns.length := by
    have := IntsAre.length hx
    simpa using this
  have mro := F.called_set.mro
  obtain ⟨cc, tl, mro⟩ := mro
  have made := F.called_set.made
  have sbs := F.called_set.sub
  refine wpAny_call (codeAny_of_tree ?_)
  show wpAny _ _ (callAny (.type "set") _) _ _ _
  refine wpAny_pure ⟨Code.quiet_builtin _ (by decide +kernel), codeAny_builtin F.entry_type_call ?_⟩
  rw [Around.under_plain (weight_type_call_type "set" [.ref l] []) rfl]
  have nt := F.called_set.notType
  have cn := F.called_set.canCreate
  have tc := F.typeCall_set_1 (.ref l)
  repeat (any_goals (first | assumption | wp_step))
  refine codeAny_mono (code_set_led1 (.ref l) (E := E) (Q₁ := fun obj t1 => obj = .ref s.heap.objs.size ∧ t1 = { s with heap := s.heap.push (set0 w) }) ⟨rfl, rfl⟩) fun r t1 hr => ?_
  cases r with
  | error e => exact hr
  | ok fl =>
    cases fl with
    | ret obj =>
      obtain ⟨rfl, rfl⟩ := hr
      have at0 : (s.heap.push (set0 w)).get? s.heap.objs.size = some (set0 w) := Heap.get?_push_size _ rfl
      have ty0 : Shared.TypeIs { s with heap := s.heap.push (set0 w) } (.ref s.heap.objs.size) "set" := ⟨_, at0, rfl⟩
      have ilk := F.called_set.init.lookup
      have ibd := F.called_set.init.bind (.ref s.heap.objs.size)
      repeat (any_goals (first | assumption | wp_step))
      refine codeAny_mono (codeAny_call_builtin (R := wants (fun r t2 => r = .none ∧ ∃ h2 tk c, t2 = { s with heap := h2, toks := tk } ∧ SetR w h2 s.heap.objs.size (fun j => decide (j ∈ ns)) c ∧ c ≤ ns.length ∧
          ∀ b o, s.heap.get? b = some o → h2.get? b = some o) E) F.called_set.init.plain F.entry_set_init (check_set_init_1 ty0 ?_)) fun r2 t2 hr2 => ?_
      · obtain ⟨⟨cl, dc, dt, sl⟩, at1, e1, nn, e2⟩ := hl
        simp only at e1 e2
        subst e1; subst e2
        have at2 : (s.heap.push (set0 w)).get? l = some { cls := .type "list", dict := dc, data := .seq xs nn, slots := sl } := Heap.get?_push_of_some _ at1
        have sb1 := F.sub_list_set
        have sb2 := F.sub_list_frozenset
        have nd1 : (Value.type "list" == Value.type "dict") = false := by decide
        have isl : (s.heap.push (set0 w)).IsList l xs := ⟨_, at2, rfl, nn, rfl⟩
        unfold Builtin.«set.__init__» noKeywords Builtin.Frozenset.updateFrom
        generalize gPI : pyIter = PI
        wp_walk
        subst gPI
        refine wpAny_pyIter_list isl ?_
        refine wpAny_bind (wpAny_runValue ?_)
        have lt0 : l < s.heap.objs.size := Heap.lt_size at1
        have hA3 : A.in1.in1.in1.handled = none := by simp [hA]
        have sz0 : (s.heap.push (set0 w)).objs.size = s.heap.objs.size + 1 := Heap.size_push ..
        have ne1 : l ≠ (s.heap.push (set0 w)).objs.size := by
          rw [sz0]; exact Nat.ne_of_lt (Nat.lt_succ_of_lt lt0)
        have nin : s.heap.objs.size ∉ [(s.heap.push (set0 w)).objs.size, l] := by
          rw [sz0]
          intro m
          rcases List.mem_cons.mp m with z | z
          · have z' : (s.heap.objs.size : Nat) = s.heap.objs.size + 1 := z
            omega
          · exact absurd (List.mem_singleton.mp z) (Nat.ne_of_gt lt0)
        have val : ∀ (i : Nat) (v : Value), xs[i]? = some v → ∃ k t, ns[i]? = some k ∧ v = .int k t := fun i v hv => by
          have hi : i < ns.length := by rw [← len]; exact (Array.getElem?_eq_some_iff.mp hv).1
          obtain ⟨t, e⟩ := PyProof.Rows.IntsAre.int_at hx i v (by rw [Array.getElem?_toList]; exact hv)
          exact ⟨ns[i], t, List.getElem?_eq_getElem hi, by rw [e]; simp [hi]⟩
        refine set_update_ints ((Walks.list hA3 _ l ne1 xs).toS) s.heap.objs.size nin ns len small val (xs.size - 0) 0 _ (by omega) (Nat.zero_le _) ⟨⟨_, Heap.get?_push_size _ rfl, rfl, rfl⟩, (isl.push _)⟩ ?start ?rest
        case start => exact ⟨0, Nat.le_refl 0, setR_new_at (Heap.get?_push_of_some _ at0)⟩
        case rest =>
          intro t3 c3 mv le3 R3
          obtain ⟨h2, g2, d2, tk2, os2⟩ := t3
          have eg : g2 = s.gens := mv.gens
          have ed : d2 = s.drawn := mv.drawn
          have eo : os2 = s.os := mv.os
          subst eg; subst ed; subst eo
          show wpAny _ _ _ _ _ _
          refine wpAny_pure ?_
          show wpAny _ _ (ret Value.none) _ _ _
          rw [len] at le3
          refine wpAny_pure ⟨rfl, h2, tk2, c3, rfl, R3, le3, fun b o e => ?_⟩
          have ltb : b < s.heap.objs.size := Heap.lt_size e
          refine mv.heap b o (fun m => ?_) (Heap.get?_push_of_some _ (Heap.get?_push_of_some _ e))
          rcases List.mem_cons.mp m with z | z
          · exact absurd z (Nat.ne_of_lt ltb)
          · have z' := List.mem_singleton.mp z
            rw [sz0] at z'
            exact absurd z' (Nat.ne_of_lt (Nat.lt_succ_of_lt ltb))
      · cases r2 with
        | error e => exact hr2
        | ok fl2 =>
          cases fl2 with
          | ret r =>
            obtain ⟨rfl, h2, tk, c, rfl, R2, le2, kp⟩ := hr2
            repeat (any_goals (first | assumption | wp_step))
            exact fin _ _ _ R2 le2 kp
          | _ => exact hr2.elim
    | _ => exact hr.elim
/-- sorted(set of numbers), however many -/
theorem sorted_setW {a : Addr} {S : Int → Bool} {n : Nat} {Q : Value → Shared → Prop} (R : SetR w s.heap a S n) (hA : A.handled = none)
    (fin : ∀ t p (out : Array Value) (c : Nat) (ns : List Int), (∀ b o, s.heap.get? b = some o → t.heap.get? b = some o) → t.gens = s.gens → t.os = s.os → s.heap.objs.size ≤ p → t.heap.get? p = some (seqObj "list" out c) →
      IntsAre out.toList ns → ns.Pairwise (· < ·) → (∀ k, k ∈ ns ↔ S k = true) → ns.length = n → ns.length ≤ sizeLine → Q (.ref p) t) : wpAny (model P w) A (call (.builtin "sorted") [.ref a]) Q E s := by
  obtain ⟨ob, es, ep, t0, at0, ex0, dt0, ks, nd, mem, bd, fits, cnt, rs, ld⟩ := R
  refine Calls.call_function_entry kind_sorted plain_sorted entry_sorted (args_sorted1 _) ?_
  unfold Builtin.«sorted»
  refine wpAny_bind (m := checkCount "sorted" 1 1 _) (wpAny_pure ?_)
  refine wpAny_bind (collect_set (A := A.in1) hA ⟨ob, at0, ex0.1, dt0⟩ fits bd rs ld fun t1 vs kp sz g1 o1 pm => ?_)
  have vl : vs.length = n := by rw [pm.length_eq, List.length_map, Array.length_toList]; exact cnt
  have line : vs.length ≤ sizeLine := by
    rw [pm.length_eq, List.length_map, Array.length_toList]
    exact fits_of_scanBound bd
  have ivs : IntsAre vs (vs.map Builtin.Re.reRawOf) := ints_of vs fun v hv => by
    obtain ⟨e, me, q⟩ := List.mem_map.mp (pm.mem_iff.mp hv)
    obtain ⟨k, tk, h1, _⟩ := ks e me
    exact ⟨k, tk, by rw [← q]; exact h1⟩
  have keys : (vs.map Builtin.Re.reRawOf).Perm (es.toList.map keyOf) := by
    have q := pm.map Builtin.Re.reRawOf
    rw [List.map_map] at q
    exact q
  refine wpAny_bind (wpAny_newList ?_ line)
  have atL : (t1.heap.push (seqObj "list" vs.toArray 0)).get? t1.heap.objs.size = some (seqObj "list" vs.toArray 0) := Heap.get?_push_size _ rfl
  refine wpAny_bind (wpAny_holding (wpAny_call_entry slot_list_sort ⟨_, atL, rfl⟩ entry_list_sort (SrtO.list_sort_ord SrtO.swo_int atL line (fun h2 => SrtO.ints_sortable ivs h2) fun out a1 a2 => ⟨_, rfl, ?_⟩) (args_list_sort _)))
  obtain ⟨b1, b2, b3⟩ := SrtO.ints_out ivs a1 a2
  obtain ⟨c, hc⟩ := PyProof.Rows.sortedHeap_at (vs := vs) (out := out.toArray) atL
  have pn : (out.map SrtO.iv).Perm (es.toList.map keyOf) := b2.trans keys
  have ln : (out.map SrtO.iv).length = n := by rw [pn.length_eq, List.length_map, Array.length_toList]; exact cnt
  refine wpAny_pure ⟨_, rfl, fin _ t1.heap.objs.size out.toArray c (out.map SrtO.iv) (fun b u e => ?_) g1 o1 sz hc b1 (lt_of_le_nodup _ b3 (pn.nodup_iff.mpr nd)) (fun k => by rw [pn.mem_iff, ← mem k]) ln (by rw [ln, ← vl]; exact line)⟩
  have q := kp b u e
  have lt1 := Heap.lt_size q
  show (PyProof.Rows.sortedHeap (t1.heap.push (seqObj "list" vs.toArray 0)) t1.heap.objs.size vs out.toArray).get? b = some u
  rw [PyProof.Rows.sortedHeap_old (Nat.ne_of_lt lt1) (by rw [size_push']; exact Nat.lt_succ_of_lt lt1)]
  exact Heap.get?_push_of_some _ q
end
section
variable {X : Cx} {z : Z}
/-- set(list or tuple of numbers), to be gone through -/
def rSetOf (K : Fg) (w : World) : List V → Hp → VK → Prop := fun vs H Q => ∃ (a : Addr) (ns : List Int), vs = [V.ref a] ∧ (SqL K H a (ns.map V.int) ∨ SqT K H a (ns.map V.int)) ∧ ns.length < 4000 ∧ ∀ p c, c ≤ ns.length → H p = none → Q (.ref p) (upd H p (SetO w p (fun j => decide (j ∈ ns)) c))
theorem cr_setOf (hc : X.calm = true) : CallR X (.type "set") (rSetOf X.K X.w) := by
  intro pins s σ H vs us Q I r h
  obtain ⟨a, ns, rfl, hq, hl, q⟩ := h
  rw [Vals.ref1 r]
  have fin : ∀ (h2 : Heap) (tk c : Nat), SetR X.w h2 s.heap.objs.size (fun j => decide (j ∈ ns)) c → c ≤ ns.length → (∀ b o, s.heap.get? b = some o → h2.get? b = some o) → EP X pins σ Q (.ref s.heap.objs.size) { s with heap := h2, toks := tk } := by
    intro h2 tk c R le kp
    exact ⟨.ref _, upd H s.heap.objs.size (SetO X.w s.heap.objs.size (fun j => decide (j ∈ ns)) c), I.laid kp (Nat.le_refl _) (setO_new R), rfl, q _ c le (I.hok.fresh (Nat.le_refl _))⟩
  rcases hq with hq | hq
  · obtain ⟨its, rvs, pt, hz⟩ := I.list hq
    exact call_set_lstI ns (I.ok.hd hc) pt.isList rvs.ints (by unfold scanBound; omega) fin
  · obtain ⟨its, rvs, pt, hz⟩ := I.tuple hq
    exact call_set_tupI ns (I.ok.hd hc) pt rvs.ints (by unfold scanBound; omega) fin
/-- sorted(set of numbers) -/
def rSortSet (w : World) : List V → Hp → VK → Prop := fun vs H Q => ∃ (a : Addr) (S : Int → Bool) (n : Nat), vs = [V.ref a] ∧ H a = some (SetO w a S n) ∧
  ∀ (ns : List Int) (p : Addr), ns.Pairwise (· < ·) → (∀ k : Int, k ∈ ns ↔ S k = true) → H p = none → Q (.ref p) (upd H p (.lst (ns.map V.int)))
theorem cr_sortSet (hc : X.calm = true) : CallR X (.builtin "sorted") (rSortSet X.w) := by
  intro pins s σ H vs us Q I r h
  obtain ⟨a, S, n, rfl, ha, q⟩ := h
  rw [Vals.ref1 r]
  refine sorted_setW (setO_get I ha) (I.ok.hd hc) fun t p out c ns kp eg eo hp at1 ivs asc mem cnt line => ?_
  have hn : H p = none := I.hok.fresh hp
  have J : Inv X pins σ (upd H p (.lst (ns.map V.int))) { s with heap := t.heap, gens := t.gens, drawn := t.drawn, toks := t.toks } :=
    I.call (ch := []) (Un.laid kp hp hn) (I.hok.laid kp hp ⟨by rw [List.length_map]; exact line, out.toList, c, vals_of_ints ivs, at1⟩) (by rw [eg]; exact I.bare) (fun _ z => nomatch z)
  have e : t = { s with heap := t.heap, gens := t.gens, drawn := t.drawn, toks := t.toks } := by
    cases t; cases s; cases eo; rfl
  rw [e]
  exact ⟨.ref p, _, J, rfl, q ns p asc mem hn⟩
/-- sorted(set(list or tuple of numbers)) -/
def eSortSet (qb : QB) : QE := fun ρ M Q => qb ρ M fun d ρ1 M1 => ∃ ns : List Int, (d = .lst (ns.map D.int) ∨ d = .tup (ns.map D.int)) ∧ ns.length < 4000 ∧ ∀ ms : List Int, Asc ms → (∀ k, k ∈ ms ↔ k ∈ ns) → Q (.ow (.lst (ms.map D.int))) ρ1 M1
theorem qe_sortSet {e : Expr} {p p2 pos pos2 : Pos} {qb : QB} (hc : X.calm = true) (g1 : Gl X "sorted") (m1 : X.mg "sorted" = none) (g2 : Gl X "set") (m2 : X.mg "set" = none) (he : PE X e (liB z qb)) (hK : X.K = z.K := by first | assumption | rfl)
    (h1 : starEach [.Call (.Name "set" p2) [e] [] pos2] X.env = (false, eval (.Call (.Name "set" p2) [e] [] pos2) X.env) :: starEach [] X.env := by rfl) (h2 : starEach [e] X.env = (false, eval e X.env) :: starEach [] X.env := by rfl) :
    PE X (.Call (.Name "sorted" p) [.Call (.Name "set" p2) [e] [] pos2] [] pos) (liE z (eSortSet qb)) := by
  refine pe_w (pe_callB (cr_sortSet hc) g1 m1 (by decide +kernel) (pa_cons (pe_callTy (cr_setOf hc) g2 m2 (by decide +kernel) (pa_cons he pa_nil h2) (he := h2)) pa_nil h1) (he := h1)) fun σ H Q ⟨S, M, ρ, Q0, sim, h, post⟩ => ?_
  refine ⟨S, M, ρ, _, sim, h, fun v H1 ⟨d, ρ1, M1, S1, ⟨ns, hd, hl, q⟩, st1, sim1, rb⟩ => ?_⟩
  have hv : ∃ a, v = .ref a ∧ (SqL X.K H1 a (ns.map V.int) ∨ SqT X.K H1 a (ns.map V.int)) := by
    rcases hd with rfl | rfl
    · obtain ⟨a, xs, e1, e2, e3⟩ := rb.lst sim1.sub
      rw [e3.intsV] at e2
      exact ⟨a, e1, .inl (.of e2)⟩
    · obtain ⟨a, xs, e1, e2, e3⟩ := rb.tup
      rw [e3.intsV] at e2
      exact ⟨a, e1, .inr (by rw [hK]; exact same_seqT sim1.sub e2)⟩
  obtain ⟨a, rfl, hq⟩ := hv
  refine ⟨a, ns, rfl, hq, hl, fun p1 c hcl hp1 => ⟨p1, _, c, rfl, upd_same, fun ms p2 asc mem hp2 => ?_⟩⟩
  obtain ⟨simA, stA⟩ := sim1.more (o := SetO X.w p1 (fun j => decide (j ∈ ns)) c) hp1
  obtain ⟨simB, stB, rB⟩ := simA.fresh (ds := ms.map D.int) hp2 .ints
  exact post _ _ ⟨_, ρ1, M1, S1, q ms asc (fun k => by rw [mem k]; exact decide_eq_true_iff), (st1.trans stA).trans stB, simB, rB⟩
end
end PL
namespace PL
open PySem PySem.Spec PyProof.Rows L2

/-! ### dicts: made once, then read -/
def keyD : Key → D
  | .inl i => .int i
  | .inr s => .str s
def kyOf : D → Option Key
  | .int i => some (.inl i)
  | .str s => some (.inr s)
  | _ => none
theorem kyOf_rp {K : Fg} {S : Hp} {v : V} {d : D} {k : Key} (h : Rp K S v d) (e : kyOf d = some k) : v = kV k := by
  cases h <;> simp [kyOf] at e <;> subst e <;> rfl
theorem keyD_rp {K : Fg} {S : Hp} {k : Key} : Rp K S (kV k) (keyD k) := by
  cases k with
  | inl i => exact .int i
  | inr s => exact .str s
def lookD : List Key → List D → Key → Option D
  | k :: ks, d :: ds, j => if k = j then some d else lookD ks ds j
  | _, _, _ => none
theorem lookD_rp {K : Fg} {S : Hp} {j : Key} : ∀ {ks : List Key} {xs : List V} {ds : List D}, ks.length = xs.length → RpA K S xs ds →
    (∀ d, lookD ks ds j = some d → ∃ v, valV (ks.zip xs) j = some v ∧ Rp K S v d) ∧ (lookD ks ds j = none → valV (ks.zip xs) j = none)
  | [], [], _, _, h => by cases h; exact ⟨fun d e => (by cases e), fun _ => rfl⟩
  | k :: ks, x :: xs, _, hl, h => by
    cases h with
    | cons a b =>
      obtain ⟨i1, i2⟩ := lookD_rp (j := j) (Nat.succ.inj hl) b
      rw [List.zip_cons_cons]
      by_cases c : k = j
      · refine ⟨fun d e => ?_, fun e => ?_⟩
        · rw [lookD, if_pos c] at e
          cases e
          exact ⟨_, valV_pos c, a⟩
        · rw [lookD, if_pos c] at e
          cases e
      · refine ⟨fun d e => ?_, fun e => ?_⟩
        · rw [lookD, if_neg c] at e
          rw [valV_neg c]
          exact i1 d e
        · rw [lookD, if_neg c] at e
          rw [valV_neg c]
          exact i2 e
section
variable {X : Cx} {z : Z} {a b c : Expr} {pos : Pos} {qa qb : QB} {q qc : QE}
theorem Rb.dic {K : Fg} {S : Hp} {M : Mu} {H : Hp} {v : V} {ks : List Key} {ds : List D} (h : Rb K S M H v (.dic ks ds)) : ∃ a o xs, v = .ref a ∧ S a = some (.frz o (.dK (ks.zip xs))) ∧ ks.length = xs.length ∧ RpA K S xs ds := by
  rcases h with h | ⟨a, xs, ds', h1, h2, _⟩
  · cases h with
    | dic h1 h2 h3 => exact ⟨_, _, _, rfl, h1, h2, h3⟩
  · cases h2
def lk (d k : D) : Option D := match d, kyOf k with
  | .dic ks ds, some j => lookD ks ds j
  | _, _ => none
theorem lk_int {ks : List Key} {ds : List D} {i : Int} : lk (.dic ks ds) (.int i) = lookD ks ds (.inl i) := rfl
theorem lk_str {ks : List Key} {ds : List D} {i : Str} : lk (.dic ks ds) (.str i) = lookD ks ds (.inr i) := rfl
theorem lk_some {d k r : D} (h : lk d k = some r) : ∃ ks ds j, d = .dic ks ds ∧ kyOf k = some j ∧ lookD ks ds j = some r := by
  unfold lk at h
  split at h
  · rename_i e
    exact ⟨_, _, _, rfl, e, h⟩
  · cases h
def isDic : D → Bool
  | .dic _ _ => true
  | _ => false
theorem isDic_of {d : D} (h : isDic d = true) : ∃ ks ds, d = .dic ks ds := by
  cases d <;> simp [isDic] at h
  exact ⟨_, _, rfl⟩
theorem kyOf_rb {K : Fg} {S : Hp} {M : Mu} {H : Hp} {y : V} {k : D} {j : Key} (r : Rb K S M H y k) (e : kyOf k = some j) : y = kV j := by
  rcases r with r | ⟨_, _, _, _, e2, _⟩
  · exact kyOf_rp r e
  · rw [e2] at e; cases e
/-- d[e] -/
def eDGet (qa qb : QB) : QE := fun ρ M Q => qa ρ M fun d ρ1 M1 => qb ρ1 M1 fun k ρ2 M2 => match lk d k with
  | some r => Q (.va r) ρ2 M2
  | none => False
theorem qe_dget (hu : X.A.units + 1 < cLine) (ha : PE X a (liB z qa)) (hb : PE X b (liB z qb)) (hs : NoSl b := by exact fun _ _ => rfl) : PE X (.Subscript a b pos) (liE z (eDGet qa qb)) :=
  pe_w (pe_dget hu ha hb hs) fun σ H Q ⟨S, M, ρ, Q0, sim, h, post⟩ => ⟨S, M, ρ, _, sim, h, fun v H1 ⟨d, ρ1, M1, S1, q1, st1, sim1, r1⟩ => ⟨S1, M1, ρ1, _, sim1, q1, fun y H2 ⟨k, ρ2, M2, S2, q2, st2, sim2, r2⟩ => by
    dsimp only at q2
    cases e : lk d k with
    | none => rw [e] at q2; exact q2.elim
    | some r =>
      rw [e] at q2
      obtain ⟨ks, ds, j, rfl, ek, el⟩ := lk_some e
      obtain ⟨p, o, xs, rfl, h1, h2, h3⟩ := (r1.step st2).dic
      obtain ⟨w, e3, rw'⟩ := (lookD_rp h2 h3).1 _ el
      exact ⟨p, w, rfl, .inl ⟨_, _, .inr ⟨o, sim2.sub _ _ h1⟩, kyOf_rb r2 ek, e3.symm⟩, post _ _ ⟨.va _, ρ2, M2, S2, q2, st1.trans st2, sim2, rw'⟩⟩⟩⟩
/-- d.get(e, c) -/
def eDGet2 (qa qb : QB) (qc : QE) : QE := fun ρ M Q => qa ρ M fun d ρ1 M1 => isDic d = true ∧ qb ρ1 M1 fun k ρ2 M2 => qc ρ2 M2 fun r ρ3 M3 => (kyOf k).isSome = true ∧ Q (.va ((lk d k).getD r.val)) ρ3 M3
theorem qe_dget2 (hu : X.A.units + 1 < cLine) {apos cpos : Pos} (ha : PE X a (liB z qa)) (hb : PE X b (liB z qb)) (hc : PE X c (liE z qc)) (m : M2 X a "get" apos b c cpos) : PE X (.Call (.Attribute a "get" apos) [b, c] [] cpos) (liE z (eDGet2 qa qb qc)) :=
  pe_w (pe_dget2 hu ha hb hc m) fun σ H Q ⟨S, M, ρ, Q0, sim, h, post⟩ => ⟨S, M, ρ, _, sim, h, fun v H1 ⟨d, ρ1, M1, S1, ⟨q0, q1⟩, st1, sim1, r1⟩ => by
    obtain ⟨ks, ds, rfl⟩ := isDic_of q0
    obtain ⟨p, o, xs, rfl, h1, h2, h3⟩ := r1.dic
    refine ⟨p, rfl, .inl ⟨_, .inr ⟨o, sim1.sub _ _ h1⟩⟩, S1, M1, ρ1, _, sim1, q1, fun y H2 ⟨k, ρ2, M2, S2, q2, st2, sim2, r2⟩ => ⟨S2, M2, ρ2, _, sim2, q2, fun u H3 ⟨r, ρ3, M3, S3, ⟨q3, q4⟩, st3, sim3, r3⟩ => ?_⟩⟩
    obtain ⟨S4, sim4, st4, rp⟩ := sim3.freeze r3
    have e4 := (st2.trans st3).trans st4
    have h1' := e4.same _ _ h1
    have h3' := RpA.ext e4.same _ _ h3
    obtain ⟨j, ek⟩ := Option.isSome_iff_exists.mp q3
    obtain ⟨l1, l2⟩ := lookD_rp (j := j) h2 h3'
    have elk : lk (.dic ks ds) k = lookD ks ds j := by unfold lk; rw [ek]
    rw [elk] at q4
    cases el : lookD ks ds j with
    | some r' =>
      rw [el] at q4
      obtain ⟨w, e3, rw'⟩ := l1 _ el
      exact ⟨some w, .inl ⟨_, j, .inr ⟨o, sim4.sub _ _ h1'⟩, kyOf_rb r2 ek, e3.symm⟩, post _ _ ⟨.va _, ρ3, M3, S4, q4, st1.trans e4, sim4, rw'⟩⟩
    | none =>
      rw [el] at q4
      exact ⟨none, .inl ⟨_, j, .inr ⟨o, sim4.sub _ _ h1'⟩, kyOf_rb r2 ek, (l2 el).symm⟩, post _ _ ⟨.va _, ρ3, M3, S4, q4, st1.trans e4, sim4, rp⟩⟩⟩
/-- for k in d -/
def iDic (q : QE) : QA := fun ρ M Q => q ρ M fun r ρ' M' => match r with
  | .va (.dic ks _) => Q (ks.map keyD) ρ' M'
  | _ => False
theorem ylds_keys {S1 : Hp} {p : Addr} {o : Obj} {ks : List Key} {xs : List V} (h : S1 p = some (.frz o (.dK (ks.zip xs)))) (hl : ks.length = xs.length) : Ylds z (Itk p o (ks.zip xs)) S1 (ks.map keyD) := by
  have hz : (ks.zip xs).length = ks.length := by rw [List.length_zip]; omega
  refine ⟨fun i H S e1 e2 hi => ⟨(e1.trans e2) _ _ h, by rw [hz]; simpa using hi⟩, fun i H S e1 e2 hi => ⟨(e1.trans e2) _ _ h, by rw [hz]; simpa using hi⟩, fun i H S x H' d e1 e2 ed y => ?_⟩
  obtain ⟨rfl, k, v, e3, rfl⟩ := y
  rw [List.getElem?_map] at ed
  rw [List.getElem?_zip_eq_some] at e3
  rw [e3.1] at ed
  cases ed
  exact ⟨S, .refl _, .refl _, e2, fun b w => .inl w, keyD_rp⟩
theorem qi_dict {tg e : Expr} (h : PE X e (liE z q)) : PI X tg e (liI z (iDic q)) :=
  pi_w (pi_keys h) fun σ H R ⟨S, M, ρ, Q0, sim, h, post⟩ => ⟨S, M, ρ, _, sim, h, fun v H1 ⟨r, ρ1, M1, S1, q1, st1, sim1, res1⟩ => by
    dsimp only at q1
    split at q1
    · have rp : Rp z.K S1 v (.dic _ _) := res1
      cases rp with
      | dic h1 h2 h3 => exact ⟨_, _, rfl, .inl ⟨_, sim1.sub _ _ h1, post _ H1 ⟨_, ρ1, M1, S1, q1, st1, sim1, ylds_keys h1 h2⟩⟩⟩
    · exact q1.elim⟩
/-- the dict of a name, locked from now on -/
def tLock (i : Nat) : TE := fun σ H Q => ∃ p kvs, σ[i]? = some (some (.ref p)) ∧ H p = some (.dK kvs) ∧ ∀ od, Q (.ref p) (upd H p (.frz od (.dK kvs)))
theorem pe_lock {i : Nat} {x : Str} (hN : X.N[i]? = some x) (hv : Vis X.env.scope x) (hd : (x == ("__debug__" : Str)) = false := by decide) (hcd : (x == ("__classdict__" : Str)) = false := by decide) : PE X (.Name x pos) (tLock i) := by
  refine ⟨fun pins s σ H Q I ⟨p, kvs, e, hp, q⟩ => ?_⟩
  refine thn ((pe_var hN hv hd hcd).run pins s σ H (fun v H' => v = .ref p ∧ H' = H) I ⟨_, e, rfl, rfl⟩) fun v s1 ⟨y, H1, I1, r1, e1, e2⟩ => ?_
  subst e1 e2
  obtain ⟨od, I2⟩ := I1.lock hp True.intro
  exact ⟨_, _, I2, r1, q od⟩
/-! ### a dict of lists, made by setdefault and append -/
def sByCls : QS := fun D' ρ M => match ρ with
  | [.va (.tup xs), .va (.int c), .un, .un] => ∃ ns : List Int, xs = ns.map D.int ∧ 0 < c ∧ ns.length < 16777216 ∧
    ∀ ks : List Int, ks.Nodup → (∀ k, k ∈ ks ↔ ∃ r ∈ ns, r % c = k) → D'.rt (.va (.dic (ks.map Sum.inl) (ks.map fun k => .lst ((ns.filter fun r => r % c = k).map D.int)))) M
  | _ => False
end
structure ByInv (Hb H : Hp) (p : Addr) (c : Int) (ns : List Int) (es : List (Int × Addr)) : Prop where
  same : Same Hb H
  dict : H p = some (.dK (es.map fun e => (.inl e.1, .ref e.2)))
  knd : (es.map (·.1)).Nodup
  mem : ∀ k, k ∈ es.map (·.1) ↔ ∃ r ∈ ns, r % c = k
  lst : ∀ e ∈ es, Hb e.2 = none ∧ e.2 ≠ p ∧ H e.2 = some (.lst ((ns.filter fun r => r % c = e.1).map V.int))
  and_ : (es.map (·.2)).Nodup
  pn : Hb p = none
  len : es.length ≤ ns.length
theorem valV_es {es : List (Int × Addr)} {k : Int} : (∀ v, valV (es.map fun e => ((.inl e.1 : Key), V.ref e.2)) (.inl k) = some v → ∃ e ∈ es, e.1 = k ∧ v = .ref e.2) ∧ (valV (es.map fun e => ((.inl e.1 : Key), V.ref e.2)) (.inl k) = none → k ∉ es.map (·.1)) := by
  induction es with
  | nil => exact ⟨fun v e => (by cases e), fun _ h => (by cases h)⟩
  | cons e es ih =>
    rw [List.map_cons]
    by_cases c : e.1 = k
    · rw [valV_pos (by rw [c])]
      refine ⟨fun v h => ?_, fun h => by cases h⟩
      cases h
      exact ⟨e, List.mem_cons_self, c, rfl⟩
    · rw [valV_neg (by simpa using c)]
      refine ⟨fun v h => ?_, fun h w => ?_⟩
      · obtain ⟨e', h1, h2⟩ := ih.1 v h
        exact ⟨e', List.mem_cons_of_mem _ h1, h2⟩
      · rcases List.mem_cons.mp w with w | w
        · exact c w.symm
        · exact ih.2 h w
theorem ByInv.old {Hb H : Hp} {p q : Addr} {c r : Int} {ns : List Int} {es : List (Int × Addr)} (h : ByInv Hb H p c ns es) (hq : H q = none) {e : Int × Addr} (he : e ∈ es) (hk : e.1 = r % c) :
    ByInv Hb (upd (upd H q (.lst [])) e.2 (.lst ((ns.filter fun r => r % c = e.1).map V.int ++ [.int r]))) p c (ns ++ [r]) es := by
  obtain ⟨h1, h2, h3, h4, h5, h6, h7, h8⟩ := h
  obtain ⟨a1, a2, a3⟩ := h5 e he
  refine ⟨fun b o w => ?_, ?_, h3, fun k => ?_, fun e' he' => ?_, h6, h7, by simp; omega⟩
  · rw [upd_ne (ne_of_none w a1), upd_ne (ne_of_none (h1 _ _ w) hq)]
    exact h1 _ _ w
  · rw [upd_ne (Ne.symm a2), upd_ne (ne_of_none h2 hq)]
    exact h2
  · rw [h4]
    constructor
    · rintro ⟨s, hs, e⟩
      exact ⟨s, List.mem_append_left _ hs, e⟩
    · rintro ⟨s, hs, e2⟩
      rcases List.mem_append.mp hs with w | w
      · exact ⟨s, w, e2⟩
      · rw [List.mem_singleton.mp w] at e2
        rw [← e2, ← hk]
        exact (h4 _).mp (List.mem_map.mpr ⟨e, he, rfl⟩)
  · obtain ⟨b1, b2, b3⟩ := h5 e' he'
    refine ⟨b1, b2, ?_⟩
    by_cases w : e'.2 = e.2
    · have e1 : e' = e := by
        obtain ⟨i, hi⟩ := List.getElem?_of_mem he'
        obtain ⟨j, hj⟩ := List.getElem?_of_mem he
        have hij : i = j := by
          have l1 := (List.getElem?_eq_some_iff.mp hi).1
          refine (List.getElem?_inj (by rw [List.length_map]; exact l1) h6).mp ?_
          rw [List.getElem?_map, List.getElem?_map, hi, hj]
          exact congrArg some w
        subst hij
        rw [hi] at hj
        exact Option.some.inj hj
      rw [e1, upd_same, List.filter_append, List.map_append]
      simp [hk]
    · rw [upd_ne w, upd_ne (ne_of_none b3 hq), b3, List.filter_append, List.map_append]
      have : ¬ r % c = e'.1 := fun w2 => w (by
        obtain ⟨i, hi⟩ := List.getElem?_of_mem he'
        obtain ⟨j, hj⟩ := List.getElem?_of_mem he
        have hij : i = j := by
          have l1 := (List.getElem?_eq_some_iff.mp hi).1
          refine (List.getElem?_inj (by rw [List.length_map]; exact l1) h3).mp ?_
          rw [List.getElem?_map, List.getElem?_map, hi, hj]
          exact congrArg some (w2.symm.trans hk.symm)
        subst hij
        rw [hi] at hj
        rw [Option.some.inj hj])
      simp [this]
theorem ByInv.new {Hb H : Hp} {p q : Addr} {c r : Int} {ns : List Int} {es : List (Int × Addr)} (h : ByInv Hb H p c ns es) (hq : H q = none) (hk : r % c ∉ es.map (·.1)) :
    ByInv Hb (upd (upd (upd H q (.lst [])) p (.dK (putK (es.map fun e => ((.inl e.1 : Key), V.ref e.2)) (.inl (r % c)) (.ref q)))) q (.lst [.int r])) p c (ns ++ [r]) (es ++ [(r % c, q)]) := by
  obtain ⟨h1, h2, h3, h4, h5, h6, h7, h8⟩ := h
  have hqp : q ≠ p := fun w => by rw [w, h2] at hq; cases hq
  have hv : valV (es.map fun e => ((.inl e.1 : Key), V.ref e.2)) (.inl (r % c)) = none := by
    cases e : valV (es.map fun e => ((.inl e.1 : Key), V.ref e.2)) (.inl (r % c)) with
    | none => rfl
    | some v =>
      obtain ⟨e', a, b, _⟩ := valV_es.1 v e
      exact absurd (List.mem_map.mpr ⟨e', a, b⟩) hk
  refine ⟨fun b o w => ?_, ?_, ?_, fun k => ?_, fun e he => ?_, ?_, h7, by simp; omega⟩
  · have w2 := h1 _ _ w
    rw [upd_ne (ne_of_none w2 hq), upd_ne (ne_of_none w h7), upd_ne (ne_of_none w2 hq)]
    exact w2
  · rw [upd_ne (Ne.symm hqp), upd_same, putK_new _ hv]
    simp
  · rw [List.map_append, List.nodup_append]
    refine ⟨h3, by simp, fun a ha b hb w => ?_⟩
    simp at hb
    rw [w, hb] at ha
    exact hk ha
  · rw [List.map_append, List.mem_append, h4]
    constructor
    · rintro (⟨s, hs, e⟩ | w)
      · exact ⟨s, List.mem_append_left _ hs, e⟩
      · have w2 : k = r % c := by simpa using w
        exact ⟨r, List.mem_append_right _ List.mem_cons_self, w2.symm⟩
    · rintro ⟨s, hs, e2⟩
      rcases List.mem_append.mp hs with w | w
      · exact .inl ⟨s, w, e2⟩
      · rw [List.mem_singleton.mp w] at e2
        exact .inr (by simp [e2])
  · rcases List.mem_append.mp he with w | w
    · obtain ⟨b1, b2, b3⟩ := h5 e w
      refine ⟨b1, b2, ?_⟩
      have hne : ¬ r % c = e.1 := fun w2 => hk (List.mem_map.mpr ⟨e, w, w2.symm⟩)
      rw [upd_ne (ne_of_none b3 hq), upd_ne b2, upd_ne (ne_of_none b3 hq), b3, List.filter_append]
      simp [hne]
    · rw [List.mem_singleton.mp w]
      refine ⟨?_, hqp, ?_⟩
      · cases e : Hb q with
        | none => rfl
        | some o => rw [h1 _ _ e] at hq; cases hq
      · rw [upd_same, List.filter_append]
        have : ns.filter (fun s => s % c = r % c) = [] := by
          rw [List.filter_eq_nil_iff]
          intro s hs w2
          exact hk ((h4 _).mpr ⟨s, hs, by simpa using w2⟩)
        rw [this]
        simp
  · rw [List.map_append, List.nodup_append]
    refine ⟨h6, by simp, fun a ha b hb w => ?_⟩
    simp at hb
    obtain ⟨e, he, rfl⟩ := List.mem_map.mp ha
    have := (h5 e he).2.2
    rw [w, hb, hq] at this
    cases this
/-- what HandS says of: found = {}; for r in residues: found.setdefault(r % c, []).append(r); return found -/
def tByCls (K : Fg) : TS := tSeq (tAsg tDNewK (gName 2)) (tSeq (tFor (fun σ H R => tVar 0 σ H fun x H1 => ∃ a, x = .ref a ∧ (((∃ xs, SqL K H1 a xs) ∧ R (Itl K a) H1) ∨ ((∃ xs, SqT K H1 a xs) ∧ R (Itt K a) H1))) (gName 3)
  (tDrop (tBM K "list" rAppend (tDSetd (tVar 2) (tOp (rI (fun _ j => 0 < j) fun i j => .int (i % j)) (tVar 3) (tVar 1)) (tLst tNil)) (tCons (tVar 3) tNil)))) (tRet (tLock 2)))
theorem byCls_w {z : Z} {K : Fg} (hK : K = z.K) {D' : Ends} {σ : St} {H : Hp} (h : liS z sByCls D' σ H) : tByCls K D' σ H := by
  subst hK
  obtain ⟨S, M, ρ, D0, sim, h, nx, bk, ct, rt⟩ := h
  unfold sByCls at h
  split at h
  · rename_i xs c
    obtain ⟨ns, rfl, hc, hlen, hq⟩ := h
    obtain ⟨va, e0, r0⟩ := sim.va 0 _ rfl
    obtain ⟨vc, e1, r1⟩ := sim.va 1 _ rfl
    cases r1
    have hl := sim.len
    cases r0 with
    | tup ht hr =>
      rename_i a xs
      have hxs := hr.intsV
      subst hxs
      intro p hp
      have hl2 : 2 < σ.length := by rw [hl]; simp
      refine ⟨_, by rw [List.getElem?_set_ne (by decide)]; exact e0, a, rfl, .inr ⟨⟨ns.map V.int, ?_⟩, ?_⟩⟩
      · exact same_seqT (sim.sub.trans (same_upd hp)) ht
      · refine ⟨fun i m σ' H' => m = ns.length - i ∧ i ≤ ns.length ∧ σ'.length = σ.length ∧ σ'[1]? = some (some (.int c)) ∧ σ'[2]? = some (some (.ref p)) ∧ ∃ es, ByInv H H' p c (ns.take i) es, ⟨ns.length, by simp, Nat.zero_le _, by simp, by rw [List.getElem?_set_ne (by decide)]; exact e1, by rw [List.getElem?_set_self hl2], [], ?_⟩, ?_⟩
        · exact ⟨same_upd hp, upd_same, by simp, fun k => by simp, fun e he => (by cases he), by simp, hp, by simp⟩
        · rintro i m σ2 H2 ⟨rfl, hi, sl, s1, s2, es, inv⟩
          have ht2 : SqT z.K H2 a (ns.map V.int) := same_seqT (sim.sub.trans inv.same) ht
          by_cases hlt : i < ns.length
          · refine .inr ⟨⟨_, V.int ns[i], ht2, by rw [List.getElem?_map, List.getElem?_eq_getElem hlt]; rfl⟩, fun σ' H' => i + 1 ≤ ns.length ∧ σ'.length = σ.length ∧ σ'[1]? = some (some (.int c)) ∧ σ'[2]? = some (some (.ref p)) ∧ ∃ es, ByInv H H' p c (ns.take (i + 1)) es, fun σ' H' h => ⟨ns.length - (i + 1), by omega, rfl, h⟩, fun x H3 ⟨e3, y⟩ => ?_⟩
            subst e3
            have ex := y _ ht2
            rw [List.getElem?_map, List.getElem?_eq_getElem hlt] at ex
            cases ex
            have et : ns.take (i + 1) = ns.take i ++ [ns[i]] := by rw [List.take_add_one, List.getElem?_eq_getElem hlt]; rfl
            have hl3 : 3 < σ2.length := by rw [sl, hl]; simp
            generalize ns[i] = r at *
            have t1 : (σ2.set 3 (some (V.int r)))[1]? = some (some (.int c)) := by rw [List.getElem?_set_ne (by decide)]; exact s1
            have t2 : (σ2.set 3 (some (V.int r)))[2]? = some (some (.ref p)) := by rw [List.getElem?_set_ne (by decide)]; exact s2
            have t3 : (σ2.set 3 (some (V.int r)))[3]? = some (some (.int r)) := List.getElem?_set_self hl3
            refine ⟨_, t2, p, rfl, .inl ⟨_, .inl inv.dict⟩, _, t3, _, t1, r, c, rfl, rfl, hc, Nat.zero_le _, fun q hq0 => ?_⟩
            have hqp : q ≠ p := fun w => by rw [w, inv.dict] at hq0; cases hq0
            have hd2 : upd H3 q (.lst []) p = some (.dK (es.map fun e => (.inl e.1, .ref e.2))) := by rw [upd_ne (Ne.symm hqp)]; exact inv.dict
            have hel : es.length ≤ ns.length := by
              have := inv.len
              rw [List.length_take] at this
              omega
            refine ⟨_, .inl (r % c), hd2, rfl, by rw [List.length_map]; have := hlen; show es.length < 16777216; omega, fun v hv => ?_, fun hv => ?_⟩
            · obtain ⟨e, he, ek, rfl⟩ := valV_es.1 v hv
              have a3 := (inv.lst e he).2.2
              have hne : e.2 ≠ q := ne_of_none a3 hq0
              have hH : upd H3 q (.lst []) e.2 = some (.lst (((ns.take i).filter fun r => r % c = e.1).map V.int)) := by rw [upd_ne hne]; exact a3
              refine ⟨.inl ⟨rfl, _, .of hH⟩, _, t3, _, _, _, rfl, rfl, hH, ?_, hlt, by rw [List.length_set]; exact sl, t1, t2, es, ?_⟩
              · have := List.length_filter_le (fun r => decide (r % c = e.1)) (ns.take i)
                rw [List.length_take] at this
                rw [List.length_map]
                show _ < 16777216
                omega
              · rw [et]
                exact inv.old hq0 he ek
            · have hk := valV_es.2 hv
              refine ⟨.inl ⟨rfl, [], .of (by rw [upd_ne hqp, upd_same])⟩, _, t3, q, [], _, rfl, rfl, by rw [upd_ne hqp, upd_same], by decide, hlt, by rw [List.length_set]; exact sl, t1, t2, es ++ [(r % c, q)], ?_⟩
              rw [et]
              exact inv.new hq0 hk
          · have e : i = ns.length := by omega
            subst e
            rw [List.take_length] at inv
            refine .inl ⟨⟨_, ht2, by rw [List.length_map]; exact Nat.le_refl _⟩, p, _, s2, inv.dict, fun od => ?_⟩
            obtain ⟨v1, v2, v3, v4, v5, v6, v7, v8⟩ := inv
            have hpS : S p = none := sim.toCore.sNone hp
            refine rt _ M (fun b => if b = p then some (.frz od (.dK (es.map fun e => (.inl e.1, .ref e.2)))) else if b ∈ es.map (·.2) then H2 b else S b) _ _ (hq (es.map (·.1)) v3 v4) (sim.toCore.grow (fun b o w => ?_) (fun b o w => ?_) (fun b o w => ?_) fun b w => ?_) ?_
            · have n1 : b ≠ p := ne_of_none w hpS
              have n2 : b ∉ es.map (·.2) := fun w2 => by
                obtain ⟨e, he, rfl⟩ := List.mem_map.mp w2
                have := sim.sub _ _ w
                rw [(v5 e he).1] at this
                cases this
              rw [if_neg n1, if_neg n2]
              exact w
            · rw [upd_ne (ne_of_none w hp)]
              exact v1 _ _ w
            · by_cases n1 : b = p
              · rw [if_pos n1] at w
                rw [n1, upd_same]
                exact w
              · rw [if_neg n1] at w
                rw [upd_ne n1]
                by_cases n2 : b ∈ es.map (·.2)
                · rw [if_pos n2] at w; exact w
                · rw [if_neg n2] at w; exact v1 _ _ (sim.sub _ _ w)
            · by_cases n1 : b = p
              · rw [n1]; exact .inr hp
              · rw [if_neg n1] at w
                by_cases n2 : b ∈ es.map (·.2)
                · obtain ⟨e, he, rfl⟩ := List.mem_map.mp n2
                  exact .inr (v5 e he).1
                · rw [if_neg n2] at w; exact .inl w
            · show Rp z.K _ (.ref p) (.dic _ _)
              refine .dic (o := od) (xs := es.map fun e => V.ref e.2) ?_ (by simp) ?_
              · rw [if_pos rfl]
                congr 2
                rw [List.map_map, List.zip_map', ]
                rfl
              · have : ∀ es' : List (Int × Addr), (∀ e ∈ es', e ∈ es) → RpA z.K (fun b => if b = p then some (.frz od (.dK (es.map fun e => (.inl e.1, .ref e.2)))) else if b ∈ es.map (·.2) then H2 b else S b) (es'.map fun e => V.ref e.2) ((es'.map (·.1)).map fun k => D.lst ((ns.filter fun r => r % c = k).map D.int)) := by
                  intro es'
                  induction es' with
                  | nil => exact fun _ => .nil
                  | cons e es' ih =>
                    intro hsub
                    have he := hsub e List.mem_cons_self
                    obtain ⟨w1, w2, w3⟩ := v5 e he
                    refine .cons (.lst (xs := (ns.filter fun r => r % c = e.1).map V.int) ?_ RpA.ints) (ih fun e' h' => hsub e' (List.mem_cons_of_mem _ h'))
                    rw [if_neg w2, if_pos (List.mem_map.mpr ⟨e, he, rfl⟩)]
                    exact w3
                exact this es fun _ h => h
  · exact h.elim
end PL
namespace PL
open PySem PySem.Spec PyProof.Rows L2
/-! ### what nothing comes to -/
theorem qss_never {X : Cx} {z : Z} {ss : List Stmt} : PSs X ss (liS z sNever) := ⟨fun _ _ _ _ _ _ ⟨_, _, _, _, _, h, _⟩ => h.elim⟩
/-! ### max of three -/
section
variable {X : Cx} {z : Z}
def cMax3 : CD := fun ds Q => match ds with
  | [.int i, .int j, .int k] => Q (.va (.int (max (max i j) k)))
  | _ => False
theorem nu3 (i j k : Int) : nuMax3 (.int i) (.int j) (.int k) = some (.int (max (max i j) k)) := by
  have two : ∀ a b : Int, nuMax2 (.int a) (.int b) = some (.int (max a b)) := fun a b => by
    show some (if decide (a < b) = true then V.int b else V.int a) = _
    by_cases c : a < b
    · rw [if_pos (decide_eq_true c), show max a b = b by omega]
    · rw [if_neg (by simpa using c), show max a b = a by omega]
  unfold nuMax3
  rw [two]
  exact two _ _
theorem cb_max3 (hc : X.calm = true) : CallB X z (.builtin "max") cMax3 := callB_of (call_max3Nu hc) fun σ H S M ρ xs ds Q0 sim rb q => by
  unfold cMax3 at q
  split at q
  · cases rb with | cons r1 rr => cases rr with | cons r2 rr => cases rr with | cons r3 rr => cases rr; exact ⟨_, _, _, _, by rw [r1.int, r2.int, r3.int], nu3 _ _ _, poE_va sim (.int _) q⟩
  · exact q.elim
end
end PL
namespace PL
open PySem PySem.Spec PyProof.Rows L2

/-! ### range with a step above 0 -/
def rangeC (lo c : Int) (n : Nat) : List D := (List.range n).map fun (k : Nat) => .int (lo + (k : Int) * c)
theorem rangeC_len {lo c : Int} {n : Nat} : (rangeC lo c n).length = n := by unfold rangeC; rw [List.length_map, List.length_range]
theorem rangeC_get {lo c : Int} {n i : Nat} {d : D} (h : (rangeC lo c n)[i]? = some d) : d = .int (lo + (i : Int) * c) ∧ i < n := by
  unfold rangeC at h
  rw [List.getElem?_map] at h
  cases e : (List.range n)[i]? with
  | none => rw [e] at h; cases h
  | some k =>
    rw [e] at h
    obtain ⟨h1, h2⟩ := List.getElem?_eq_some_iff.mp e
    rw [List.getElem_range] at h2
    subst h2
    cases h
    exact ⟨rfl, by rw [List.length_range] at h1; exact h1⟩
/-- how many -/
def stepN (i j c : Int) : Nat := ((j - i + c - 1) / c).toNat
theorem rgC_pos {i j c : Int} (h0 : 0 < c) (hc : c < 1073741824) (hi : -2147483648 ≤ i ∧ i < 2147483648) (hj : -2147483648 ≤ j ∧ j < 2147483648) : RgC i j c (stepN i j c) := by
  have e : Builtin.Range.rangeSize i j c = (stepN i j c : Nat) := by
    unfold Builtin.Range.rangeSize stepN
    rw [if_pos h0]
    have e1 : (j - i + c - 1) / c = (j - i - 1) / c + 1 := by
      rw [show j - i + c - 1 = (j - i - 1) + 1 * c by omega, Int.add_mul_ediv_right _ _ (by omega)]
    rw [e1]
    split
    · have := Int.ediv_nonneg (a := j - i - 1) (b := c) (by omega) (by omega)
      omega
    · have := Int.ediv_lt_of_lt_mul (a := j - i - 1) (b := 0) (c := c) h0 (by omega)
      omega
  have hn : ((stepN i j c : Nat) : Int) ≤ 4294967296 := by
    rw [← e]
    unfold Builtin.Range.rangeSize
    rw [if_pos h0]
    split
    · have := Int.ediv_le_self (a := j - i - 1) c (by omega)
      omega
    · decide
  refine ⟨by omega, by omega, ?_, e⟩
  unfold Builtin.Range.small
  rw [e]
  simp only [Builtin.Range.rangeFitsLong, Bool.and_eq_true, Bool.or_eq_true, decide_eq_true_eq, beq_iff_eq]
  rw [if_pos h0]
  simp only [Bool.and_eq_true, decide_eq_true_eq]
  omega
section
variable {X : Cx} {z : Z} {qr : QA} {tg : Expr}
def iR3 (qr : QA) : QA := fun ρ M Q => qr ρ M fun ds ρ' M' => match ds with
  | [.int i, .int j, .int c] => if c = -1 then ((-2147483648 ≤ i ∧ i < 2147483648) ∧ -2147483648 ≤ j ∧ j < 2147483648) ∧ Q (rangeC i (-1) (i - j).toNat) ρ' M'
    else ((0 < c ∧ c < 1073741824) ∧ (-2147483648 ≤ i ∧ i < 2147483648) ∧ -2147483648 ≤ j ∧ j < 2147483648) ∧ Q (rangeC i c (stepN i j c)) ρ' M'
  | _ => False
theorem ylds_rangeC {S1 : Hp} {lo c : Int} {n : Nat} : Ylds z (Itc lo c n) S1 (rangeC lo c n) := by
  refine ⟨fun i H S e1 e2 h => by rw [rangeC_len] at h; exact h, fun i H S e1 e2 h => by rw [rangeC_len] at h; exact h, fun i H S x H' d e1 e2 ed y => ?_⟩
  obtain ⟨rfl, rfl⟩ := y
  obtain ⟨rfl, _⟩ := rangeC_get ed
  exact ⟨S, .refl _, .refl _, e2, fun b q => .inl q, .int _⟩
theorem qi_range3 {a b c : Expr} {p pos : Pos} (hg : Gl X "range") (hm : X.mg "range" = none) (ha : PA X [a, b, c] (liA z qr)) (hs : starEach [a, b, c] X.env = (false, eval a X.env) :: starEach [b, c] X.env := by rfl) (hpl : (backTo pos (starEach [b, c] X.env)).any (·.1) = false := by rfl) :
    PI X tg (.Call (.Name "range" p) [a, b, c] [] pos) (liI z (iR3 qr)) :=
  pi_w (pi_range3 hg hm ha hs hpl) fun σ H R ⟨S, M, ρ, Q0, sim, h, post⟩ => ⟨S, M, ρ, _, sim, h, fun vs H1 ⟨ds, ρ1, M1, S1, q1, st1, sim1, rp⟩ => by
    dsimp only at q1
    split at q1
    · cases rp with
      | cons r1 rr =>
        cases rr with
        | cons r2 rr =>
          cases rr with
          | cons r3 rr =>
            cases rr
            cases r1
            cases r2
            cases r3
            split at q1
            · rename_i e
              subst e
              obtain ⟨⟨b3, b4⟩, q⟩ := q1
              exact ⟨_, _, _, _, rfl, RgC.neg (by omega) (by omega) (by omega) (by omega), post _ H1 ⟨_, ρ1, M1, S1, q, st1, sim1, ylds_rangeC⟩⟩
            · obtain ⟨⟨⟨b1, b2⟩, b3, b4⟩, q⟩ := q1
              exact ⟨_, _, _, _, rfl, rgC_pos b1 b2 b3 b4, post _ H1 ⟨_, ρ1, M1, S1, q, st1, sim1, ylds_rangeC⟩⟩
    · exact q1.elim⟩
end
end PL
namespace PL
open PySem PySem.Spec PyProof.Rows L2
/-! ### list(range(n)) -/
section
variable {X : Cx} {z : Z} {a : Expr} {qa : QB} {pos : Pos}
def eRange1 (qa : QB) : QE := fun ρ M Q => qa ρ M fun d1 ρ1 M1 => match d1 with
  | .int j => (-4611686018427387904 ≤ j ∧ j < 4611686018427387904 ∧ j ≤ 16777216) ∧ Q (.ow (.lst (rangeL 0 j))) ρ1 M1
  | _ => False
theorem qe_listRange1 {p1 p2 pos1 : Pos} (hc : X.calm = true) (hg : Gl X "list") (hm : X.mg "list" = none) (hg2 : Gl X "range") (hm2 : X.mg "range" = none) (ha : PE X a (liB z qa))
    (na : starEach [a] X.env = (false, eval a X.env) :: starEach [] X.env := by rfl)
    (nc : starEach [.Call (.Name "range" p2) [a] [] pos1] X.env = (false, eval (.Call (.Name "range" p2) [a] [] pos1) X.env) :: starEach [] X.env := by rfl) :
    PE X (.Call (.Name "list" p1) [.Call (.Name "range" p2) [a] [] pos1] [] pos) (liE z (eRange1 qa)) :=
  pe_w (pe_listRg hc hg hm (prg_1 hg2 hm2 ha na) nc) fun σ H Q ⟨S, M, ρ, Q0, sim, h, post⟩ => ⟨S, M, ρ, _, sim, h, fun x H1 ⟨d1, ρ1, M1, S1, q1, st1, sim1, b1⟩ => by
    dsimp only at q1
    split at q1
    · obtain ⟨⟨h1, h2, h3⟩, q⟩ := q1
      have p62 : (2 : Int) ^ 62 = 4611686018427387904 := by decide
      refine ⟨_, b1.int, ⟨by rw [p62]; omega, by rw [p62]; omega, by rw [p62]; exact h1, by rw [p62]; exact h2, by omega⟩, fun p hp => ?_⟩
      obtain ⟨a1, a2, a3⟩ := sim1.fresh hp rgV_rp
      exact post _ _ ⟨_, ρ1, M1, _, q, st1.trans a2, a1, a3⟩
    · exact q1.elim⟩
end
end PL
namespace Lw
open PySem PySem.Spec PyProof.Rows L2 PL
def topS (i : Nat) : Stmt := PySem.Challenge.pw_everdays_k25_rules_compared.main.body.getD i (.Pass ⟨0, 0, 0, 0⟩)
abbrev s_inverse : Stmt := topS 6
abbrev s_both : Stmt := topS 7
abbrev s_primes_of : Stmt := topS 8
abbrev s_place_in : Stmt := topS 11
abbrev s_shrunk : Stmt := topS 12
abbrev s_repeats : Stmt := topS 13
abbrev s_has : Stmt := topS 14
abbrev s_many_below : Stmt := topS 15
abbrev s_first_from : Stmt := topS 16
abbrev s_spread : Stmt := topS 17
abbrev s_by_class : Stmt := topS 18
abbrev s_met : Stmt := topS 19
abbrev s_joined : Stmt := topS 20
abbrev s_without : Stmt := topS 21
abbrev s_tidied : Stmt := topS 24
abbrev s_from_day : Stmt := topS 25
abbrev s_windows : Stmt := topS 26
abbrev s_next_from : Stmt := topS 27
abbrev s_nth_of : Stmt := topS 28
abbrev s_overlaps : Stmt := topS 30
abbrev s_within_stretch : Stmt := topS 31
abbrev s_short_stretch : Stmt := topS 32
abbrev s_put_together : Stmt := topS 33
abbrev s_union : Stmt := topS 34
abbrev s_minus : Stmt := topS 35
abbrev s_limited : Stmt := topS 36
abbrev s_within : Stmt := topS 37
abbrev s_unit_of : Stmt := topS 78
abbrev s_ascending : Stmt := topS 79
abbrev s_picks_fit : Stmt := topS 82
abbrev s_rule_fits : Stmt := topS 83
abbrev s_turns_of : Stmt := topS 89
abbrev s_unfolded : Stmt := topS 90
abbrev s_first_difference : Stmt := topS 92
abbrev s_same_days : Stmt := topS 93
abbrev s_implied_by : Stmt := topS 94
abbrev s_needed_rules : Stmt := topS 95
abbrev s__law_draw : Stmt := topS 97
abbrev s__law_tape : Stmt := topS 98
abbrev s__law_same : Stmt := topS 99
abbrev s__law_mod : Stmt := topS 100
abbrev s__law_ascending : Stmt := topS 106
abbrev s__law_rule_end : Stmt := topS 107
abbrev s__law_turns : Stmt := topS 110
abbrev s__law_rule_days : Stmt := topS 111
abbrev s__law_small_rule : Stmt := topS 112
abbrev s__law_twin : Stmt := topS 114
abbrev s__law_flags : Stmt := topS 115
abbrev s__law_lost : Stmt := topS 116
abbrev s_law : Stmt := topS 117
def d_inverse : He.DefD := ⟨("inverse", none), "inverse", "inverse", defArgs s_inverse, defBody s_inverse, defScope s_inverse, [], []⟩
def d_both : He.DefD := ⟨("both", none), "both", "both", defArgs s_both, defBody s_both, defScope s_both, [], []⟩
def d_primes_of : He.DefD := ⟨("primes_of", none), "primes_of", "primes_of", defArgs s_primes_of, defBody s_primes_of, defScope s_primes_of, [], []⟩
def d_place_in : He.DefD := ⟨("place_in", none), "place_in", "place_in", defArgs s_place_in, defBody s_place_in, defScope s_place_in, [], []⟩
def d_shrunk : He.DefD := ⟨("shrunk", none), "shrunk", "shrunk", defArgs s_shrunk, defBody s_shrunk, defScope s_shrunk, [], []⟩
def d_repeats : He.DefD := ⟨("repeats", none), "repeats", "repeats", defArgs s_repeats, defBody s_repeats, defScope s_repeats, [], []⟩
def d_has : He.DefD := ⟨("has", none), "has", "has", defArgs s_has, defBody s_has, defScope s_has, [], []⟩
def d_many_below : He.DefD := ⟨("many_below", none), "many_below", "many_below", defArgs s_many_below, defBody s_many_below, defScope s_many_below, [], []⟩
def d_first_from : He.DefD := ⟨("first_from", none), "first_from", "first_from", defArgs s_first_from, defBody s_first_from, defScope s_first_from, [], []⟩
def d_spread : He.DefD := ⟨("spread", none), "spread", "spread", defArgs s_spread, defBody s_spread, defScope s_spread, [], []⟩
def d_by_class : He.DefD := ⟨("by_class", none), "by_class", "by_class", defArgs s_by_class, defBody s_by_class, defScope s_by_class, [], []⟩
def d_met : He.DefD := ⟨("met", none), "met", "met", defArgs s_met, defBody s_met, defScope s_met, [], []⟩
def d_joined : He.DefD := ⟨("joined", none), "joined", "joined", defArgs s_joined, defBody s_joined, defScope s_joined, [], []⟩
def d_without : He.DefD := ⟨("without", none), "without", "without", defArgs s_without, defBody s_without, defScope s_without, [], []⟩
def d_tidied : He.DefD := ⟨("tidied", none), "tidied", "tidied", defArgs s_tidied, defBody s_tidied, defScope s_tidied, [], []⟩
def d_from_day : He.DefD := ⟨("from_day", none), "from_day", "from_day", defArgs s_from_day, defBody s_from_day, defScope s_from_day, [], []⟩
def d_windows : He.DefD := ⟨("windows", none), "windows", "windows", defArgs s_windows, defBody s_windows, defScope s_windows, [], []⟩
def d_next_from : He.DefD := ⟨("next_from", none), "next_from", "next_from", defArgs s_next_from, defBody s_next_from, defScope s_next_from, [], []⟩
def d_nth_of : He.DefD := ⟨("nth_of", none), "nth_of", "nth_of", defArgs s_nth_of, defBody s_nth_of, defScope s_nth_of, [], []⟩
def d_overlaps : He.DefD := ⟨("overlaps", none), "overlaps", "overlaps", defArgs s_overlaps, defBody s_overlaps, defScope s_overlaps, [], []⟩
def d_within_stretch : He.DefD := ⟨("within_stretch", none), "within_stretch", "within_stretch", defArgs s_within_stretch, defBody s_within_stretch, defScope s_within_stretch, [], []⟩
def d_short_stretch : He.DefD := ⟨("short_stretch", none), "short_stretch", "short_stretch", defArgs s_short_stretch, defBody s_short_stretch, defScope s_short_stretch, [], []⟩
def d_put_together : He.DefD := ⟨("put_together", none), "put_together", "put_together", defArgs s_put_together, defBody s_put_together, defScope s_put_together, [], []⟩
def d_union : He.DefD := ⟨("union", none), "union", "union", defArgs s_union, defBody s_union, defScope s_union, [], []⟩
def d_minus : He.DefD := ⟨("minus", none), "minus", "minus", defArgs s_minus, defBody s_minus, defScope s_minus, [], []⟩
def d_limited : He.DefD := ⟨("limited", none), "limited", "limited", defArgs s_limited, defBody s_limited, defScope s_limited, [], []⟩
def d_within : He.DefD := ⟨("within", none), "within", "within", defArgs s_within, defBody s_within, defScope s_within, [], []⟩
def d_unit_of : He.DefD := ⟨("unit_of", none), "unit_of", "unit_of", defArgs s_unit_of, defBody s_unit_of, defScope s_unit_of, [], []⟩
def d_ascending : He.DefD := ⟨("ascending", none), "ascending", "ascending", defArgs s_ascending, defBody s_ascending, defScope s_ascending, [], []⟩
def d_picks_fit : He.DefD := ⟨("picks_fit", none), "picks_fit", "picks_fit", defArgs s_picks_fit, defBody s_picks_fit, defScope s_picks_fit, [], []⟩
def d_rule_fits : He.DefD := ⟨("rule_fits", none), "rule_fits", "rule_fits", defArgs s_rule_fits, defBody s_rule_fits, defScope s_rule_fits, [], []⟩
def d_turns_of : He.DefD := ⟨("turns_of", none), "turns_of", "turns_of", defArgs s_turns_of, defBody s_turns_of, defScope s_turns_of, [], []⟩
def d_unfolded : He.DefD := ⟨("unfolded", none), "unfolded", "unfolded", defArgs s_unfolded, defBody s_unfolded, defScope s_unfolded, [], []⟩
def d_first_difference : He.DefD := ⟨("first_difference", none), "first_difference", "first_difference", defArgs s_first_difference, defBody s_first_difference, defScope s_first_difference, [], []⟩
def d_same_days : He.DefD := ⟨("same_days", none), "same_days", "same_days", defArgs s_same_days, defBody s_same_days, defScope s_same_days, [], []⟩
def d_implied_by : He.DefD := ⟨("implied_by", none), "implied_by", "implied_by", defArgs s_implied_by, defBody s_implied_by, defScope s_implied_by, [], []⟩
def d_needed_rules : He.DefD := ⟨("needed_rules", none), "needed_rules", "needed_rules", defArgs s_needed_rules, defBody s_needed_rules, defScope s_needed_rules, [], []⟩
def d__law_draw : He.DefD := ⟨("_law_draw", none), "_law_draw", "_law_draw", defArgs s__law_draw, defBody s__law_draw, defScope s__law_draw, [], []⟩
def d__law_tape : He.DefD := ⟨("_law_tape", none), "_law_tape", "_law_tape", defArgs s__law_tape, defBody s__law_tape, defScope s__law_tape, [], []⟩
def d__law_same : He.DefD := ⟨("_law_same", none), "_law_same", "_law_same", defArgs s__law_same, defBody s__law_same, defScope s__law_same, [], []⟩
def d__law_mod : He.DefD := ⟨("_law_mod", none), "_law_mod", "_law_mod", defArgs s__law_mod, defBody s__law_mod, defScope s__law_mod, [], []⟩
def d__law_ascending : He.DefD := ⟨("_law_ascending", none), "_law_ascending", "_law_ascending", defArgs s__law_ascending, defBody s__law_ascending, defScope s__law_ascending, [], []⟩
def d__law_rule_end : He.DefD := ⟨("_law_rule_end", none), "_law_rule_end", "_law_rule_end", defArgs s__law_rule_end, defBody s__law_rule_end, defScope s__law_rule_end, [], []⟩
def d__law_turns : He.DefD := ⟨("_law_turns", none), "_law_turns", "_law_turns", defArgs s__law_turns, defBody s__law_turns, defScope s__law_turns, [], []⟩
def d__law_rule_days : He.DefD := ⟨("_law_rule_days", none), "_law_rule_days", "_law_rule_days", defArgs s__law_rule_days, defBody s__law_rule_days, defScope s__law_rule_days, [], []⟩
def d__law_small_rule : He.DefD := ⟨("_law_small_rule", none), "_law_small_rule", "_law_small_rule", defArgs s__law_small_rule, defBody s__law_small_rule, defScope s__law_small_rule, [], []⟩
def d__law_twin : He.DefD := ⟨("_law_twin", none), "_law_twin", "_law_twin", defArgs s__law_twin, defBody s__law_twin, defScope s__law_twin, [], []⟩
def d__law_flags : He.DefD := ⟨("_law_flags", none), "_law_flags", "_law_flags", defArgs s__law_flags, defBody s__law_flags, defScope s__law_flags, [], []⟩
def d__law_lost : He.DefD := ⟨("_law_lost", none), "_law_lost", "_law_lost", defArgs s__law_lost, defBody s__law_lost, defScope s__law_lost, [], []⟩
def d_law : He.DefD := ⟨("law", none), "law", "law", defArgs s_law, defBody s_law, defScope s_law, [], []⟩
def fn : List He.DefD := [d_inverse, d_both, d_primes_of, d_place_in, d_shrunk, d_repeats, d_has, d_many_below, d_first_from, d_spread, d_by_class, d_met, d_joined, d_without, d_tidied, d_from_day, d_windows, d_next_from, d_nth_of, d_overlaps, d_within_stretch, d_short_stretch, d_put_together, d_union, d_minus, d_limited, d_within, d_unit_of, d_ascending, d_picks_fit, d_rule_fits, d_turns_of, d_unfolded, d_first_difference, d_same_days, d_implied_by, d_needed_rules, d__law_draw, d__law_tape, d__law_same, d__law_mod, d__law_ascending, d__law_rule_end, d__law_turns, d__law_rule_days, d__law_small_rule, d__law_twin, d__law_flags, d__law_lost, d_law]
def fa : List He.Fa := [.glo "inverse", .glo "both", .glo "primes_of", .glo "place_in", .glo "shrunk", .glo "repeats", .glo "has", .glo "many_below", .glo "first_from", .glo "spread", .glo "by_class", .glo "met", .glo "joined", .glo "without", .glo "tidied", .glo "from_day", .glo "windows", .glo "next_from", .glo "nth_of", .glo "overlaps", .glo "within_stretch", .glo "short_stretch", .glo "put_together", .glo "union", .glo "minus", .glo "limited", .glo "within", .glo "unit_of", .glo "ascending", .glo "picks_fit", .glo "rule_fits", .glo "turns_of", .glo "unfolded", .glo "first_difference", .glo "same_days", .glo "implied_by", .glo "needed_rules", .glo "_law_draw", .glo "_law_tape", .glo "_law_same", .glo "_law_mod", .glo "_law_ascending", .glo "_law_rule_end", .glo "_law_turns", .glo "_law_rule_days", .glo "_law_small_rule", .glo "_law_twin", .glo "_law_flags", .glo "_law_lost", .glo "law", .int "RESIDUES_MOST" (200000), .glo "EMPTY", .int "CYCLE_MONTHS" (4800), .int "CYCLE_DAYS" (146097), .glo "LENGTHS", .glo "BEFORE", .int "JULIAN_MONTHS" (48), .int "JULIAN_DAYS" (1461), .glo "JULIAN_LENGTHS", .glo "JULIAN_BEFORE", .int "JULIAN_BEGIN" (-2), .int "MOON_MONTHS" (360), .int "MOON_DAYS" (10631), .int "MOON_BEGIN" (227014), .int "INTERVAL_MOST" (99), .int "PICKS_MOST" (20), .int "COUNT_MOST" (100000), .free "all", .free "bool", .free "enumerate", .free "int", .free "isinstance", .free "len", .free "list", .free "max", .free "min", .free "range", .free "set", .free "sorted", .free "tuple"]
def ex (K : Fg) : Bool := tabB K (.ref (He.ga K "EMPTY")) (D.tup [(D.tup [(D.int 0), (D.int 1), (D.tup [])])]) && tabB K (.ref (He.ga K "LENGTHS")) (D.tup [(D.int 31), (D.int 28), (D.int 31), (D.int 30), (D.int 31), (D.int 30), (D.int 31), (D.int 31), (D.int 30), (D.int 31), (D.int 30), (D.int 31)]) && tabB K (.ref (He.ga K "BEFORE")) (D.tup [(D.int 0), (D.int 31), (D.int 59), (D.int 90), (D.int 120), (D.int 151), (D.int 181), (D.int 212), (D.int 243), (D.int 273), (D.int 304), (D.int 334)]) && tabB K (.ref (He.ga K "JULIAN_LENGTHS")) (D.tup [(D.int 31), (D.int 28), (D.int 31), (D.int 30), (D.int 31), (D.int 30), (D.int 31), (D.int 31), (D.int 30), (D.int 31), (D.int 30), (D.int 31)]) && tabB K (.ref (He.ga K "JULIAN_BEFORE")) (D.tup [(D.int 0), (D.int 31), (D.int 59), (D.int 90), (D.int 120), (D.int 151), (D.int 181), (D.int 212), (D.int 243), (D.int 273), (D.int 304), (D.int 334)]) && He.eqO (PySem.W.nsIn K mainGlobals "gcd") (some (some (.builtin "math.gcd"))) && He.eqO (PySem.W.nsIn K mainGlobals "lcm") (some (some (.builtin "math.lcm")))
abbrev R : PySem.W.OpenRow := PySem.W.OpenLaw.row PySem.Challenge.rw_everdays_k25_rules_compared
abbrev hk : PySem.W.Hook := hookF fa fn ex
def headOb (s : PySem.W.SharedT) : He.AlD := obsFG fa fn ex (HandSHeadRun.getT s)
theorem headOb_eq (s : PySem.W.SharedT) : headOb s = hk.obs s.abs := obsFG_eq (HandSHeadRun.getT_eq s)
def loose : List PySem.Str := (["RESIDUES_MOST", "EMPTY", "CYCLE_MONTHS", "CYCLE_DAYS", "LENGTHS", "BEFORE", "JULIAN_MONTHS", "JULIAN_DAYS", "JULIAN_LENGTHS", "JULIAN_BEFORE", "JULIAN_BEGIN", "MOON_MONTHS", "MOON_DAYS", "MOON_BEGIN", "INTERVAL_MOST", "PICKS_MOST", "COUNT_MOST", "DaysError", "BadRule", "TooLarge", "inverse", "both", "primes_of", "place_in", "shrunk", "repeats", "has", "many_below", "first_from", "spread"] : List PySem.Str) ++ (["by_class", "met", "joined", "without", "tidied", "from_day", "windows", "next_from", "nth_of", "overlaps", "within_stretch", "short_stretch", "put_together", "union", "minus", "limited", "within", "is_leap", "year_of_month", "month_length", "first_day", "month_of", "julian_month_length", "julian_first_day", "julian_month_of", "long_years_before", "is_long", "moon_month_length", "moon_first_day", "moon_month_of"] : List PySem.Str) ++ (["cycle_of", "begin_of_month", "days_in_month", "month_with", "nth_date", "nth_weekday_in", "calendar_of", "unit_of", "ascending", "month_pick_fits", "month_picks_fit", "picks_fit", "rule_fits", "picked_day", "month_days", "months_in_turn", "turns_of", "unfolded", "first_difference", "same_days", "implied_by", "needed_rules", "_law_draw", "_law_tape", "_law_same", "_law_mod", "_law_leap", "_law_length", "_law_year_first", "_law_month_at"] : List PySem.Str) ++ (["_law_places", "_law_ascending", "_law_rule_end", "_law_calendar", "_law_picked", "_law_turns", "_law_rule_days", "_law_small_rule", "_law_union_days", "_law_twin", "_law_flags", "_law_lost"] : List PySem.Str)
section
open HandSHeadRun PySem.W
set_option maxHeartbeats 0 in
theorem run1 (w : PySem.World) : ((wholeF (fun p => stepQ (denQ tabQ) p w) fenceQ 13080 R.prog).map fun x => looksF R.prog x.1.heap x.2.abs) = some true := by
  kernel_rfl
set_option maxHeartbeats 0 in
theorem run2 (w : PySem.World) : ((wholeF (fun p => stepQ (denQ tabQ) p w) fenceQ 13080 R.prog).map fun x => seenQ (PySem.W.view R.prog [0, 117]) loose (importedModules R.prog.main.body) (fun s => PySem.W.xlAt (PySem.W.view R.prog [0, 117]) [] s && PySem.W.recOk R.toRowW.records s) x.2.abs) = some (openGood (PySem.W.view R.prog [0, 117]) loose) := by
  kernel_rfl
set_option maxHeartbeats 0 in
theorem run3 (w : PySem.World) : ((wholeF (fun p => stepQ (denQ tabQ) p w) fenceQ 13080 R.prog).map fun x => (fa.all fun f => f.ok (He.frG (getT x.2) (asF (getT x.2)))) && ex (He.frG (getT x.2) (asF (getT x.2)))) = some true := by
  kernel_rfl
set_option maxHeartbeats 0 in
theorem run4 (w : PySem.World) : ((wholeF (fun p => stepQ (denQ tabQ) p w) fenceQ 13080 R.prog).map fun x => fn.all fun d => d.ok (He.frG (getT x.2) (asF (getT x.2)))) = some true := by
  kernel_rfl
set_option maxHeartbeats 0 in
theorem run5 (w : PySem.World) : ((wholeF (fun p => stepQ (denQ tabQ) p w) fenceQ 13080 R.prog).map fun x => fn.map fun d => He.fnW (He.frG (getT x.2) (asF (getT x.2))) d.at_) = some (fn.map He.DefD.val) := by
  kernel_rfl
theorem run (w : PySem.World) : HandSHeadRun.RunEqI R (PySem.W.view R.prog [0, 117]) hk headOb 13080 loose w := by
  unfold HandSHeadRun.RunEqI
  have a1 := run1 w
  have a2 := run2 w
  have a3 := run3 w
  have a4 := run4 w
  have a5 := run5 w
  generalize (wholeF (fun p => stepQ (denQ tabQ) p w) fenceQ 13080 R.prog) = o at a1 a2 a3 a4 a5 ⊢
  exact @run_split _ _ o _ _ (fun x => getT x.2) fa fn ex _ a1 a2 a3 a4 a5
end
end Lw
namespace Lw
open PySem PySem.Spec PyProof.Rows L2 PL
local macro_rules | `(tactic| walk_at "go") => `(tactic| repeat' (first | assumption | with_reducible apply And.intro | walk_at "cs"))
local macro_rules | `(tactic| walk_at "ex") => `(tactic| simp only [List.cons.injEq, Sl.va.injEq, Sl.ow.injEq, Ow.lst.injEq, D.int.injEq, D.bl.injEq, D.str.injEq, D.lst.injEq, D.tup.injEq, true_and, and_true])
local macro_rules | `(tactic| walk_at "gn") => `(tactic| simp only [↓gN, ↓gsNil, ↓gsCons, ↓gT, ↓gSq, List.length_cons, List.length_nil, Nat.reduceAdd, true_and, List.set_cons_zero, List.set_cons_succ])
local macro_rules | `(tactic| walk_at "sp") => `(tactic| repeat' (first | split | with_reducible apply And.intro))
local macro_rules | `(tactic| walk_at "cs") => `(tactic| first | (unfold CMulP; omega) | (unfold CPowP; omega) | (unfold CModP; omega) | (unfold CDivP; omega))
local macro_rules | `(tactic| walk_at "pl") => `(tactic| simp only [↓sSeq, ↓sAsg, ↓sRet, ↓sRetN, ↓sIf, ↓sDrop, ↓sPar, ↓sAug, ↓sNext, ↓sTgt, ↓sApp, ↓sExt, ↓sPop, ↓sSet, ↓sBreak, ↓sCont, ↓eVar, ↓bVar, ↓eMov, ↓bE, ↓eBin, ↓tE, ↓eChain_eq, chS_bl, chS_true, chS_false, wipeE_nil, wipeE_cons, ↓eUn, ↓qAnd, ↓qOr, ↓qNot, ↓eAnd_eq, ↓eOr_eq, ↓sNever, ↓eNot, ↓eIf, ↓aNil, ↓aCons, ↓aConsB, ↓eTup, ↓eLst, ↓iSeq, ↓iR1, ↓iR2, ↓iEnum1, ↓iRev1, ↓eSortSet, ↓eDGet, ↓eDGet2, ↓iDic, ↓isDic, ↓kyOf, Option.isSome_some, lk_int, lk_str, ↓sByCls, ↓cMax3, ↓iR3, ↓eRange1,  ↓gN, ↓gsNil, ↓gsCons, ↓gT, ↓eCall, ↓eCallX, ↓sRaise, ↓sTry, ↓dI2, ↓dAdd, ↓dEq, ↓dNe, ↓dIsN, ↓dNotN, ↓dIx, ↓oNone, ↓oSome, ↓eSl, ↓eB, ↓cLen, ↓cInt, ↓cAbs, ↓cMax2, ↓cMin2, ↓cDivmod, ↓cList, ↓cTuple, ↓cSum, ↓cMax, ↓cMin, ↓cAll, ↓cAny, ↓cSorted, ↓dIn, ↓dInX, ↓eM, ↓mIndex, ↓tyM, ↓gSq, ↓cSet, natc0, natc1, natc2, List.findIdx?_cons, List.findIdx?_nil, intsOf_ints, boolsOf_bls, plAnyI, plAnyR, ↓cGcd, ↓cLcm, ↓eRange, ↓eIsi, ↓Sl.val, ↓Ow.toD, ↓stE, ↓tYes', ↓eIxM, ↓sSetM, ↓PL.isNon, ↓eC, ↓bC, ↓dSub, ↓dMul, ↓dDiv, ↓dMod, ↓dPow, ↓dLt, ↓dLe, ↓dGt, ↓dGe, ↓dAddI, ↓dDivS, ↓dEqI, ↓dNeI,
  List.getElem?_cons_zero, List.getElem?_cons_succ, List.set_cons_zero, List.set_cons_succ, List.map_cons, List.map_nil, List.length_cons, List.length_nil, List.nil_append, List.cons_append, List.replicate_succ, List.replicate_zero, List.append_nil, atI0, atI1, atI2, atI3, atI4,
  cmpOk_int, cmpOk_bl, cmpOk_non, deq_int, deq_bl, true_and, and_true, Nat.reduceAdd, Nat.reduceSub, Nat.reduceLeDiff, Nat.reduceLT, Bool.not_eq_true', Bool.false_eq_true, if_false, if_true, decide_eq_true_eq, decide_eq_false_iff_not, Nat.zero_add, Nat.sub_zero, Nat.add_zero, Nat.sub_self, isi_non_bool, isi_non_int, isi_non_str, isi_non_list, isi_non_tuple, isi_bl_bool, isi_bl_int, isi_bl_str, isi_bl_list, isi_bl_tuple, isi_int_bool, isi_int_int, isi_int_str, isi_int_list, isi_int_tuple, isi_str_bool, isi_str_int, isi_str_str, isi_str_list, isi_str_tuple, isi_lst_bool, isi_lst_int, isi_lst_str, isi_lst_list, isi_lst_tuple, isi_tup_bool, isi_tup_int, isi_tup_str, isi_tup_list, isi_tup_tuple, ixN31, ixN32, List.length_map, List.length_set, Int.reduceToNat, Int.reducePow, Int.reduceNeg, Int.reduceAdd, Int.reduceSub, Int.reduceMul, Int.reduceLT, Int.reduceLE, Int.reduceEq, Nat.reduceEqDiff, reduceCtorEq, List.mem_singleton, eq_self, not_true_eq_false, not_false_eq_true, or_true, true_or, cmpOk_lstA, cmpOk_tupA, ckA_lst, ckA_tup, ckAl_nil, ckAl_cons, ckAl_ints, ckAl_rangeL, ck_int, ck_bl, ck_non, ck_strI, cmpOk_str, deq_str, deq_tup, deq_lst, deqA_nil, deqA_cons, deqA_ints, Bool.and_true, Bool.true_and, Bool.and_false, Bool.false_and, decide_true, decide_false, Bool.not_true, Bool.not_false])

abbrev N_inverse : List Str := ["a", "m", "old", "new", "left", "right", "times"]
theorem sc_inverse : FnScope N_inverse ["a", "m"] (defScope s_inverse) := ⟨rfl, rfl, rfl, by decide +kernel, rfl, by decide +kernel, by decide +kernel⟩
abbrev N_both : List Str := ["a", "m", "b", "n", "common", "step", "times"]
theorem sc_both : FnScope N_both ["a", "m", "b", "n"] (defScope s_both) := ⟨rfl, rfl, rfl, by decide +kernel, rfl, by decide +kernel, by decide +kernel⟩
abbrev N_primes_of : List Str := ["n", "found", "p"]
theorem sc_primes_of : FnScope N_primes_of ["n"] (defScope s_primes_of) := ⟨rfl, rfl, rfl, by decide +kernel, rfl, by decide +kernel, by decide +kernel⟩
abbrev N_place_in : List Str := ["residues", "r", "low", "high", "middle"]
theorem sc_place_in : FnScope N_place_in ["residues", "r"] (defScope s_place_in) := ⟨rfl, rfl, rfl, by decide +kernel, rfl, by decide +kernel, by decide +kernel⟩
abbrev N_shrunk : List Str := ["period", "residues", "p", "r"]
theorem sc_shrunk : FnScope N_shrunk ["period", "residues"] (defScope s_shrunk) := ⟨rfl, rfl, rfl, by decide +kernel, rfl, by decide +kernel, by decide +kernel⟩
abbrev N_repeats : List Str := ["period", "residues", "step", "known", "r"]
theorem sc_repeats : FnScope N_repeats ["period", "residues", "step"] (defScope s_repeats) := ⟨rfl, rfl, rfl, by decide +kernel, rfl, by decide +kernel, by decide +kernel⟩
abbrev N_has : List Str := ["period", "residues", "d", "r", "place"]
theorem sc_has : FnScope N_has ["period", "residues", "d"] (defScope s_has) := ⟨rfl, rfl, rfl, by decide +kernel, rfl, by decide +kernel, by decide +kernel⟩
abbrev N_many_below : List Str := ["period", "residues", "d"]
theorem sc_many_below : FnScope N_many_below ["period", "residues", "d"] (defScope s_many_below) := ⟨rfl, rfl, rfl, by decide +kernel, rfl, by decide +kernel, by decide +kernel⟩
abbrev N_first_from : List Str := ["period", "residues", "d", "base", "place"]
theorem sc_first_from : FnScope N_first_from ["period", "residues", "d"] (defScope s_first_from) := ⟨rfl, rfl, rfl, by decide +kernel, rfl, by decide +kernel, by decide +kernel⟩
abbrev N_spread : List Str := ["period", "residues", "longer", "times", "found", "k", "r"]
theorem sc_spread : FnScope N_spread ["period", "residues", "longer"] (defScope s_spread) := ⟨rfl, rfl, rfl, by decide +kernel, rfl, by decide +kernel, by decide +kernel⟩
abbrev N_by_class : List Str := ["residues", "common", "found", "r"]
theorem sc_by_class : FnScope N_by_class ["residues", "common"] (defScope s_by_class) := ⟨rfl, rfl, rfl, by decide +kernel, rfl, by decide +kernel, by decide +kernel⟩
abbrev N_met : List Str := ["first", "second", "common", "left", "right", "found", "c", "others", "a", "b"]
theorem sc_met : FnScope N_met ["first", "second"] (defScope s_met) := ⟨rfl, rfl, rfl, by decide +kernel, rfl, by decide +kernel, by decide +kernel⟩
abbrev N_joined : List Str := ["first", "second", "longer", "found"]
theorem sc_joined : FnScope N_joined ["first", "second"] (defScope s_joined) := ⟨rfl, rfl, rfl, by decide +kernel, rfl, by decide +kernel, by decide +kernel⟩
abbrev N_without : List Str := ["first", "second", "longer", "kept", "r"]
theorem sc_without : FnScope N_without ["first", "second"] (defScope s_without) := ⟨rfl, rfl, rfl, by decide +kernel, rfl, by decide +kernel, by decide +kernel⟩
abbrev N_tidied : List Str := ["pieces", "found", "start", "period", "residues"]
theorem sc_tidied : FnScope N_tidied ["pieces"] (defScope s_tidied) := ⟨rfl, rfl, rfl, by decide +kernel, rfl, by decide +kernel, by decide +kernel⟩
abbrev N_from_day : List Str := ["start", "period", "residues"]
theorem sc_from_day : FnScope N_from_day ["start", "period", "residues"] (defScope s_from_day) := ⟨rfl, rfl, rfl, by decide +kernel, rfl, by decide +kernel, by decide +kernel⟩
abbrev N_windows : List Str := ["pattern", "found", "k", "start", "period", "residues", "end"]
theorem sc_windows : FnScope N_windows ["pattern"] (defScope s_windows) := ⟨rfl, rfl, rfl, by decide +kernel, rfl, by decide +kernel, by decide +kernel⟩
abbrev N_next_from : List Str := ["pattern", "day", "start", "end", "kind", "found"]
theorem sc_next_from : FnScope N_next_from ["pattern", "day"] (defScope s_next_from) := ⟨rfl, rfl, rfl, by decide +kernel, rfl, by decide +kernel, by decide +kernel⟩
abbrev N_nth_of : List Str := ["pattern", "k", "left", "start", "end", "kind", "below", "place"]
theorem sc_nth_of : FnScope N_nth_of ["pattern", "k"] (defScope s_nth_of) := ⟨rfl, rfl, rfl, by decide +kernel, rfl, by decide +kernel, by decide +kernel⟩
abbrev N_overlaps : List Str := ["first", "second", "starts", "found", "i", "j", "k", "start", "end", "piece"]
theorem sc_overlaps : FnScope N_overlaps ["first", "second"] (defScope s_overlaps) := ⟨rfl, rfl, rfl, by decide +kernel, rfl, by decide +kernel, by decide +kernel⟩
abbrev N_within_stretch : List Str := ["start", "end", "kind", "found", "day"]
theorem sc_within_stretch : FnScope N_within_stretch ["start", "end", "kind"] (defScope s_within_stretch) := ⟨rfl, rfl, rfl, by decide +kernel, rfl, by decide +kernel, by decide +kernel⟩
abbrev N_short_stretch : List Str := ["way", "start", "end", "a", "b", "days", "width", "day"]
theorem sc_short_stretch : FnScope N_short_stretch ["way", "start", "end", "a", "b"] (defScope s_short_stretch) := ⟨rfl, rfl, rfl, by decide +kernel, rfl, by decide +kernel, by decide +kernel⟩
abbrev N_put_together : List Str := ["way", "first", "second", "pieces", "start", "end", "a", "b", "kind"]
theorem sc_put_together : FnScope N_put_together ["way", "first", "second"] (defScope s_put_together) := ⟨rfl, rfl, rfl, by decide +kernel, rfl, by decide +kernel, by decide +kernel⟩
abbrev N_union : List Str := ["first", "second"]
theorem sc_union : FnScope N_union ["first", "second"] (defScope s_union) := ⟨rfl, rfl, rfl, by decide +kernel, rfl, by decide +kernel, by decide +kernel⟩
abbrev N_minus : List Str := ["first", "second"]
theorem sc_minus : FnScope N_minus ["first", "second"] (defScope s_minus) := ⟨rfl, rfl, rfl, by decide +kernel, rfl, by decide +kernel, by decide +kernel⟩
abbrev N_limited : List Str := ["pattern", "first", "end", "pieces", "start", "stop", "kind", "begin"]
theorem sc_limited : FnScope N_limited ["pattern", "first", "end"] (defScope s_limited) := ⟨rfl, rfl, rfl, by decide +kernel, rfl, by decide +kernel, by decide +kernel⟩
abbrev N_within : List Str := ["first", "second"]
theorem sc_within : FnScope N_within ["first", "second"] (defScope s_within) := ⟨rfl, rfl, rfl, by decide +kernel, rfl, by decide +kernel, by decide +kernel⟩
abbrev N_unit_of : List Str := ["kind"]
theorem sc_unit_of : FnScope N_unit_of ["kind"] (defScope s_unit_of) := ⟨rfl, rfl, rfl, by decide +kernel, rfl, by decide +kernel, by decide +kernel⟩
abbrev N_ascending : List Str := ["numbers", "least", "most", "k"]
theorem sc_ascending : FnScope N_ascending ["numbers", "least", "most"] (defScope s_ascending) := ⟨rfl, rfl, rfl, by decide +kernel, rfl, by decide +kernel, by decide +kernel⟩
abbrev N_picks_fit : List Str := ["kind", "picks", "unit"]
theorem sc_picks_fit : FnScope N_picks_fit ["kind", "picks"] (defScope s_picks_fit) := ⟨rfl, rfl, rfl, by decide +kernel, rfl, by decide +kernel, by decide +kernel⟩
abbrev N_rule_fits : List Str := ["rule", "kind", "interval", "picks", "first", "end"]
theorem sc_rule_fits : FnScope N_rule_fits ["rule"] (defScope s_rule_fits) := ⟨rfl, rfl, rfl, by decide +kernel, rfl, by decide +kernel, by decide +kernel⟩
abbrev N_turns_of : List Str := ["rule", "kind", "interval", "picks", "first", "end", "unit", "monday", "calendar", "many", "months", "cycle", "period", "days", "m", "weekday", "day"]
theorem sc_turns_of : FnScope N_turns_of ["rule"] (defScope s_turns_of) := ⟨rfl, rfl, rfl, by decide +kernel, rfl, by decide +kernel, by decide +kernel⟩
abbrev N_unfolded : List Str := ["rule", "period", "residues", "pattern", "end", "last"]
theorem sc_unfolded : FnScope N_unfolded ["rule"] (defScope s_unfolded) := ⟨rfl, rfl, rfl, by decide +kernel, rfl, by decide +kernel, by decide +kernel⟩
abbrev N_first_difference : List Str := ["first", "second", "found", "one", "other", "day"]
theorem sc_first_difference : FnScope N_first_difference ["first", "second"] (defScope s_first_difference) := ⟨rfl, rfl, rfl, by decide +kernel, rfl, by decide +kernel, by decide +kernel⟩
abbrev N_same_days : List Str := ["rule", "other"]
theorem sc_same_days : FnScope N_same_days ["rule", "other"] (defScope s_same_days) := ⟨rfl, rfl, rfl, by decide +kernel, rfl, by decide +kernel, by decide +kernel⟩
abbrev N_implied_by : List Str := ["rule", "rules", "pattern", "one"]
theorem sc_implied_by : FnScope N_implied_by ["rule", "rules"] (defScope s_implied_by) := ⟨rfl, rfl, rfl, by decide +kernel, rfl, by decide +kernel, by decide +kernel⟩
abbrev N_needed_rules : List Str := ["rules", "kept", "k", "rest"]
theorem sc_needed_rules : FnScope N_needed_rules ["rules"] (defScope s_needed_rules) := ⟨rfl, rfl, rfl, by decide +kernel, rfl, by decide +kernel, by decide +kernel⟩
abbrev N__law_draw : List Str := ["tape", "many", "cells", "k", "cell", "digit"]
theorem sc__law_draw : FnScope N__law_draw ["tape", "many"] (defScope s__law_draw) := ⟨rfl, rfl, rfl, by decide +kernel, rfl, by decide +kernel, by decide +kernel⟩
abbrev N__law_tape : List Str := ["script"]
theorem sc__law_tape : FnScope N__law_tape ["script"] (defScope s__law_tape) := ⟨rfl, rfl, rfl, by decide +kernel, rfl, by decide +kernel, by decide +kernel⟩
abbrev N__law_same : List Str := ["told", "due"]
theorem sc__law_same : FnScope N__law_same ["told", "due"] (defScope s__law_same) := ⟨rfl, rfl, rfl, by decide +kernel, rfl, by decide +kernel, by decide +kernel⟩
abbrev N__law_mod : List Str := ["a", "n"]
theorem sc__law_mod : FnScope N__law_mod ["a", "n"] (defScope s__law_mod) := ⟨rfl, rfl, rfl, by decide +kernel, rfl, by decide +kernel, by decide +kernel⟩
abbrev N__law_ascending : List Str := ["tape", "least", "many", "found", "k"]
theorem sc__law_ascending : FnScope N__law_ascending ["tape", "least", "many"] (defScope s__law_ascending) := ⟨rfl, rfl, rfl, by decide +kernel, rfl, by decide +kernel, by decide +kernel⟩
abbrev N__law_rule_end : List Str := ["tape", "first", "kind"]
theorem sc__law_rule_end : FnScope N__law_rule_end ["tape", "first"] (defScope s__law_rule_end) := ⟨rfl, rfl, rfl, by decide +kernel, rfl, by decide +kernel, by decide +kernel⟩
abbrev N__law_turns : List Str := ["rule", "begin", "end", "kind", "interval", "picks", "first", "stop", "days", "places", "since", "found", "day", "m", "date", "length", "right", "named", "pick"]
theorem sc__law_turns : FnScope N__law_turns ["rule", "begin", "end"] (defScope s__law_turns) := ⟨rfl, rfl, rfl, by decide +kernel, rfl, by decide +kernel, by decide +kernel⟩
abbrev N__law_rule_days : List Str := ["rule", "end", "found", "day"]
theorem sc__law_rule_days : FnScope N__law_rule_days ["rule", "end"] (defScope s__law_rule_days) := ⟨rfl, rfl, rfl, by decide +kernel, rfl, by decide +kernel, by decide +kernel⟩
abbrev N__law_small_rule : List Str := ["tape", "most", "interval", "first"]
theorem sc__law_small_rule : FnScope N__law_small_rule ["tape", "most"] (defScope s__law_small_rule) := ⟨rfl, rfl, rfl, by decide +kernel, rfl, by decide +kernel, by decide +kernel⟩
abbrev N__law_twin : List Str := ["tape", "rule", "kind", "interval", "picks", "first", "end", "way"]
theorem sc__law_twin : FnScope N__law_twin ["tape", "rule"] (defScope s__law_twin) := ⟨rfl, rfl, rfl, by decide +kernel, rfl, by decide +kernel, by decide +kernel⟩
abbrev N__law_flags : List Str := ["rule", "end", "found", "day"]
theorem sc__law_flags : FnScope N__law_flags ["rule", "end"] (defScope s__law_flags) := ⟨rfl, rfl, rfl, by decide +kernel, rfl, by decide +kernel, by decide +kernel⟩
abbrev N__law_lost : List Str := ["flags", "k", "places", "end", "day", "place"]
theorem sc__law_lost : FnScope N__law_lost ["flags", "k", "places", "end"] (defScope s__law_lost) := ⟨rfl, rfl, rfl, by decide +kernel, rfl, by decide +kernel, by decide +kernel⟩
abbrev N_law : List Str := ["script", "tape", "rules", "k", "rule", "end", "flags", "first", "second", "single", "due", "inside", "kept", "back", "day", "place"]
theorem sc_law : FnScope N_law ["script"] (defScope s_law) := ⟨rfl, rfl, rfl, by decide +kernel, rfl, by decide +kernel, by decide +kernel⟩
abbrev FnP (K : Fg) (x : Str) (st : Stmt) (f : Addr) (fd : FuncData) : Prop := FunD K x x (defArgs st) (defBody st) (defScope st) [] [] f fd
/-- what the top leaves -/
structure TF (K : Fg) (mg : Str → Option Value) where
  x_inverse : FuncData
  a_inverse : Addr
  f_inverse : FnP K "inverse" s_inverse a_inverse x_inverse
  g_inverse : mg "inverse" = some (.ref a_inverse)
  b_inverse : Binds K x_inverse ["a", "m"] []
  x_both : FuncData
  a_both : Addr
  f_both : FnP K "both" s_both a_both x_both
  g_both : mg "both" = some (.ref a_both)
  b_both : Binds K x_both ["a", "m", "b", "n"] []
  x_primes_of : FuncData
  a_primes_of : Addr
  f_primes_of : FnP K "primes_of" s_primes_of a_primes_of x_primes_of
  g_primes_of : mg "primes_of" = some (.ref a_primes_of)
  b_primes_of : Binds K x_primes_of ["n"] []
  x_place_in : FuncData
  a_place_in : Addr
  f_place_in : FnP K "place_in" s_place_in a_place_in x_place_in
  g_place_in : mg "place_in" = some (.ref a_place_in)
  b_place_in : Binds K x_place_in ["residues", "r"] []
  x_shrunk : FuncData
  a_shrunk : Addr
  f_shrunk : FnP K "shrunk" s_shrunk a_shrunk x_shrunk
  g_shrunk : mg "shrunk" = some (.ref a_shrunk)
  b_shrunk : Binds K x_shrunk ["period", "residues"] []
  x_repeats : FuncData
  a_repeats : Addr
  f_repeats : FnP K "repeats" s_repeats a_repeats x_repeats
  g_repeats : mg "repeats" = some (.ref a_repeats)
  b_repeats : Binds K x_repeats ["period", "residues", "step"] []
  x_has : FuncData
  a_has : Addr
  f_has : FnP K "has" s_has a_has x_has
  g_has : mg "has" = some (.ref a_has)
  b_has : Binds K x_has ["period", "residues", "d"] []
  x_many_below : FuncData
  a_many_below : Addr
  f_many_below : FnP K "many_below" s_many_below a_many_below x_many_below
  g_many_below : mg "many_below" = some (.ref a_many_below)
  b_many_below : Binds K x_many_below ["period", "residues", "d"] []
  x_first_from : FuncData
  a_first_from : Addr
  f_first_from : FnP K "first_from" s_first_from a_first_from x_first_from
  g_first_from : mg "first_from" = some (.ref a_first_from)
  b_first_from : Binds K x_first_from ["period", "residues", "d"] []
  x_spread : FuncData
  a_spread : Addr
  f_spread : FnP K "spread" s_spread a_spread x_spread
  g_spread : mg "spread" = some (.ref a_spread)
  b_spread : Binds K x_spread ["period", "residues", "longer"] []
  x_by_class : FuncData
  a_by_class : Addr
  f_by_class : FnP K "by_class" s_by_class a_by_class x_by_class
  g_by_class : mg "by_class" = some (.ref a_by_class)
  b_by_class : Binds K x_by_class ["residues", "common"] []
  x_met : FuncData
  a_met : Addr
  f_met : FnP K "met" s_met a_met x_met
  g_met : mg "met" = some (.ref a_met)
  b_met : Binds K x_met ["first", "second"] []
  x_joined : FuncData
  a_joined : Addr
  f_joined : FnP K "joined" s_joined a_joined x_joined
  g_joined : mg "joined" = some (.ref a_joined)
  b_joined : Binds K x_joined ["first", "second"] []
  x_without : FuncData
  a_without : Addr
  f_without : FnP K "without" s_without a_without x_without
  g_without : mg "without" = some (.ref a_without)
  b_without : Binds K x_without ["first", "second"] []
  x_tidied : FuncData
  a_tidied : Addr
  f_tidied : FnP K "tidied" s_tidied a_tidied x_tidied
  g_tidied : mg "tidied" = some (.ref a_tidied)
  b_tidied : Binds K x_tidied ["pieces"] []
  x_from_day : FuncData
  a_from_day : Addr
  f_from_day : FnP K "from_day" s_from_day a_from_day x_from_day
  g_from_day : mg "from_day" = some (.ref a_from_day)
  b_from_day : Binds K x_from_day ["start", "period", "residues"] []
  x_windows : FuncData
  a_windows : Addr
  f_windows : FnP K "windows" s_windows a_windows x_windows
  g_windows : mg "windows" = some (.ref a_windows)
  b_windows : Binds K x_windows ["pattern"] []
  x_next_from : FuncData
  a_next_from : Addr
  f_next_from : FnP K "next_from" s_next_from a_next_from x_next_from
  g_next_from : mg "next_from" = some (.ref a_next_from)
  b_next_from : Binds K x_next_from ["pattern", "day"] []
  x_nth_of : FuncData
  a_nth_of : Addr
  f_nth_of : FnP K "nth_of" s_nth_of a_nth_of x_nth_of
  g_nth_of : mg "nth_of" = some (.ref a_nth_of)
  b_nth_of : Binds K x_nth_of ["pattern", "k"] []
  x_overlaps : FuncData
  a_overlaps : Addr
  f_overlaps : FnP K "overlaps" s_overlaps a_overlaps x_overlaps
  g_overlaps : mg "overlaps" = some (.ref a_overlaps)
  b_overlaps : Binds K x_overlaps ["first", "second"] []
  x_within_stretch : FuncData
  a_within_stretch : Addr
  f_within_stretch : FnP K "within_stretch" s_within_stretch a_within_stretch x_within_stretch
  g_within_stretch : mg "within_stretch" = some (.ref a_within_stretch)
  b_within_stretch : Binds K x_within_stretch ["start", "end", "kind"] []
  x_short_stretch : FuncData
  a_short_stretch : Addr
  f_short_stretch : FnP K "short_stretch" s_short_stretch a_short_stretch x_short_stretch
  g_short_stretch : mg "short_stretch" = some (.ref a_short_stretch)
  b_short_stretch : Binds K x_short_stretch ["way", "start", "end", "a", "b"] []
  x_put_together : FuncData
  a_put_together : Addr
  f_put_together : FnP K "put_together" s_put_together a_put_together x_put_together
  g_put_together : mg "put_together" = some (.ref a_put_together)
  b_put_together : Binds K x_put_together ["way", "first", "second"] []
  x_union : FuncData
  a_union : Addr
  f_union : FnP K "union" s_union a_union x_union
  g_union : mg "union" = some (.ref a_union)
  b_union : Binds K x_union ["first", "second"] []
  x_minus : FuncData
  a_minus : Addr
  f_minus : FnP K "minus" s_minus a_minus x_minus
  g_minus : mg "minus" = some (.ref a_minus)
  b_minus : Binds K x_minus ["first", "second"] []
  x_limited : FuncData
  a_limited : Addr
  f_limited : FnP K "limited" s_limited a_limited x_limited
  g_limited : mg "limited" = some (.ref a_limited)
  b_limited : Binds K x_limited ["pattern", "first", "end"] []
  x_within : FuncData
  a_within : Addr
  f_within : FnP K "within" s_within a_within x_within
  g_within : mg "within" = some (.ref a_within)
  b_within : Binds K x_within ["first", "second"] []
  x_unit_of : FuncData
  a_unit_of : Addr
  f_unit_of : FnP K "unit_of" s_unit_of a_unit_of x_unit_of
  g_unit_of : mg "unit_of" = some (.ref a_unit_of)
  b_unit_of : Binds K x_unit_of ["kind"] []
  x_ascending : FuncData
  a_ascending : Addr
  f_ascending : FnP K "ascending" s_ascending a_ascending x_ascending
  g_ascending : mg "ascending" = some (.ref a_ascending)
  b_ascending : Binds K x_ascending ["numbers", "least", "most"] []
  x_picks_fit : FuncData
  a_picks_fit : Addr
  f_picks_fit : FnP K "picks_fit" s_picks_fit a_picks_fit x_picks_fit
  g_picks_fit : mg "picks_fit" = some (.ref a_picks_fit)
  b_picks_fit : Binds K x_picks_fit ["kind", "picks"] []
  x_rule_fits : FuncData
  a_rule_fits : Addr
  f_rule_fits : FnP K "rule_fits" s_rule_fits a_rule_fits x_rule_fits
  g_rule_fits : mg "rule_fits" = some (.ref a_rule_fits)
  b_rule_fits : Binds K x_rule_fits ["rule"] []
  x_turns_of : FuncData
  a_turns_of : Addr
  f_turns_of : FnP K "turns_of" s_turns_of a_turns_of x_turns_of
  g_turns_of : mg "turns_of" = some (.ref a_turns_of)
  b_turns_of : Binds K x_turns_of ["rule"] []
  x_unfolded : FuncData
  a_unfolded : Addr
  f_unfolded : FnP K "unfolded" s_unfolded a_unfolded x_unfolded
  g_unfolded : mg "unfolded" = some (.ref a_unfolded)
  b_unfolded : Binds K x_unfolded ["rule"] []
  x_first_difference : FuncData
  a_first_difference : Addr
  f_first_difference : FnP K "first_difference" s_first_difference a_first_difference x_first_difference
  g_first_difference : mg "first_difference" = some (.ref a_first_difference)
  b_first_difference : Binds K x_first_difference ["first", "second"] []
  x_same_days : FuncData
  a_same_days : Addr
  f_same_days : FnP K "same_days" s_same_days a_same_days x_same_days
  g_same_days : mg "same_days" = some (.ref a_same_days)
  b_same_days : Binds K x_same_days ["rule", "other"] []
  x_implied_by : FuncData
  a_implied_by : Addr
  f_implied_by : FnP K "implied_by" s_implied_by a_implied_by x_implied_by
  g_implied_by : mg "implied_by" = some (.ref a_implied_by)
  b_implied_by : Binds K x_implied_by ["rule", "rules"] []
  x_needed_rules : FuncData
  a_needed_rules : Addr
  f_needed_rules : FnP K "needed_rules" s_needed_rules a_needed_rules x_needed_rules
  g_needed_rules : mg "needed_rules" = some (.ref a_needed_rules)
  b_needed_rules : Binds K x_needed_rules ["rules"] []
  x__law_draw : FuncData
  a__law_draw : Addr
  f__law_draw : FnP K "_law_draw" s__law_draw a__law_draw x__law_draw
  g__law_draw : mg "_law_draw" = some (.ref a__law_draw)
  b__law_draw : Binds K x__law_draw ["tape", "many"] []
  x__law_tape : FuncData
  a__law_tape : Addr
  f__law_tape : FnP K "_law_tape" s__law_tape a__law_tape x__law_tape
  g__law_tape : mg "_law_tape" = some (.ref a__law_tape)
  b__law_tape : Binds K x__law_tape ["script"] []
  x__law_same : FuncData
  a__law_same : Addr
  f__law_same : FnP K "_law_same" s__law_same a__law_same x__law_same
  g__law_same : mg "_law_same" = some (.ref a__law_same)
  b__law_same : Binds K x__law_same ["told", "due"] []
  x__law_mod : FuncData
  a__law_mod : Addr
  f__law_mod : FnP K "_law_mod" s__law_mod a__law_mod x__law_mod
  g__law_mod : mg "_law_mod" = some (.ref a__law_mod)
  b__law_mod : Binds K x__law_mod ["a", "n"] []
  x__law_ascending : FuncData
  a__law_ascending : Addr
  f__law_ascending : FnP K "_law_ascending" s__law_ascending a__law_ascending x__law_ascending
  g__law_ascending : mg "_law_ascending" = some (.ref a__law_ascending)
  b__law_ascending : Binds K x__law_ascending ["tape", "least", "many"] []
  x__law_rule_end : FuncData
  a__law_rule_end : Addr
  f__law_rule_end : FnP K "_law_rule_end" s__law_rule_end a__law_rule_end x__law_rule_end
  g__law_rule_end : mg "_law_rule_end" = some (.ref a__law_rule_end)
  b__law_rule_end : Binds K x__law_rule_end ["tape", "first"] []
  x__law_turns : FuncData
  a__law_turns : Addr
  f__law_turns : FnP K "_law_turns" s__law_turns a__law_turns x__law_turns
  g__law_turns : mg "_law_turns" = some (.ref a__law_turns)
  b__law_turns : Binds K x__law_turns ["rule", "begin", "end"] []
  x__law_rule_days : FuncData
  a__law_rule_days : Addr
  f__law_rule_days : FnP K "_law_rule_days" s__law_rule_days a__law_rule_days x__law_rule_days
  g__law_rule_days : mg "_law_rule_days" = some (.ref a__law_rule_days)
  b__law_rule_days : Binds K x__law_rule_days ["rule", "end"] []
  x__law_small_rule : FuncData
  a__law_small_rule : Addr
  f__law_small_rule : FnP K "_law_small_rule" s__law_small_rule a__law_small_rule x__law_small_rule
  g__law_small_rule : mg "_law_small_rule" = some (.ref a__law_small_rule)
  b__law_small_rule : Binds K x__law_small_rule ["tape", "most"] []
  x__law_twin : FuncData
  a__law_twin : Addr
  f__law_twin : FnP K "_law_twin" s__law_twin a__law_twin x__law_twin
  g__law_twin : mg "_law_twin" = some (.ref a__law_twin)
  b__law_twin : Binds K x__law_twin ["tape", "rule"] []
  x__law_flags : FuncData
  a__law_flags : Addr
  f__law_flags : FnP K "_law_flags" s__law_flags a__law_flags x__law_flags
  g__law_flags : mg "_law_flags" = some (.ref a__law_flags)
  b__law_flags : Binds K x__law_flags ["rule", "end"] []
  x__law_lost : FuncData
  a__law_lost : Addr
  f__law_lost : FnP K "_law_lost" s__law_lost a__law_lost x__law_lost
  g__law_lost : mg "_law_lost" = some (.ref a__law_lost)
  b__law_lost : Binds K x__law_lost ["flags", "k", "places", "end"] []
  x_law : FuncData
  a_law : Addr
  f_law : FnP K "law" s_law a_law x_law
  g_law : mg "law" = some (.ref a_law)
  b_law : Binds K x_law ["script"] []
  t_RESIDUES_MOST : Tok
  g_RESIDUES_MOST : mg "RESIDUES_MOST" = some (.int (200000) t_RESIDUES_MOST)
  a_EMPTY : Addr
  g_EMPTY : mg "EMPTY" = some (.ref a_EMPTY)
  d0_EMPTY : ∀ S : Hp, Rp K S (.ref a_EMPTY) (D.tup [(D.tup [(D.int 0), (D.int 1), (D.tup [])])])
  t_CYCLE_MONTHS : Tok
  g_CYCLE_MONTHS : mg "CYCLE_MONTHS" = some (.int (4800) t_CYCLE_MONTHS)
  t_CYCLE_DAYS : Tok
  g_CYCLE_DAYS : mg "CYCLE_DAYS" = some (.int (146097) t_CYCLE_DAYS)
  a_LENGTHS : Addr
  g_LENGTHS : mg "LENGTHS" = some (.ref a_LENGTHS)
  d0_LENGTHS : ∀ S : Hp, Rp K S (.ref a_LENGTHS) (D.tup [(D.int 31), (D.int 28), (D.int 31), (D.int 30), (D.int 31), (D.int 30), (D.int 31), (D.int 31), (D.int 30), (D.int 31), (D.int 30), (D.int 31)])
  a_BEFORE : Addr
  g_BEFORE : mg "BEFORE" = some (.ref a_BEFORE)
  d0_BEFORE : ∀ S : Hp, Rp K S (.ref a_BEFORE) (D.tup [(D.int 0), (D.int 31), (D.int 59), (D.int 90), (D.int 120), (D.int 151), (D.int 181), (D.int 212), (D.int 243), (D.int 273), (D.int 304), (D.int 334)])
  t_JULIAN_MONTHS : Tok
  g_JULIAN_MONTHS : mg "JULIAN_MONTHS" = some (.int (48) t_JULIAN_MONTHS)
  t_JULIAN_DAYS : Tok
  g_JULIAN_DAYS : mg "JULIAN_DAYS" = some (.int (1461) t_JULIAN_DAYS)
  a_JULIAN_LENGTHS : Addr
  g_JULIAN_LENGTHS : mg "JULIAN_LENGTHS" = some (.ref a_JULIAN_LENGTHS)
  d0_JULIAN_LENGTHS : ∀ S : Hp, Rp K S (.ref a_JULIAN_LENGTHS) (D.tup [(D.int 31), (D.int 28), (D.int 31), (D.int 30), (D.int 31), (D.int 30), (D.int 31), (D.int 31), (D.int 30), (D.int 31), (D.int 30), (D.int 31)])
  a_JULIAN_BEFORE : Addr
  g_JULIAN_BEFORE : mg "JULIAN_BEFORE" = some (.ref a_JULIAN_BEFORE)
  d0_JULIAN_BEFORE : ∀ S : Hp, Rp K S (.ref a_JULIAN_BEFORE) (D.tup [(D.int 0), (D.int 31), (D.int 59), (D.int 90), (D.int 120), (D.int 151), (D.int 181), (D.int 212), (D.int 243), (D.int 273), (D.int 304), (D.int 334)])
  t_JULIAN_BEGIN : Tok
  g_JULIAN_BEGIN : mg "JULIAN_BEGIN" = some (.int (-2) t_JULIAN_BEGIN)
  t_MOON_MONTHS : Tok
  g_MOON_MONTHS : mg "MOON_MONTHS" = some (.int (360) t_MOON_MONTHS)
  t_MOON_DAYS : Tok
  g_MOON_DAYS : mg "MOON_DAYS" = some (.int (10631) t_MOON_DAYS)
  t_MOON_BEGIN : Tok
  g_MOON_BEGIN : mg "MOON_BEGIN" = some (.int (227014) t_MOON_BEGIN)
  t_INTERVAL_MOST : Tok
  g_INTERVAL_MOST : mg "INTERVAL_MOST" = some (.int (99) t_INTERVAL_MOST)
  t_PICKS_MOST : Tok
  g_PICKS_MOST : mg "PICKS_MOST" = some (.int (20) t_PICKS_MOST)
  t_COUNT_MOST : Tok
  g_COUNT_MOST : mg "COUNT_MOST" = some (.int (100000) t_COUNT_MOST)
  m_all : mg "all" = none
  m_bool : mg "bool" = none
  m_enumerate : mg "enumerate" = none
  m_int : mg "int" = none
  m_isinstance : mg "isinstance" = none
  m_len : mg "len" = none
  m_list : mg "list" = none
  m_max : mg "max" = none
  m_min : mg "min" = none
  m_range : mg "range" = none
  m_set : mg "set" = none
  m_sorted : mg "sorted" = none
  m_tuple : mg "tuple" = none
  g_gcd : mg "gcd" = some (.builtin "math.gcd")
  g_lcm : mg "lcm" = some (.builtin "math.lcm")
section
variable {P : Program} {w : World} {K : Fg} {mg : Str → Option Value} {base : Heap}
theorem TF.r_RESIDUES_MOST (T : TF K mg) : RelV (.int (200000)) (Value.int (200000) T.t_RESIDUES_MOST) := ⟨_, rfl⟩
theorem TF.r_EMPTY (T : TF K mg) : RelV (.ref T.a_EMPTY) (Value.ref T.a_EMPTY) := rfl
theorem TF.d_EMPTY (T : TF K mg) (S : Hp) {K2 : Fg} (e : K = K2) : Rp K2 S (.ref T.a_EMPTY) (D.tup [(D.tup [(D.int 0), (D.int 1), (D.tup [])])]) := e ▸ T.d0_EMPTY S
theorem TF.r_INTERVAL_MOST (T : TF K mg) : RelV (.int (99)) (Value.int (99) T.t_INTERVAL_MOST) := ⟨_, rfl⟩
theorem TF.r_COUNT_MOST (T : TF K mg) : RelV (.int (100000)) (Value.int (100000) T.t_COUNT_MOST) := ⟨_, rfl⟩
theorem hu64 {k : Nat} {A : Around} (hr : Room k A) : A.units + 64 < cLine := hr.units
theorem hu1 {k : Nat} {A : Around} (hr : Room k A) : A.units + 1 < cLine := by have := hr.un; omega
theorem hu65 {k : Nat} {A : Around} (hr : Room k A) : A.units + 65 < cLine := by have := hr.un; omega
/-- what stands while the inverse is sought -/
structure InvI (a m old new left right : Int) : Prop where
  o0 : 0 ≤ old
  n0 : 0 ≤ new
  om : old ≤ m
  nm : new ≤ m
  l : m ∣ left * a - old
  r : m ∣ right * a - new
  g : Int.gcd old new = Int.gcd a m
theorem InvI.start {a m : Int} (hm : 0 < m) : InvI a m (a % m) m 1 0 := by
  have e0 := Int.emod_nonneg a (show m ≠ 0 by omega)
  have e1 := Int.emod_lt_of_pos a hm
  have ed := Int.mul_ediv_add_emod a m
  refine ⟨e0, by omega, by omega, Int.le_refl _, ?_, ?_, ?_⟩
  · exact ⟨a / m, by omega⟩
  · exact ⟨-1, by omega⟩
  · have e : a % m = a - a / m * m := by rw [Int.mul_comm]; omega
    rw [e, Int.gcd_comm, Int.gcd_sub_mul_right_right, Int.gcd_comm]
theorem InvI.step {a m old new left right : Int} (h : InvI a m old new left right) (hn : 0 < new) : InvI a m new (old - old / new * new) right (left - old / new * right) ∧ old - old / new * new < new := by
  have e0 := Int.emod_nonneg old (show new ≠ 0 by omega)
  have e1 := Int.emod_lt_of_pos old hn
  have ed := Int.mul_ediv_add_emod old new
  have ed : old / new * new + old % new = old := by rw [Int.mul_comm]; exact ed
  refine ⟨⟨h.n0, by omega, h.nm, by have := h.nm; omega, h.r, ?_, ?_⟩, by omega⟩
  · obtain ⟨x, hx⟩ := h.l
    obtain ⟨y, hy⟩ := h.r
    refine ⟨x - old / new * y, ?_⟩
    have e : (left - old / new * right) * a - (old - old / new * new) = (left * a - old) - old / new * (right * a - new) := by
      rw [Int.sub_mul, Int.mul_sub, Int.mul_assoc]
      omega
    rw [e, hx, hy, Int.mul_sub, ← Int.mul_assoc, ← Int.mul_assoc, Int.mul_comm m (old / new)]
  · rw [Int.gcd_sub_mul_right_right, Int.gcd_comm]
    exact h.g
theorem dvd_emod_sub {m x : Int} : m ∣ x % m - x := ⟨-(x / m), by have := Int.mul_ediv_add_emod x m; rw [Int.mul_neg]; omega⟩
/-- what inverse answers -/
def IsInv (a m y : Int) : Prop := 0 ≤ y ∧ y < m ∧ (Int.gcd a m = 1 → m ∣ y * a - 1)
theorem InvI.fin {a m old left right : Int} (h : InvI a m old 0 left right) (hm : 0 < m) : IsInv a m (left % m) := by
  refine ⟨Int.emod_nonneg _ (by omega), Int.emod_lt_of_pos _ hm, fun hg => ?_⟩
  have e : old = 1 := by
    have hg2 := h.g
    rw [hg, Int.gcd_zero_right] at hg2
    have := h.o0
    omega
  obtain ⟨x, hx⟩ := h.l
  obtain ⟨y, hy⟩ := dvd_emod_sub (m := m) (x := left)
  refine ⟨x + y * a, ?_⟩
  have e2 : left % m * a - 1 = (left * a - old) + (left % m - left) * a := by rw [e, Int.sub_mul]; omega
  rw [e2, hx, hy, Int.mul_add, Int.mul_assoc]
/-- what both answers -/
def gcdI (m n : Int) : Int := ((Nat.gcd m.natAbs n.natAbs : Nat) : Int)
def lcmI (m n : Int) : Int := m * (n / gcdI m n)
def IsBoth (a m b n : Int) (r : Option Int) : Prop := match r with
  | some x => 0 ≤ x ∧ x < lcmI m n ∧ m ∣ x - a ∧ n ∣ x - b
  | none => ¬ gcdI m n ∣ b - a
theorem gcdI_pos {m n : Int} (hm : 0 < m) : 0 < gcdI m n := by
  unfold gcdI
  have := Nat.gcd_pos_of_pos_left n.natAbs (show 0 < m.natAbs by omega)
  omega
theorem gcdI_l {m n : Int} : gcdI m n ∣ m := Int.gcd_dvd_left ..
theorem gcdI_r {m n : Int} : gcdI m n ∣ n := Int.gcd_dvd_right ..
theorem gcdI_le {m n : Int} (hm : 0 < m) : gcdI m n ≤ m := Int.le_of_dvd hm gcdI_l
/-- divided by the common divisor they have none left -/
theorem gcdI_one {m n : Int} (hm : 0 < m) (hn : 0 < n) : Int.gcd (m / gcdI m n) (n / gcdI m n) = 1 := by
  obtain ⟨M, rfl⟩ := Int.eq_ofNat_of_zero_le (show 0 ≤ m by omega)
  obtain ⟨N, rfl⟩ := Int.eq_ofNat_of_zero_le (show 0 ≤ n by omega)
  unfold gcdI
  rw [Int.natAbs_natCast, Int.natAbs_natCast, ← Int.natCast_ediv, ← Int.natCast_ediv]
  show Nat.gcd (Int.natAbs _) (Int.natAbs _) = 1
  rw [Int.natAbs_natCast, Int.natAbs_natCast]
  exact Nat.coprime_div_gcd_div_gcd (Nat.gcd_pos_of_pos_left _ (by omega))
theorem both_of {a m b n y : Int} (hm : 0 < m) (hn : 0 < n) (hc : gcdI m n ∣ b - a) (hy : IsInv (m / gcdI m n) (n / gcdI m n) y) :
    IsBoth a m b n (some ((a + m * ((b - a) / gcdI m n * y % (n / gcdI m n))) % (m * (n / gcdI m n)))) := by
  have hg := gcdI_pos (n := n) hm
  have hg1 := gcdI_one hm hn
  obtain ⟨m', hm'⟩ := gcdI_l (m := m) (n := n)
  obtain ⟨n', hn'⟩ := gcdI_r (m := m) (n := n)
  obtain ⟨c, hc'⟩ := hc
  show 0 ≤ _ ∧ _ < lcmI m n ∧ m ∣ _ - a ∧ n ∣ _ - b
  unfold lcmI
  generalize hG : gcdI m n = g at *
  have em : m / g = m' := by rw [hm', Int.mul_ediv_cancel_left _ (by omega)]
  have en : n / g = n' := by rw [hn', Int.mul_ediv_cancel_left _ (by omega)]
  have ec : (b - a) / g = c := by rw [hc', Int.mul_ediv_cancel_left _ (by omega)]
  rw [em, en] at hg1 hy
  rw [en, ec]
  have hn0 : 0 < n' := by
    rcases Int.lt_trichotomy n' 0 with w | w | w
    · have := Int.mul_neg_of_pos_of_neg hg w; omega
    · rw [w, Int.mul_zero] at hn'; omega
    · exact w
  have hL : 0 < m * n' := Int.mul_pos hm hn0
  obtain ⟨z, hz⟩ := hy.2.2 hg1
  obtain ⟨t, ht⟩ := dvd_emod_sub (m := n') (x := c * y)
  obtain ⟨u, hu⟩ := dvd_emod_sub (m := m * n') (x := a + m * (c * y % n'))
  refine ⟨Int.emod_nonneg _ (by omega), Int.emod_lt_of_pos _ hL, ?_, ?_⟩
  · refine ⟨n' * u + c * y % n', ?_⟩
    have e : (a + m * (c * y % n')) % (m * n') - a = ((a + m * (c * y % n')) % (m * n') - (a + m * (c * y % n'))) + m * (c * y % n') := by omega
    rw [e, hu, Int.mul_add, Int.mul_assoc]
  · refine ⟨m' * u + (c * z + m' * t), ?_⟩
    have e : (a + m * (c * y % n')) % (m * n') - b = ((a + m * (c * y % n')) % (m * n') - (a + m * (c * y % n'))) + (m * (c * y % n') - (b - a)) := by omega
    have e1 : c * y % n' = c * y + n' * t := by omega
    have e2 : y * m' = 1 + n' * z := by omega
    rw [e, hu, hc', e1]
    have a1 : m * (c * y + n' * t) = g * c + n * (c * z) + n * (m' * t) := by
      have q : g * m' * (c * y) = g * c * (y * m') := by ac_rfl
      rw [hm', hn', Int.mul_add, q, e2, Int.mul_add, Int.mul_one]
      have q2 : g * c * (n' * z) = g * n' * (c * z) := by ac_rfl
      have q3 : g * m' * (n' * t) = g * n' * (m' * t) := by ac_rfl
      rw [q2, q3]
    have a2 : m * n' * u = n * (m' * u) := by rw [hm', hn']; ac_rfl
    rw [a1, a2, Int.mul_add, Int.mul_add]
    omega
/-- .. and there is none else -/
theorem lcmI_dvd {m n d : Int} (hm : 0 < m) (hn : 0 < n) (h1 : m ∣ d) (h2 : n ∣ d) : lcmI m n ∣ d := by
  have hg := gcdI_pos (n := n) hm
  have hg1 := gcdI_one hm hn
  obtain ⟨m', hm'⟩ := gcdI_l (m := m) (n := n)
  obtain ⟨n', hn'⟩ := gcdI_r (m := m) (n := n)
  unfold lcmI
  generalize hG : gcdI m n = g at *
  have em : m / g = m' := by rw [hm', Int.mul_ediv_cancel_left _ (by omega)]
  have en : n / g = n' := by rw [hn', Int.mul_ediv_cancel_left _ (by omega)]
  rw [em, en] at hg1
  rw [en]
  obtain ⟨k, rfl⟩ := h1
  refine Int.mul_dvd_mul_left m ?_
  have h3 : g * n' ∣ g * (m' * k) := by rw [← hn', ← Int.mul_assoc, ← hm']; exact h2
  have h4 : n' ∣ m' * k := Int.dvd_of_mul_dvd_mul_left (by omega) h3
  have h5 := Int.natAbs_dvd_natAbs.mpr h4
  rw [Int.natAbs_mul] at h5
  have h6 : Nat.Coprime n'.natAbs m'.natAbs := by
    have : Int.gcd n' m' = 1 := by rw [Int.gcd_comm]; exact hg1
    exact this
  exact Int.natAbs_dvd_natAbs.mp (h6.dvd_of_dvd_mul_left h5)
theorem lcmI_pos {m n : Int} (hm : 0 < m) (hn : 0 < n) : 0 < lcmI m n := by
  unfold lcmI
  refine Int.mul_pos hm ?_
  have hg := gcdI_pos (n := n) hm
  obtain ⟨n', hn'⟩ := gcdI_r (m := m) (n := n)
  generalize gcdI m n = g at *
  rw [hn', Int.mul_ediv_cancel_left _ (by omega)]
  rcases Int.lt_trichotomy n' 0 with w | w | w
  · have := Int.mul_neg_of_pos_of_neg hg w; omega
  · rw [w, Int.mul_zero] at hn'; omega
  · exact w
theorem lcmI_l {m n : Int} : m ∣ lcmI m n := ⟨n / gcdI m n, rfl⟩
theorem lcmI_r {m n : Int} (hm : 0 < m) : n ∣ lcmI m n := by
  have hg := gcdI_pos (n := n) hm
  obtain ⟨m', hm'⟩ := gcdI_l (m := m) (n := n)
  obtain ⟨n', hn'⟩ := gcdI_r (m := m) (n := n)
  unfold lcmI
  generalize gcdI m n = g at *
  have en : n / g = n' := by rw [hn', Int.mul_ediv_cancel_left _ (by omega)]
  rw [en]
  exact ⟨m', by rw [hm', hn']; ac_rfl⟩
theorem IsBoth.uniq {a m b n : Int} (hm : 0 < m) (hn : 0 < n) : ∀ {r r' : Option Int}, IsBoth a m b n r → IsBoth a m b n r' → r = r'
  | none, none, _, _ => rfl
  | some x, none, h, k => absurd (by
      have h1 := Int.dvd_trans (gcdI_l (m := m) (n := n)) h.2.2.1
      have h2 := Int.dvd_trans (gcdI_r (m := m) (n := n)) h.2.2.2
      have := Int.dvd_sub h1 h2
      rw [show x - a - (x - b) = b - a by omega] at this
      exact this) k
  | none, some x, h, k => absurd (by
      have h1 := Int.dvd_trans (gcdI_l (m := m) (n := n)) k.2.2.1
      have h2 := Int.dvd_trans (gcdI_r (m := m) (n := n)) k.2.2.2
      have := Int.dvd_sub h1 h2
      rw [show x - a - (x - b) = b - a by omega] at this
      exact this) h
  | some x, some y, h, k => by
    have h1 := Int.dvd_sub h.2.2.1 k.2.2.1
    have h2 := Int.dvd_sub h.2.2.2 k.2.2.2
    rw [show x - a - (y - a) = x - y by omega] at h1
    rw [show x - b - (y - b) = x - y by omega] at h2
    obtain ⟨z, hz⟩ := lcmI_dvd hm hn h1 h2
    have hL := lcmI_pos hm hn
    have h3 := h.1
    have h4 := h.2.1
    have h5 := k.1
    have h6 := k.2.1
    have : z = 0 := by
      rcases Int.lt_trichotomy z 0 with w | w | w
      · have := Int.mul_le_mul_of_nonneg_left (show z ≤ -1 by omega) (show 0 ≤ lcmI m n by omega); omega
      · exact w
      · have := Int.mul_le_mul_of_nonneg_left (show 1 ≤ z by omega) (show 0 ≤ lcmI m n by omega); omega
    rw [this, Int.mul_zero] at hz
    congr 1
    omega

def p_inverse : PSp := fun ds M Q _ => match ds with
  | [.int a, .int m] => (0 < m ∧ m < 18446744073709551616) ∧ ∀ y, IsInv a m y → Q (.va (.int y)) M
  | _ => False

theorem asc_ext : ∀ {as bs : List Int}, Asc as → Asc bs → (∀ k, k ∈ as ↔ k ∈ bs) → as = bs
  | [], [], _, _, _ => rfl
  | [], b :: bs, _, _, h => absurd ((h b).mpr List.mem_cons_self) (by simp)
  | a :: as, [], _, _, h => absurd ((h a).mp List.mem_cons_self) (by simp)
  | a :: as, b :: bs, ha, hb, h => by
    have ha1 := (List.pairwise_cons.mp ha).1
    have hb1 := (List.pairwise_cons.mp hb).1
    have e : a = b := by
      have h1 := (h a).mp List.mem_cons_self
      have h2 := (h b).mpr List.mem_cons_self
      rcases List.mem_cons.mp h1 with e | h1
      · exact e
      · rcases List.mem_cons.mp h2 with e | h2
        · exact e.symm
        · have := ha1 b h2
          have := hb1 a h1
          omega
    subst e
    congr 1
    refine asc_ext (List.pairwise_cons.mp ha).2 (List.pairwise_cons.mp hb).2 fun k => ?_
    constructor
    · intro hk
      rcases List.mem_cons.mp ((h k).mp (List.mem_cons_of_mem _ hk)) with e | w
      · have := ha1 k hk
        omega
      · exact w
    · intro hk
      rcases List.mem_cons.mp ((h k).mpr (List.mem_cons_of_mem _ hk)) with e | w
      · have := hb1 k hk
        omega
      · exact w
theorem asc_snoc {as : List Int} {a : Int} (h : Asc as) (k : ∀ b ∈ as, b < a) : Asc (as ++ [a]) := by
  refine List.pairwise_append.mpr ⟨h, by simp, fun b hb c hc => ?_⟩
  rw [List.mem_singleton.mp hc]
  exact k b hb
theorem asc_len : ∀ {as : List Int} {a b : Int}, Asc as → (∀ k ∈ as, a ≤ k ∧ k < b) → a ≤ b → (as.length : Int) ≤ b - a
  | [], a, b, _, _, h => by simp; omega
  | c :: as, a, b, hA, hm, h => by
    have h1 := hm c List.mem_cons_self
    have := asc_len (a := c + 1) (b := b) (List.pairwise_cons.mp hA).2 (fun k hk => ⟨by have := (List.pairwise_cons.mp hA).1 k hk; omega, (hm k (List.mem_cons_of_mem _ hk)).2⟩) (by omega)
    rw [List.length_cons]
    omega
theorem asc_filter {p : Int → Bool} {ns : List Int} (h : Asc ns) : Asc (ns.filter p) := h.sublist List.filter_sublist
def IsPr (q : Int) : Prop := 2 ≤ q ∧ ∀ d, 2 ≤ d → d < q → ¬ d ∣ q
theorem pr_euclid {q a b : Int} (h : IsPr q) (hd : q ∣ a * b) (ha : ¬ q ∣ a) : q ∣ b := by
  have hg : Nat.gcd q.natAbs a.natAbs = 1 := by
    have h1 : (Nat.gcd q.natAbs a.natAbs) ∣ q.natAbs := Nat.gcd_dvd_left _ _
    have h2 : (Nat.gcd q.natAbs a.natAbs) ∣ a.natAbs := Nat.gcd_dvd_right _ _
    have hq := h.1
    have h3 := Nat.le_of_dvd (by omega) h1
    generalize Nat.gcd q.natAbs a.natAbs = g at *
    have h4 : (g : Int) ∣ q := Int.ofNat_dvd_left.mpr h1
    have h5 : (g : Int) ∣ a := Int.ofNat_dvd_left.mpr h2
    have g0 : g ≠ 0 := by
      rintro rfl
      have := Nat.eq_zero_of_zero_dvd h1
      omega
    rcases (by omega : g = 1 ∨ (2 ≤ g ∧ (g : Int) < q) ∨ (g : Int) = q) with e | e | e
    · exact e
    · exact absurd h4 (h.2 g (by omega) e.2)
    · exact absurd (e ▸ h5) ha
  have h6 : q.natAbs ∣ a.natAbs * b.natAbs := by
    rw [← Int.natAbs_mul]
    exact Int.natAbs_dvd_natAbs.mpr hd
  exact Int.natAbs_dvd_natAbs.mp (Nat.Coprime.dvd_of_dvd_mul_left hg h6)
theorem pr_ne {p q : Int} (hp : IsPr p) (hq : IsPr q) (h : q ≠ p) : ¬ q ∣ p := by
  intro hd
  have h1 := Int.le_of_dvd (by have := hp.1; omega) hd
  exact hp.2 q hq.1 (by omega) hd
/-- the primes below p are found and divided out -/
structure PrInv (n0 n p : Int) (ps : List Int) : Prop where
  asc : Asc ps
  mem : ∀ q, q ∈ ps ↔ IsPr q ∧ q ∣ n0 ∧ q < p
  nod : ∀ d, 2 ≤ d → d < p → ¬ d ∣ n
  big : ∀ q, IsPr q → p ≤ q → (q ∣ n0 ↔ q ∣ n)
  pos : 1 ≤ n
  dv : n ∣ n0
/-- p is found, and is being divided out -/
structure PrMid (n0 n p : Int) (ps : List Int) : Prop where
  asc : Asc ps
  mem : ∀ q, q ∈ ps ↔ IsPr q ∧ q ∣ n0 ∧ q < p + 1
  nod : ∀ d, 2 ≤ d → d < p → ¬ d ∣ n
  big : ∀ q, IsPr q → p + 1 ≤ q → (q ∣ n0 ↔ q ∣ n)
  pos : 1 ≤ n
  pr : IsPr p
  dv : n ∣ n0
theorem PrInv.start {n : Int} (h : 1 ≤ n) : PrInv n n 2 [] :=
  ⟨by simp, fun q => by simp only [List.not_mem_nil, false_iff]; rintro ⟨h1, _, h2⟩; have := h1.1; omega, fun d h1 h2 => by omega, fun q _ _ => Iff.rfl, h, Int.dvd_refl n⟩
theorem PrInv.skip {n0 n p : Int} {ps : List Int} (h : PrInv n0 n p ps) (hp : 2 ≤ p) (hd : ¬ p ∣ n) : PrInv n0 n (p + 1) ps := by
  refine ⟨h.asc, fun q => ?_, fun d h1 h2 => ?_, fun q h1 h2 => h.big q h1 (by omega), h.pos, h.dv⟩
  · rw [h.mem q]
    constructor
    · rintro ⟨a, b, c⟩; exact ⟨a, b, by omega⟩
    · rintro ⟨a, b, c⟩
      refine ⟨a, b, ?_⟩
      rcases (by omega : q < p ∨ q = p) with e | e
      · exact e
      · subst e
        exact absurd ((h.big q a (Int.le_refl _)).mp b) hd
  · rcases (by omega : d < p ∨ d = p) with e | e
    · exact h.nod d h1 e
    · rw [e]; exact hd
theorem PrInv.found {n0 n p : Int} {ps : List Int} (h : PrInv n0 n p ps) (hp : 2 ≤ p) (hd : p ∣ n) : PrMid n0 n p (ps ++ [p]) := by
  have pp : IsPr p := ⟨hp, fun d h1 h2 h3 => h.nod d h1 h2 (Int.dvd_trans h3 hd)⟩
  refine ⟨asc_snoc h.asc fun b hb => ((h.mem b).mp hb).2.2, fun q => ?_, h.nod, fun q h1 h2 => h.big q h1 (by omega), h.pos, pp, h.dv⟩
  rw [List.mem_append, h.mem q, List.mem_singleton]
  constructor
  · rintro (⟨a, b, c⟩ | rfl)
    · exact ⟨a, b, by omega⟩
    · exact ⟨pp, (h.big q pp (Int.le_refl _)).mpr hd, by omega⟩
  · rintro ⟨a, b, c⟩
    rcases (by omega : q < p ∨ q = p) with e | e
    · exact .inl ⟨a, b, e⟩
    · exact .inr e
theorem PrMid.div {n0 n p : Int} {ps : List Int} (h : PrMid n0 n p ps) (hd : p ∣ n) : PrMid n0 (n / p) p ps := by
  have hp := h.pr.1
  obtain ⟨k, rfl⟩ := hd
  have e : p * k / p = k := Int.mul_ediv_cancel_left k (by omega)
  rw [e]
  have hk : 1 ≤ k := by
    have := h.pos
    rcases Int.lt_or_le 0 k with w | w
    · omega
    · have : p * k ≤ 0 := Int.mul_nonpos_of_nonneg_of_nonpos (by omega) w
      omega
  refine ⟨h.asc, h.mem, fun d h1 h2 h3 => h.nod d h1 h2 (Int.dvd_mul_of_dvd_right h3), fun q h1 h2 => ?_, hk, h.pr, Int.dvd_trans (Int.dvd_mul_left p k) h.dv⟩
  rw [h.big q h1 h2]
  exact ⟨fun w => pr_euclid h1 w (pr_ne h.pr h1 (by omega)), fun w => Int.dvd_mul_of_dvd_right w⟩
theorem PrMid.fin {n0 n p : Int} {ps : List Int} (h : PrMid n0 n p ps) (hd : ¬ p ∣ n) : PrInv n0 n (p + 1) ps := by
  refine ⟨h.asc, h.mem, fun d h1 h2 => ?_, h.big, h.pos, h.dv⟩
  rcases (by omega : d < p ∨ d = p) with e | e
  · exact h.nod d h1 e
  · rw [e]; exact hd
/-- the prime divisors -/
def PrimesOf (n : Int) (ps : List Int) : Prop := Asc ps ∧ ∀ q, q ∈ ps ↔ IsPr q ∧ q ∣ n
theorem PrimesOf.uniq {n : Int} {ps qs : List Int} (h : PrimesOf n ps) (k : PrimesOf n qs) : ps = qs := asc_ext h.1 k.1 fun q => by rw [h.2 q, k.2 q]
theorem PrInv.one {n0 p : Int} {ps : List Int} (h : PrInv n0 1 p ps) (hp : 2 ≤ p) : PrimesOf n0 ps := by
  refine ⟨h.asc, fun q => ?_⟩
  rw [h.mem q]
  constructor
  · rintro ⟨a, b, _⟩; exact ⟨a, b⟩
  · rintro ⟨a, b⟩
    refine ⟨a, b, ?_⟩
    rcases Int.lt_or_le q p with e | e
    · exact e
    · have := Int.le_of_dvd (by omega) ((h.big q a e).mp b)
      have := a.1
      omega
theorem PrInv.last {n0 n p : Int} {ps : List Int} (h : PrInv n0 n p ps) (hp : 2 ≤ p) (hn : n < p * p) (h1 : 1 < n) : PrimesOf n0 (ps ++ [n]) := by
  have pn : IsPr n := by
    refine ⟨by omega, fun d h2 h3 h4 => ?_⟩
    obtain ⟨k, hk⟩ := h4
    have k2 : 2 ≤ k := by
      rcases (by omega : k ≤ 0 ∨ k = 1 ∨ 2 ≤ k) with w | w | w
      · have : d * k ≤ 0 := Int.mul_nonpos_of_nonneg_of_nonpos (by omega) w
        omega
      · rw [w] at hk; omega
      · exact w
    have d1 : p ≤ d := by
      rcases Int.lt_or_le d p with w | w
      · exact absurd ⟨k, hk⟩ (h.nod d h2 w)
      · exact w
    have d2 : p ≤ k := by
      rcases Int.lt_or_le k p with w | w
      · exact absurd (⟨d, by rw [hk, Int.mul_comm]⟩ : k ∣ n) (h.nod k k2 w)
      · exact w
    have := Int.mul_le_mul d1 d2 (by omega) (by omega)
    omega
  have hle : p ≤ n := by
    rcases Int.lt_or_le n p with w | w
    · exact absurd (Int.dvd_refl n) (h.nod n (by omega) w)
    · exact w
  refine ⟨asc_snoc h.asc fun b hb => by have := ((h.mem b).mp hb).2.2; omega, fun q => ?_⟩
  rw [List.mem_append, h.mem q, List.mem_singleton]
  constructor
  · rintro (⟨a, b, c⟩ | rfl)
    · exact ⟨a, b⟩
    · exact ⟨pn, h.dv⟩
  · rintro ⟨a, b⟩
    rcases Int.lt_or_le q p with e | e
    · exact .inl ⟨a, b, e⟩
    · have hq := (h.big q a e).mp b
      refine .inr ?_
      rcases (by have := Int.le_of_dvd (by omega) hq; omega : q < n ∨ q = n) with w | w
      · exact absurd hq (pn.2 q a.1 w)
      · exact w
/-- a number above 1 has a prime divisor -/
theorem pr_ex : ∀ (k : Nat) {n : Int}, 2 ≤ n → n.toNat ≤ k → ∃ q, IsPr q ∧ q ∣ n
  | 0, n, h, hk => by omega
  | k + 1, n, h, hk => by
    by_cases e : IsPr n
    · exact ⟨n, e, Int.dvd_refl n⟩
    · have : ∃ d, 2 ≤ d ∧ d < n ∧ d ∣ n := by
        refine Classical.byContradiction fun w => e ⟨h, fun d h1 h2 h3 => w ⟨d, h1, h2, h3⟩⟩
      obtain ⟨d, h1, h2, h3⟩ := this
      obtain ⟨q, a, b⟩ := pr_ex k h1 (by omega)
      exact ⟨q, a, Int.dvd_trans b h3⟩

def p_primes_of : PSp := fun ds M Q _ => match ds with
  | [.int n] => (1 ≤ n ∧ n < 1000000000000) ∧ ∀ ps : List Int, PrimesOf n ps → Q (.ow (.lst (ps.map D.int))) M
  | _ => False

def p_place_in : PSp := fun ds M Q _ => match ds with
  | [.tup xs, .int r] => ∃ ns : List Int, xs = ns.map D.int ∧ Asc ns ∧ Q (.va (.int (cntL ns r))) M
  | _ => False

theorem imul1 (a b : Int) : a * (b + 1) = a * b + a := by rw [Int.mul_add, Int.mul_one]
theorem cntL_mem {ns : List Int} (h : Asc ns) {r : Int} : r ∈ ns ↔ ∃ k : Nat, (k : Int) = cntL ns r ∧ ns[k]? = some r := by
  constructor
  · intro hm
    obtain ⟨i, hi, e⟩ := List.mem_iff_getElem.mp hm
    have e1 : ns[i]? = some r := by rw [List.getElem?_eq_getElem hi, e]
    refine ⟨i, ?_, e1⟩
    have h1 := not_congr (cntL_lt h (r := r) e1)
    have hb := cntL_le (ns := ns) (r := r)
    rcases (by omega : (i : Int) = cntL ns r ∨ cntL ns r < i) with c | c
    · exact c
    · have hk : (cntL ns r).toNat < ns.length := by omega
      have e2 : ns[(cntL ns r).toNat]? = some ns[(cntL ns r).toNat] := List.getElem?_eq_getElem hk
      have h3 := not_congr (cntL_lt h (r := r) e2)
      have h4 := h.get (by omega) e2 e1
      omega
  · rintro ⟨k, _, e⟩
    exact List.mem_of_getElem? e
/-- the first one from d on, of residues that come again -/
def nextR (p : Int) (ns : List Int) (d : Int) : Int := if cntL ns (d % p) < ns.length then d - d % p + ns.getD (cntL ns (d % p)).toNat 0 else d - d % p + p + ns.getD 0 0
/-- the residues of so many periods -/
def spreadL (p : Int) (ns : List Int) (t : Nat) : List Int := (List.range t).flatMap fun (k : Nat) => ns.map fun r => (k : Int) * p + r
theorem spreadL_succ {p : Int} {ns : List Int} {t : Nat} : spreadL p ns (t + 1) = spreadL p ns t ++ ns.map fun r => (t : Int) * p + r := by
  unfold spreadL
  rw [List.range_succ, List.flatMap_append]
  simp
theorem spreadL_len {p : Int} {ns : List Int} : ∀ {t : Nat}, (spreadL p ns t).length = t * ns.length
  | 0 => by simp [spreadL]
  | t + 1 => by rw [spreadL_succ, List.length_append, spreadL_len, List.length_map, Nat.succ_mul]
theorem asc_rgI {a b : Int} : Asc (rgI a b) := by
  generalize hk : (b - a).toNat = k
  induction k generalizing a with
  | zero => rw [rgI_nil (by omega)]; exact List.Pairwise.nil
  | succ k ih =>
    rw [rgI_cons (by omega)]
    refine List.pairwise_cons.mpr ⟨fun v hv => ?_, ih (by omega)⟩
    have := rgI_mem.mp hv
    omega
theorem Asc.filter {ns : List Int} (h : Asc ns) (p : Int → Bool) : Asc (ns.filter p) := List.Pairwise.filter _ h
/-- residues of the period p -/
def Res (p : Int) (ns : List Int) : Prop := 0 < p ∧ Asc ns ∧ ∀ r ∈ ns, 0 ≤ r ∧ r < p
theorem nextR_spec {p : Int} {ns : List Int} (h : Res p ns) (hl : 0 < ns.length) (d : Int) : d ≤ nextR p ns d ∧ nextR p ns d % p ∈ ns ∧ nextR p ns d < d + p ∧ ∀ x, d ≤ x → x % p ∈ ns → nextR p ns d ≤ x := by
  obtain ⟨hp, ha, hr⟩ := h
  have hb := cntL_le (ns := ns) (r := d % p)
  have e0 := Int.emod_nonneg d (show p ≠ 0 by omega)
  have e1 := Int.emod_lt_of_pos d hp
  have ed := Int.mul_ediv_add_emod d p
  unfold nextR
  by_cases c : cntL ns (d % p) < ns.length
  · rw [if_pos c]
    obtain ⟨v, hv, _⟩ := at_ints (ns := ns) (i := cntL ns (d % p)) (by omega) c
    rw [List.getD_eq_getElem?_getD, hv, Option.getD_some]
    have hm := List.mem_of_getElem? hv
    have hv2 := hr v hm
    have h3 := not_congr (cntL_lt ha (r := d % p) hv)
    have em : (d - d % p + v) % p = v := by
      rw [show d - d % p + v = v + p * (d / p) by omega, Int.add_mul_emod_self_left, Int.emod_eq_of_lt hv2.1 hv2.2]
    refine ⟨by omega, by rw [em]; exact hm, ?_, fun x hx hxm => ?_⟩
    · rcases (by omega : v < p + d % p ∨ p + d % p ≤ v) with w | w <;> omega
    · have x0 := Int.emod_nonneg x (show p ≠ 0 by omega)
      have x1 := Int.emod_lt_of_pos x hp
      have xd := Int.mul_ediv_add_emod x p
      rcases Int.lt_trichotomy (x / p) (d / p) with w | w | w
      · have : p * (x / p) + p ≤ p * (d / p) := by rw [← imul1]; exact Int.mul_le_mul_of_nonneg_left (by omega) (by omega)
        omega
      · rw [w] at xd
        obtain ⟨i, hi, e⟩ := List.mem_iff_getElem.mp hxm
        have e3 : ns[i]? = some (x % p) := by rw [List.getElem?_eq_getElem hi, e]
        have h5 := not_congr (cntL_lt ha (r := d % p) e3)
        rcases (by omega : (i : Int) = cntL ns (d % p) ∨ cntL ns (d % p) < i) with q | q
        · rw [← q, Int.toNat_natCast, e3] at hv
          have := Option.some.inj hv
          omega
        · have := ha.get (by omega) hv e3
          omega
      · have : p * (d / p) + p ≤ p * (x / p) := by rw [← imul1]; exact Int.mul_le_mul_of_nonneg_left (by omega) (by omega)
        omega
  · rw [if_neg c]
    obtain ⟨v, hv, _⟩ := at_ints (ns := ns) (i := 0) (by omega) (by omega)
    have hv : ns[0]? = some v := hv
    rw [List.getD_eq_getElem?_getD, hv, Option.getD_some]
    have hm := List.mem_of_getElem? hv
    have hv2 := hr v hm
    have h3 := cntL_lt ha (r := d % p) hv
    have em : (d - d % p + p + v) % p = v := by
      rw [show d - d % p + p + v = v + p * (d / p + 1) by rw [imul1]; omega, Int.add_mul_emod_self_left, Int.emod_eq_of_lt hv2.1 hv2.2]
    refine ⟨by omega, by rw [em]; exact hm, by omega, fun x hx hxm => ?_⟩
    have x0 := Int.emod_nonneg x (show p ≠ 0 by omega)
    have x1 := Int.emod_lt_of_pos x hp
    have xd := Int.mul_ediv_add_emod x p
    obtain ⟨i, hi, e⟩ := List.mem_iff_getElem.mp hxm
    have e3 : ns[i]? = some (x % p) := by rw [List.getElem?_eq_getElem hi, e]
    have h5 := cntL_lt ha (r := d % p) e3
    have h6 : v ≤ x % p := by
      rcases (by omega : i = 0 ∨ 0 < i) with q | q
      · subst q
        rw [hv] at e3
        have := Option.some.inj e3
        omega
      · have := ha.get q hv e3
        omega
    rcases (by omega : x / p ≤ d / p ∨ d / p + 1 ≤ x / p) with w | w
    · have : p * (x / p) ≤ p * (d / p) := Int.mul_le_mul_of_nonneg_left w (by omega)
      omega
    · have : p * (d / p) + p ≤ p * (x / p) := by rw [← imul1]; exact Int.mul_le_mul_of_nonneg_left w (by omega)
      omega
theorem spreadL_mem {p : Int} {ns : List Int} (h : Res p ns) : ∀ {t : Nat} {x : Int}, x ∈ spreadL p ns t ↔ 0 ≤ x ∧ x < p * t ∧ x % p ∈ ns
  | 0, x => by simp [spreadL]; omega
  | t + 1, x => by
    have hp := h.1
    rw [spreadL_succ, List.mem_append, spreadL_mem h, List.mem_map]
    have x0 := Int.emod_nonneg x (show p ≠ 0 by omega)
    have x1 := Int.emod_lt_of_pos x hp
    have xd := Int.mul_ediv_add_emod x p
    have et : p * ((t + 1 : Nat) : Int) = p * t + p := by push_cast; rw [imul1]
    have t0 : 0 ≤ p * (t : Int) := Int.mul_nonneg (by omega) (by omega)
    rw [et]
    constructor
    · rintro (⟨a, b, c⟩ | ⟨r, hr, rfl⟩)
      · exact ⟨a, by omega, c⟩
      · have hb := h.2.2 r hr
        rw [Int.mul_comm (t : Int) p] at *
        refine ⟨by omega, by omega, ?_⟩
        rw [Int.add_comm, Int.add_mul_emod_self_left, Int.emod_eq_of_lt hb.1 hb.2]
        exact hr
    · rintro ⟨a, b, c⟩
      rcases (by omega : x < p * t ∨ p * t ≤ x) with w | w
      · exact .inl ⟨a, w, c⟩
      · refine .inr ⟨x % p, c, ?_⟩
        have e : x / p = t := by
          rcases Int.lt_trichotomy (x / p) t with q | q | q
          · have : p * (x / p) + p ≤ p * t := by rw [← imul1]; exact Int.mul_le_mul_of_nonneg_left (by omega) (by omega)
            omega
          · exact q
          · have : p * t + p ≤ p * (x / p) := by rw [← imul1]; exact Int.mul_le_mul_of_nonneg_left (by omega) (by omega)
            omega
        rw [e] at xd
        rw [Int.mul_comm]
        exact xd
theorem spreadL_asc {p : Int} {ns : List Int} (h : Res p ns) : ∀ {t : Nat}, Asc (spreadL p ns t)
  | 0 => by simp [spreadL]
  | t + 1 => by
    rw [spreadL_succ]
    refine List.pairwise_append.mpr ⟨spreadL_asc h, ?_, ?_⟩
    · refine List.pairwise_map.mpr (h.2.1.imp fun {a b} q => by omega)
    · intro a ha b hb
      have h1 := (spreadL_mem h).mp ha
      obtain ⟨r, hr, rfl⟩ := List.mem_map.mp hb
      have := h.2.2 r hr
      rw [Int.mul_comm (t : Int) p]
      omega
/-- shifted by t the same numbers are told -/
def Closed (P : Int) (ns : List Int) (t : Int) : Prop := ∀ r ∈ ns, (r + t) % P ∈ ns
instance {P : Int} {ns : List Int} {t : Int} : Decidable (Closed P ns t) := by unfold Closed; infer_instance
/-- there is no lesser period -/
def Mini (P : Int) (ns : List Int) : Prop := ∀ t, 1 ≤ t → t < P → t ∣ P → ¬ Closed P ns t
theorem closed_iff {P t : Int} {ns : List Int} (h : Res P ns) : Closed P ns t ↔ ∀ x, x % P ∈ ns → (x + t) % P ∈ ns := by
  constructor
  · intro c x hx
    have := c _ hx
    rwa [Int.emod_add_emod] at this
  · intro c r hr
    have := h.2.2 r hr
    exact c r (by rw [Int.emod_eq_of_lt this.1 this.2]; exact hr)
theorem closed_mul {P t : Int} {ns : List Int} (h : Res P ns) (c : Closed P ns t) : ∀ (j : Nat) {x : Int}, x % P ∈ ns → (x + j * t) % P ∈ ns
  | 0, x, hx => by simpa using hx
  | j + 1, x, hx => by
    have h1 := closed_mul h c j hx
    have h2 := (closed_iff h).mp c _ h1
    rw [show x + ((j + 1 : Nat) : Int) * t = x + j * t + t by rw [Int.natCast_add, Int.add_mul]; omega]
    exact h2
/-- the residues by the lesser period -/
theorem closed_red {P t : Int} {ns : List Int} (h : Res P ns) (ht : 1 ≤ t) (hd : t ∣ P) (c : Closed P ns t) :
    Res t (ns.filter fun r => decide (r < t)) ∧ ∀ x, x % t ∈ (ns.filter fun r => decide (r < t)) ↔ x % P ∈ ns := by
  refine ⟨⟨by omega, h.2.1.filter _, fun r hr => ?_⟩, fun x => ?_⟩
  · obtain ⟨h1, h2⟩ := List.mem_filter.mp hr
    exact ⟨(h.2.2 r h1).1, by simpa using h2⟩
  · obtain ⟨k, hk⟩ := hd
    have hP := h.1
    have kpos : 0 < k := by
      rcases Int.lt_or_le 0 k with w | w
      · exact w
      · have : t * k ≤ 0 := Int.mul_nonpos_of_nonneg_of_nonpos (by omega) w
        omega
    have e1 : x % P % t = x % t := Int.emod_emod_of_dvd x ⟨k, hk⟩
    have y0 := Int.emod_nonneg x (show P ≠ 0 by omega)
    have y1 := Int.emod_lt_of_pos x hP
    generalize x % P = y at *
    have q0 : 0 ≤ y / t := Int.ediv_nonneg y0 (by omega)
    have q1 : y / t < k := by
      refine Int.ediv_lt_of_lt_mul (by omega) ?_
      rw [Int.mul_comm k t, ← hk]; exact y1
    have ed := Int.mul_ediv_add_emod y t
    have m0 := Int.emod_nonneg y (show t ≠ 0 by omega)
    have m1 := Int.emod_lt_of_pos y (show 0 < t by omega)
    have le : t ≤ P := by
      have := Int.mul_le_mul_of_nonneg_left (show 1 ≤ k by omega) (show 0 ≤ t by omega)
      omega
    rw [← e1, List.mem_filter]
    have z0 : y % t % P = y % t := Int.emod_eq_of_lt m0 (by omega)
    constructor
    · rintro ⟨a, _⟩
      have := closed_mul h c (y / t).toNat (x := y % t) (by rw [z0]; exact a)
      rw [Int.toNat_of_nonneg q0, show y % t + y / t * t = y by rw [Int.mul_comm]; omega, Int.emod_eq_of_lt y0 y1] at this
      exact this
    · intro a
      refine ⟨?_, by simpa using m1⟩
      have := closed_mul h c (k - y / t).toNat (x := y) (by rw [Int.emod_eq_of_lt y0 y1]; exact a)
      rw [Int.toNat_of_nonneg (by omega), show y + (k - y / t) * t = y % t + P * 1 by rw [Int.sub_mul, Int.mul_comm k t, Int.mul_comm (y / t) t]; omega, Int.add_mul_emod_self_left, z0] at this
      exact this
theorem closed_len {P t : Int} {ns : List Int} (h : Res P ns) (ht : 1 ≤ t) (hd : t ∣ P) (c : Closed P ns t) : (ns.length : Int) % (P / t) = 0 := by
  obtain ⟨h1, h2⟩ := closed_red h ht hd c
  have hP := h.1
  have e : P = t * ((P / t).toNat : Nat) := by
    have h0 : 0 ≤ P / t := Int.ediv_nonneg (by omega) (by omega)
    rw [Int.toNat_of_nonneg h0]
    exact (Int.mul_ediv_cancel' hd).symm
  have : ns = spreadL t (ns.filter fun r => decide (r < t)) (P / t).toNat := by
    refine asc_ext h.2.1 (spreadL_asc h1) fun x => ?_
    rw [spreadL_mem h1, ← e]
    constructor
    · intro hx
      have hb := h.2.2 x hx
      exact ⟨hb.1, hb.2, (h2 x).mpr (by rw [Int.emod_eq_of_lt hb.1 hb.2]; exact hx)⟩
    · rintro ⟨a, b, d⟩
      have := (h2 x).mp d
      rwa [Int.emod_eq_of_lt a b] at this
  have hl := congrArg List.length this
  rw [spreadL_len] at hl
  rw [hl]
  have h0 : 0 ≤ P / t := Int.ediv_nonneg (by omega) (by omega)
  rw [show (((P / t).toNat * (ns.filter fun r => decide (r < t)).length : Nat) : Int) = P / t * ((ns.filter fun r => decide (r < t)).length : Nat) by rw [Int.natCast_mul]; congr 1; omega]
  exact Int.mul_emod_right _ _
/-- what stands while the period is made less -/
structure Shr (P0 : Int) (ns0 : List Int) (done : List Int) (P : Int) (ns : List Int) : Prop where
  res : Res P ns
  dvd : P ∣ P0
  same : ∀ x, x % P ∈ ns ↔ x % P0 ∈ ns0
  len : ns.length ≤ ns0.length
  done : ∀ q ∈ done, ¬ (q ∣ P ∧ Closed P ns (P / q))
theorem Shr.start {P : Int} {ns : List Int} (h : Res P ns) : Shr P ns [] P ns := ⟨h, Int.dvd_refl P, fun _ => Iff.rfl, Nat.le_refl _, by simp⟩
theorem Shr.next {P0 P p : Int} {ns0 ns done : List Int} (h : Shr P0 ns0 done P ns) (k : ¬ (p ∣ P ∧ Closed P ns (P / p))) : Shr P0 ns0 (done ++ [p]) P ns := by
  refine ⟨h.res, h.dvd, h.same, h.len, fun q hq => ?_⟩
  rcases List.mem_append.mp hq with w | w
  · exact h.done q w
  · rw [List.mem_singleton.mp w]; exact k
theorem Shr.cut {P0 P p : Int} {ns0 ns done : List Int} (h : Shr P0 ns0 done P ns) (hp : 2 ≤ p) (hd : p ∣ P) (c : Closed P ns (P / p)) (hq : ∀ q ∈ done, 2 ≤ q) :
    1 ≤ P / p ∧ P / p < P ∧ Shr P0 ns0 done (P / p) (ns.filter fun r => decide (r < P / p)) := by
  have hP := h.res.1
  obtain ⟨k, hk⟩ := id hd
  have e : P / p = k := by rw [hk]; exact Int.mul_ediv_cancel_left k (by omega)
  rw [e] at c ⊢
  have kpos : 0 < k := by
    rcases Int.lt_or_le 0 k with w | w
    · exact w
    · have : p * k ≤ 0 := Int.mul_nonpos_of_nonneg_of_nonpos (by omega) w
      omega
  have k2 : k < P := by
    have := Int.mul_le_mul_of_nonneg_right hp (show 0 ≤ k by omega)
    omega
  have kd : k ∣ P := ⟨p, by rw [hk, Int.mul_comm]⟩
  obtain ⟨r1, r2⟩ := closed_red h.res (by omega) kd c
  refine ⟨by omega, k2, r1, Int.dvd_trans kd h.dvd, fun x => (r2 x).trans (h.same x), Nat.le_trans (List.length_filter_le _ _) h.len, fun q hm hc => h.done q hm ?_⟩
  obtain ⟨⟨j, hj⟩, c2⟩ := hc
  have q2 := hq q hm
  have ej : k / q = j := by rw [hj]; exact Int.mul_ediv_cancel_left j (by omega)
  rw [ej] at c2
  have hPj : P = q * (p * j) := by rw [hk, hj, ← Int.mul_assoc, Int.mul_comm p q, Int.mul_assoc]
  refine ⟨⟨p * j, hPj⟩, ?_⟩
  rw [show P / q = p * j by rw [hPj]; exact Int.mul_ediv_cancel_left _ (by omega)]
  refine (closed_iff h.res).mpr fun x hx => ?_
  have := closed_mul r1 c2 p.toNat ((r2 x).mpr hx)
  rw [Int.toNat_of_nonneg (by omega)] at this
  exact (r2 _).mp this
theorem Shr.mini {P0 P : Int} {ns0 ns ps : List Int} (h : Shr P0 ns0 ps P ns) (hp : PrimesOf P0 ps) : Mini P ns := by
  intro t t1 t2 td c
  obtain ⟨k, hk⟩ := id td
  have hP := h.res.1
  have k2 : 2 ≤ k := by
    rcases (by omega : k ≤ 0 ∨ k = 1 ∨ 2 ≤ k) with w | w | w
    · have : t * k ≤ 0 := Int.mul_nonpos_of_nonneg_of_nonpos (by omega) w
      omega
    · rw [w] at hk; omega
    · exact w
  obtain ⟨q, hq, j, hj⟩ := pr_ex k.toNat k2 (Nat.le_refl _)
  have q2 := hq.1
  have hPj : P = q * (t * j) := by rw [hk, hj, ← Int.mul_assoc, Int.mul_comm t q, Int.mul_assoc]
  have j1 : 0 ≤ j := by
    rcases Int.lt_or_le j 0 with w | w
    · have : q * j ≤ 0 := Int.mul_nonpos_of_nonneg_of_nonpos (by omega) (by omega)
      omega
    · exact w
  refine h.done q ((hp.2 q).mpr ⟨hq, Int.dvd_trans ⟨t * j, hPj⟩ h.dvd⟩) ⟨⟨t * j, hPj⟩, ?_⟩
  rw [show P / q = t * j by rw [hPj]; exact Int.mul_ediv_cancel_left _ (by omega)]
  refine (closed_iff h.res).mpr fun x hx => ?_
  have := closed_mul h.res c j.toNat hx
  rw [Int.toNat_of_nonneg j1, Int.mul_comm] at this
  exact this
def mapB (f : Int → Bool) : D → Option D
  | .int n => some (.bl (f n))
  | _ => none
theorem mapB_map (f : Int → Bool) : ∀ ns : List Int, (ns.map D.int).filterMap (mapB f) = (ns.map f).map D.bl
  | [] => rfl
  | n :: ns => by
    rw [List.map_cons, List.filterMap_cons, List.map_cons, mapB_map f ns]
    rfl
/-- what a comprehension over rows of data makes -/
def mapD (f : D → D) : D → Option D := fun d => some (f d)
theorem mapD_map {α : Type} {g : α → D} {f : D → D} : ∀ xs : List α, (xs.map g).filterMap (mapD f) = xs.map fun x => f (g x)
  | [] => rfl
  | x :: xs => by
    rw [List.map_cons, List.filterMap_cons, List.map_cons, mapD_map xs]
    rfl
theorem plAnyBl {a : Bool} : ∀ bs : List Bool, ((bs.map D.bl).any fun x => deq x (.bl a)) = decide (a ∈ bs)
  | [] => by simp
  | b :: bs => by
    rw [List.map_cons, List.any_cons, plAnyBl bs, deq_bl, Bool.eq_iff_iff]
    simp only [Bool.or_eq_true, decide_eq_true_eq, List.mem_cons]
    rw [show (b = a) = (a = b) from propext ⟨Eq.symm, Eq.symm⟩]
theorem ckAl_bls {n : Nat} {bs : List Bool} : CkAl n (bs.map D.bl) := fun d h => by
  obtain ⟨b, _, rfl⟩ := List.mem_map.mp h
  exact ck_bl
theorem cutL1 {d : D} {ds : List D} : cutL (d :: ds) (some 1) none = ds := by
  have e1 : HT.sIx (d :: ds).length 0 (some 1) = 1 := by
    unfold HT.sIx
    simp
  have e2 : HT.sIx (d :: ds).length (d :: ds).length none = (d :: ds).length := rfl
  unfold cutL
  rw [e1, e2]
  simp
theorem atI_snoc {ds : List D} {d : D} : atI (ds ++ [d]) (-1) = some d := by
  unfold atI ixN
  rw [List.length_append, List.length_singleton]
  simp only [show ¬ (0 : Int) ≤ -1 by omega, if_false]
  rw [if_pos (by omega), show (-1 + ((ds.length + 1 : Nat) : Int)).toNat = ds.length by omega]
  simp
/-- an item of a row -/
theorem at_map {α : Type} {g : α → D} {xs : List α} {i : Int} {x : α} (h0 : 0 ≤ i) (h : xs[i.toNat]? = some x) : atI (xs.map g) i = some (g x) := atI_nn h0 (by rw [List.getElem?_map, h]; rfl)
theorem map_get {α : Type} {g : α → D} {xs : List α} {i : Nat} {d : D} (h : (xs.map g)[i]? = some d) : ∃ x, xs[i]? = some x ∧ d = g x := by
  rw [List.getElem?_map] at h
  cases e : xs[i]? with
  | none => rw [e] at h; cases h
  | some x => rw [e] at h; exact ⟨x, rfl, (Option.some.inj h).symm⟩
/-- what a comprehension over range(n) makes -/
def rngF (f : Nat → D) : D → Option D
  | .int k => some (f k.toNat)
  | _ => none
theorem rngF_map {f : Nat → D} {n : Int} : (rangeL 0 n).filterMap (rngF f) = (List.range n.toNat).map f := by
  unfold rangeL
  rw [List.filterMap_map, Int.sub_zero]
  rw [← List.filterMap_eq_map]
  congr 1
  funext k
  simp [rngF]
/-- the rows that a comprehension goes through, apart -/
theorem eLc_k {qi : QA} {g : QG} {qt : QT} {qe : QE} {vs : List Nat} {ρ : Ev} {M : Mu} {Q : Sl → Ev → Mu → Prop}
    (h : ∀ N : List D → Ev → Mu → Prop, (∀ ds ρ1 M1, eLc (fun ρ M Q => Q ds ρ M) g qt qe vs ρ1 M1 Q → N ds ρ1 M1) → qi ρ M N) : eLc qi g qt qe vs ρ M Q :=
  h _ fun _ _ _ w => w
/-- a test's answer, apart -/
theorem sIf_k {c : QT} {t u : QS} {D' : QK} {ρ : Ev} {M : Mu} (h : ∀ N : Bool → Ev → Mu → Prop, (∀ b ρ M, (if b = true then t D' ρ M else u D' ρ M) → N b ρ M) → c ρ M N) : sIf c t u D' ρ M := h _ fun _ _ _ w => w
theorem snoc_of {α : Type} {xs : List α} (h : 0 < xs.length) : ∃ ys y, xs = ys ++ [y] := by
  rcases List.eq_nil_or_concat xs with rfl | ⟨ys, y, e⟩
  · simp at h
  · exact ⟨ys, y, by rw [e, List.concat_eq_append]⟩
/-- a comprehension told by a property of what is gathered -/
theorem eLc_inv {β : Type} (g' : β → D) (I : Nat → List β → Prop) {qi : QA} {g : QG} {qt : QT} {qe : QE} {vs : List Nat} {ρ0 : Ev} {M0 : Mu} {Q : Sl → Ev → Mu → Prop} (ds : List D) (ρ : Ev) (M : Mu)
    (hq : ∀ Q : List D → Ev → Mu → Prop, Q ds ρ M → qi ρ0 M0 Q) (hv : notOw ρ vs = true) (h0 : I 0 [])
    (hs : ∀ (i : Nat) (d : D) (bs : List β) (J : List D → Mu → Prop), ds[i]? = some d → I i bs → (∀ cs, I (i + 1) cs → J (cs.map g') M) → g d (wipeE ρ vs) fun ρ2 => wipeE ρ2 vs = wipeE ρ vs ∧ qt ρ2 M fun b ρ3 M3 => ρ3 = ρ2 ∧
      (if b = true then qe ρ3 M3 fun r ρ4 M4 => ρ4 = ρ3 ∧ (bs.map g').length < 16777216 ∧ J (bs.map g' ++ [r.val]) M4 else J (bs.map g') M3))
    (hk : ∀ bs : List β, I ds.length bs → Q (.ow (.lst (bs.map g'))) ρ M) : eLc qi g qt qe vs ρ0 M0 Q := by
  refine hq _ ⟨hv, fun i acc M' => M' = M ∧ ∃ bs : List β, acc = bs.map g' ∧ I i bs, ⟨rfl, [], rfl, h0⟩, ?_, ?_⟩
  · rintro i d acc M' hd ⟨rfl, bs, rfl, hI⟩
    exact hs i d bs (fun acc M2 => M2 = M' ∧ ∃ bs : List β, acc = bs.map g' ∧ I (i + 1) bs) hd hI fun cs hc => ⟨rfl, cs, rfl, hc⟩
  · rintro acc M' ⟨rfl, bs, rfl, hI⟩
    exact hk bs hI
theorem len_of_sub {α : Type} [DecidableEq α] : ∀ {as bs : List α}, as.Nodup → (∀ x ∈ as, x ∈ bs) → as.length ≤ bs.length
  | [], _, _, _ => Nat.zero_le _
  | a :: as, bs, h, hs => by
    obtain ⟨h1, h2⟩ := List.nodup_cons.mp h
    have ha := hs a List.mem_cons_self
    have := len_of_sub (as := as) (bs := bs.erase a) h2 fun x hx => (List.mem_erase_of_ne (fun e => h1 (by rw [← e]; exact hx))).mpr (hs x (List.mem_cons_of_mem _ hx))
    rw [List.length_erase_of_mem ha] at this
    have := List.length_pos_of_mem ha
    rw [List.length_cons]
    omega

def p_repeats : PSp := fun ds M Q _ => match ds with
  | [.int P, .tup xs, .int t] => ∃ ns : List Int, xs = ns.map D.int ∧ (Res P ns ∧ 1 ≤ t ∧ t ∣ P ∧ P < 1267650600228229401496703205376 ∧ ns.length < 4000) ∧ Q (.va (.bl (decide (Closed P ns t)))) M
  | _ => False


def p_spread : PSp := fun ds M Q _ => match ds with
  | [.int p, .tup xs, .int l] => ∃ ns : List Int, xs = ns.map D.int ∧ (0 < p ∧ p < 1000000000 ∧ 0 ≤ l ∧ l < 1000000000000 ∧ l / p * ns.length ≤ 200000) ∧ Q (.va (.tup ((spreadL p ns (l / p).toNat).map D.int))) M
  | _ => False

def p_by_class : PSp := fun ds M Q _ => match ds with
  | [.tup xs, .int c] => ∃ ns : List Int, xs = ns.map D.int ∧ 0 < c ∧ ns.length < 16777216 ∧
    ∀ ks : List Int, ks.Nodup → (∀ k, k ∈ ks ↔ ∃ r ∈ ns, r % c = k) → Q (.va (.dic (ks.map Sum.inl) (ks.map fun k => .lst ((ns.filter fun r => r % c = k).map D.int)))) M
  | _ => False

/-- a piece of a pattern: its start, its period, its residues -/
abbrev Pc := Int × Int × List Int
def kdD (k : Int × List Int) : D := .tup [.int k.1, .tup (k.2.map D.int)]
def pcD (p : Pc) : D := .tup [.int p.1, .int p.2.1, .tup (p.2.2.map D.int)]
abbrev KdOk (k : Int × List Int) : Prop := Res k.1 k.2 ∧ k.1 < 1000000000 ∧ k.2.length < 4000
def inPc (p : Pc) (d : Int) : Bool := decide (d % p.2.1 ∈ p.2.2)
/-- the days of a row of pieces: what the last piece that has begun tells -/
def patB (ps : List Pc) (d : Int) : Bool := ps.foldl (fun f p => if p.1 ≤ d then inPc p d else f) false
theorem patB_snoc {ps : List Pc} {p : Pc} {d : Int} : patB (ps ++ [p]) d = if p.1 ≤ d then inPc p d else patB ps d := by
  unfold patB
  rw [List.foldl_append]
  rfl
/-- ascending from 0 on -/
structure PatOk (ps : List Pc) : Prop where
  hd : ∃ k r, ps = (0, k) :: r
  asc : ps.Pairwise fun a b => a.1 < b.1
  ok : ∀ p ∈ ps, KdOk p.2
structure Tidy (ps : List Pc) : Prop extends PatOk ps where
  mini : ∀ p ∈ ps, Mini p.2.1 p.2.2
  adj : ∀ (k : Nat) a b, ps[k]? = some a → ps[k + 1]? = some b → a.2 ≠ b.2
/-- each piece begins as one of the others, and is no longer -/
def TdSub (ps fs : List Pc) : Prop := ∀ f ∈ fs, ∃ p ∈ ps, f.1 = p.1 ∧ f.2.1 ≤ p.2.1 ∧ f.2.2.length ≤ p.2.2.length
/-- some of the pieces are tidied -/
structure TdInv (ps fs : List Pc) : Prop where
  ne : ps ≠ [] → fs ≠ []
  hd : ∀ k r, ps = (0, k) :: r → ∃ k' r', fs = (0, k') :: r'
  asc : fs.Pairwise fun a b => a.1 < b.1
  below : TdSub ps fs
  ok : ∀ p ∈ fs, KdOk p.2
  mini : ∀ p ∈ fs, Mini p.2.1 p.2.2
  adj : ∀ (k : Nat) a b, fs[k]? = some a → fs[k + 1]? = some b → a.2 ≠ b.2
  same : ∀ d, patB fs d = patB ps d
  len : fs.length ≤ ps.length
theorem TdInv.start : TdInv [] [] := ⟨fun h => h, fun _ _ h => (by cases h), by simp, by simp [TdSub], by simp, by simp, by simp, fun _ => rfl, Nat.le_refl _⟩
theorem TdInv.add {ps fs : List Pc} {s P P' : Int} {ns ns' : List Int} (h : TdInv ps fs) (hs : ∀ p ∈ ps, p.1 < s) (hk : KdOk (P', ns')) (hm : Mini P' ns') (e : ∀ x, x % P' ∈ ns' ↔ x % P ∈ ns)
    (hl : ∀ gs l, fs = gs ++ [l] → l.2 ≠ (P', ns')) (hle : P' ≤ P) (hll : ns'.length ≤ ns.length) : TdInv (ps ++ [(s, P, ns)]) (fs ++ [(s, P', ns')]) := by
  refine ⟨by simp, fun k r hr => ?_, ?_, fun f hf => ?_, fun p hp => ?_, fun p hp => ?_, fun k a b ha hb => ?_, fun d => ?_, by simp [h.len]⟩
  · cases ps with
    | nil =>
      cases fs with
      | nil =>
        simp only [List.nil_append, List.cons.injEq, Prod.mk.injEq] at hr
        exact ⟨(P', ns'), [], by simp [hr.1.1]⟩
      | cons f fs => exact absurd h.len (by simp)
    | cons p ps =>
      simp only [List.cons_append, List.cons.injEq] at hr
      obtain ⟨k', r', e'⟩ := h.hd k ps (by rw [hr.1])
      exact ⟨k', r' ++ [(s, P', ns')], by rw [e']; rfl⟩
  · refine List.pairwise_append.mpr ⟨h.asc, by simp, fun a ha b hb => ?_⟩
    rw [List.mem_singleton.mp hb]
    obtain ⟨p, hp, e⟩ := h.below a ha
    have := hs p hp
    show a.1 < s
    omega
  · rcases List.mem_append.mp hf with w | w
    · obtain ⟨p, hp, e⟩ := h.below f w
      exact ⟨p, List.mem_append_left _ hp, e⟩
    · rw [List.mem_singleton.mp w]
      exact ⟨(s, P, ns), List.mem_append_right _ (by simp), rfl, hle, hll⟩
  · rcases List.mem_append.mp hp with w | w
    · exact h.ok p w
    · rw [List.mem_singleton.mp w]; exact hk
  · rcases List.mem_append.mp hp with w | w
    · exact h.mini p w
    · rw [List.mem_singleton.mp w]; exact hm
  · by_cases c : k + 1 < fs.length
    · rw [List.getElem?_append_left (by omega)] at ha
      rw [List.getElem?_append_left c] at hb
      exact h.adj k a b ha hb
    · by_cases c2 : k + 1 = fs.length
      · rw [List.getElem?_append_left (by omega)] at ha
        rw [List.getElem?_append_right (by omega), c2, Nat.sub_self] at hb
        cases hb
        have hne : fs ≠ [] := by rintro rfl; simp at c2
        have e1 := List.dropLast_concat_getLast hne
        have e2 : fs.getLast hne = a := by
          rw [List.getLast_eq_getElem hne]
          obtain ⟨q1, q2⟩ := List.getElem?_eq_some_iff.mp ha
          rw [← q2]
          congr 1
          omega
        rw [e2] at e1
        exact hl _ _ e1.symm
      · rw [List.getElem?_append_right (by omega)] at hb
        have : k + 1 - fs.length ≥ 1 := by omega
        rw [List.getElem?_eq_none (by simpa using this)] at hb
        cases hb
  · rw [patB_snoc, patB_snoc, h.same d]
    show (if s ≤ d then decide (d % P' ∈ ns') else _) = if s ≤ d then decide (d % P ∈ ns) else _
    rw [decide_eq_decide.mpr (e d)]
theorem TdInv.skip {ps gs : List Pc} {l : Pc} {s P : Int} {ns : List Int} (h : TdInv ps (gs ++ [l])) (hs : ∀ p ∈ ps, p.1 < s) (e : ∀ x, x % l.2.1 ∈ l.2.2 ↔ x % P ∈ ns) : TdInv (ps ++ [(s, P, ns)]) (gs ++ [l]) := by
  refine ⟨by simp, fun k r hr => ?_, h.asc, fun f hf => ?_, h.ok, h.mini, h.adj, fun d => ?_, by have := h.len; simp at this ⊢; omega⟩
  · cases ps with
    | nil => exact absurd h.len (by simp)
    | cons p ps =>
      simp only [List.cons_append, List.cons.injEq] at hr
      exact h.hd k ps (by rw [hr.1])
  · obtain ⟨p, hp, e⟩ := h.below f hf
    exact ⟨p, List.mem_append_left _ hp, e⟩
  · rw [patB_snoc (ps := ps), ← h.same d, patB_snoc (ps := gs)]
    obtain ⟨p, hp, e2⟩ := h.below l (by simp)
    have := hs p hp
    show _ = if s ≤ d then decide (d % P ∈ ns) else _
    by_cases c : s ≤ d
    · rw [if_pos c, if_pos (by omega)]
      exact decide_eq_decide.mpr (e d)
    · rw [if_neg c]
theorem TdInv.tidy {ps fs : List Pc} (h : TdInv ps fs) (hp : ∃ k r, ps = (0, k) :: r) : Tidy fs :=
  { hd := let ⟨k, r, e⟩ := hp; h.hd k r e, asc := h.asc, ok := h.ok, mini := h.mini, adj := h.adj }
theorem asc_take {ps : List Pc} (h : ps.Pairwise fun a b => a.1 < b.1) {i : Nat} {p : Pc} (e : ps[i]? = some p) : ∀ q ∈ ps.take i, q.1 < p.1 := by
  intro q hq
  obtain ⟨j, hj, rfl⟩ := List.mem_iff_getElem.mp hq
  obtain ⟨hi, rfl⟩ := List.getElem?_eq_some_iff.mp e
  rw [List.getElem_take]
  rw [List.length_take] at hj
  exact List.pairwise_iff_getElem.mp h j i (by omega) hi (by omega)
/-- from a day on, behind the start of the last piece that has begun -/
theorem patB_at : ∀ {ps : List Pc} {k : Nat} {p : Pc} {d : Int}, ps.Pairwise (fun a b => a.1 < b.1) → ps[k]? = some p → p.1 ≤ d → (∀ q, ps[k + 1]? = some q → d < q.1) → patB ps d = inPc p d := by
  intro ps k p d hA hk h1 h2
  have hlt := (List.getElem?_eq_some_iff.mp hk).1
  have e : ps = ps.take (k + 1) ++ ps.drop (k + 1) := (List.take_append_drop _ _).symm
  have hdrop : ∀ q ∈ ps.drop (k + 1), d < q.1 := by
    intro q hq
    obtain ⟨j, hj, rfl⟩ := List.mem_iff_getElem.mp hq
    rw [List.length_drop] at hj
    rw [List.getElem_drop]
    have h3 := h2 ps[k + 1] (List.getElem?_eq_getElem (by omega))
    rcases Nat.eq_zero_or_pos j with z | z
    · subst z; exact h3
    · have := List.pairwise_iff_getElem.mp hA (k + 1) (k + 1 + j) (by omega) (by omega) (by omega)
      omega
  have skip : ∀ (qs : List Pc) (b : Bool), (∀ q ∈ qs, d < q.1) → qs.foldl (fun f p => if p.1 ≤ d then inPc p d else f) b = b := by
    intro qs
    induction qs with
    | nil => intro b _; rfl
    | cons q qs ih =>
      intro b hq
      have := hq q List.mem_cons_self
      rw [List.foldl_cons, if_neg (by omega)]
      exact ih b fun r hr => hq r (List.mem_cons_of_mem _ hr)
  unfold patB
  rw [e, List.foldl_append, skip _ _ hdrop, List.take_add_one, hk, Option.toList_some, List.foldl_append]
  show (if p.1 ≤ d then inPc p d else _) = _
  rw [if_pos h1]
/-- before the first start there is no day -/
theorem patB_neg {ps : List Pc} (h : PatOk ps) {d : Int} (hd : d < 0) : patB ps d = false := by
  have h0 : ∀ p ∈ ps, 0 ≤ p.1 := by
    obtain ⟨k, r, rfl⟩ := h.hd
    intro p hp
    rcases List.mem_cons.mp hp with rfl | w
    · exact Int.le_refl _
    · have : (0 : Int) < p.1 := (List.pairwise_cons.mp h.asc).1 p w
      omega
  have : ∀ (qs : List Pc), (∀ q ∈ qs, 0 ≤ q.1) → qs.foldl (fun f p => if p.1 ≤ d then inPc p d else f) false = false := by
    intro qs
    induction qs with
    | nil => intro _; rfl
    | cons q qs ih =>
      intro hq
      have := hq q List.mem_cons_self
      rw [List.foldl_cons, if_neg (by omega)]
      exact ih fun r hr => hq r (List.mem_cons_of_mem _ hr)
  exact this ps h0
theorem pcD_eq {s P : Int} {ns : List Int} : pcD (s, P, ns) = .tup [.int s, .int P, .tup (ns.map D.int)] := rfl
/-- pieces told one behind the other, the next one from s on -/
def PcInv (ps : List Pc) (s : Int) : Prop := (ps = [] ∧ s = 0) ∨ (PatOk ps ∧ ∀ p ∈ ps, p.1 < s)
theorem PcInv.add {ps : List Pc} {s t u : Int} {k : Int × List Int} (h : PcInv ps s) (hk : KdOk k) (h1 : s ≤ t) (h2 : t < u) (h3 : ps = [] → t = 0) : PatOk (ps ++ [(t, k)]) ∧ PcInv (ps ++ [(t, k)]) u := by
  have a : PatOk (ps ++ [(t, k)]) := by
    rcases h with ⟨rfl, rfl⟩ | ⟨h, hb⟩
    · have := h3 rfl
      subst this
      exact ⟨⟨_, _, rfl⟩, by simp, by simpa using hk⟩
    · refine ⟨?_, List.pairwise_append.mpr ⟨h.asc, by simp, fun a ha b hb2 => ?_⟩, fun p hp => ?_⟩
      · obtain ⟨k', r, rfl⟩ := h.hd
        exact ⟨k', r ++ [(t, k)], rfl⟩
      · rw [List.mem_singleton.mp hb2]
        have := hb a ha
        show a.1 < t
        omega
      · rcases List.mem_append.mp hp with w | w
        · exact h.ok p w
        · rw [List.mem_singleton.mp w]; exact hk
  refine ⟨a, .inr ⟨a, fun p hp => ?_⟩⟩
  rcases List.mem_append.mp hp with w | w
  · rcases h with ⟨rfl, rfl⟩ | ⟨h, hb⟩
    · cases w
    · have := hb p w
      omega
  · rw [List.mem_singleton.mp w]; exact h2
theorem PatOk.pos {ps : List Pc} (h : PatOk ps) : ∀ p ∈ ps, 0 < p.2.1 ∧ p.2.1 < 1000000000 := fun p hp => ⟨(h.ok p hp).1.1, (h.ok p hp).2.1⟩
/-- what windows tells of a pattern -/
def endI (ps : List Pc) (k : Nat) : D := match ps[k + 1]? with | some q => .int q.1 | none => .non
def winI (ps : List Pc) (k : Nat) : D := .tup [.int (ps.getD k (0, 1, [])).1, endI ps k, kdD (ps.getD k (0, 1, [])).2]
def winD (ps : List Pc) : List D := (List.range ps.length).map (winI ps)
theorem winD_get {ps : List Pc} {i : Nat} {d : D} (h : (winD ps)[i]? = some d) : ∃ s P ns, ps[i]? = some (s, P, ns) ∧
    ((∃ q, ps[i + 1]? = some q ∧ d = .tup [.int s, .int q.1, .tup [.int P, .tup (ns.map D.int)]]) ∨ (i + 1 = ps.length ∧ ps[i + 1]? = none ∧ d = .tup [.int s, .non, .tup [.int P, .tup (ns.map D.int)]])) := by
  obtain ⟨h1, h2⟩ := List.getElem?_eq_some_iff.mp h
  have hlt : i < ps.length := by simpa [winD] using h1
  obtain ⟨p, hp⟩ : ∃ p, ps[i]? = some p := ⟨_, List.getElem?_eq_getElem hlt⟩
  obtain ⟨s, P, ns⟩ := p
  have e : winI ps i = d := by
    unfold winD at h
    rw [List.getElem?_map, List.getElem?_range hlt] at h
    exact Option.some.inj h
  refine ⟨s, P, ns, hp, ?_⟩
  by_cases c : i + 1 < ps.length
  · obtain ⟨q, hq⟩ : ∃ q, ps[i + 1]? = some q := ⟨_, List.getElem?_eq_getElem c⟩
    refine .inl ⟨q, hq, ?_⟩
    rw [← e]
    simp [winI, endI, hq, List.getD, hp, kdD]
  · have hn : ps[i + 1]? = none := List.getElem?_eq_none (by omega)
    refine .inr ⟨by omega, hn, ?_⟩
    rw [← e]
    simp [winI, endI, hn, List.getD, hp, kdD]
theorem winD_len {ps : List Pc} : (winD ps).length = ps.length := by simp [winD]

def p_windows : PSp := fun ds M Q _ => match ds with
  | [.tup xs] => ∃ ps : List Pc, xs = ps.map pcD ∧ ps.length < 1000000 ∧ Q (.ow (.lst (winD ps))) M
  | _ => False

theorem rgI_split {a b c : Int} (h1 : a ≤ b) (h2 : b ≤ c) : rgI a c = rgI a b ++ rgI b c := by
  refine asc_ext asc_rgI ?_ fun k => ?_
  · refine List.pairwise_append.mpr ⟨asc_rgI, asc_rgI, fun x hx y hy => ?_⟩
    have := rgI_mem.mp hx
    have := rgI_mem.mp hy
    omega
  · rw [List.mem_append, rgI_mem, rgI_mem, rgI_mem]
    omega
/-- how many numbers from a on, below b -/
def cntF (f : Int → Bool) (a b : Int) : Int := (((rgI a b).filter f).length : Nat)
theorem cntF_nil {f : Int → Bool} {a b : Int} (h : b ≤ a) : cntF f a b = 0 := by unfold cntF; rw [rgI_nil h]; rfl
theorem cntF_split {f : Int → Bool} {a b c : Int} (h1 : a ≤ b) (h2 : b ≤ c) : cntF f a c = cntF f a b + cntF f b c := by
  unfold cntF
  rw [rgI_split h1 h2, List.filter_append, List.length_append]
  omega
theorem cntF_congr {f g : Int → Bool} {a b : Int} (h : ∀ x, a ≤ x → x < b → f x = g x) : cntF f a b = cntF g a b := by
  unfold cntF
  rw [List.filter_congr fun x hx => h x (rgI_mem.mp hx).1 (rgI_mem.mp hx).2]
theorem cntF_nn {f : Int → Bool} {a b : Int} : 0 ≤ cntF f a b := Int.natCast_nonneg _
theorem cntF_one {f : Int → Bool} {a : Int} : cntF f a (a + 1) = if f a = true then 1 else 0 := by
  unfold cntF
  rw [rgI_cons (by omega), rgI_nil (by omega), List.filter_cons]
  split <;> simp
theorem cntF_step {f : Int → Bool} {a b : Int} (h : a ≤ b) : cntF f a (b + 1) = cntF f a b + if f b = true then 1 else 0 := by
  rw [cntF_split h (by omega : b ≤ b + 1), cntF_one]
theorem cntF_zero {f : Int → Bool} {a b : Int} (h : ∀ x, a ≤ x → x < b → f x = false) : cntF f a b = 0 := by
  unfold cntF
  rw [List.filter_eq_nil_iff.mpr fun x hx => by rw [h x (rgI_mem.mp hx).1 (rgI_mem.mp hx).2]; simp]
  rfl
theorem cntF_le {f : Int → Bool} {a b c : Int} (h : b ≤ c) : cntF f a b ≤ cntF f a c := by
  by_cases c1 : a ≤ b
  · rw [cntF_split c1 h]
    have := cntF_nn (f := f) (a := b) (b := c)
    omega
  · rw [cntF_nil (by omega)]
    exact cntF_nn
/-- a day counts -/
theorem cntF_lt {f : Int → Bool} {a b d : Int} (h0 : a ≤ d) (h : f d = true) (h1 : d < b) : cntF f a d + 1 ≤ cntF f a b := by
  have := cntF_le (f := f) (a := a) (show d + 1 ≤ b by omega)
  rw [cntF_step h0, if_pos h] at this
  exact this
theorem cntF_inj {f : Int → Bool} {a d e : Int} (h0 : a ≤ d) (h1 : a ≤ e) (hd : f d = true) (he : f e = true) (h : cntF f a d = cntF f a e) : d = e := by
  rcases Int.lt_trichotomy d e with c | c | c
  · have := cntF_lt h0 hd c; omega
  · exact c
  · have := cntF_lt h1 he c; omega
/-- what many_below tells -/
def mbL (P : Int) (ns : List Int) (d : Int) : Int := d / P * ns.length + cntL ns (d % P)
abbrev inP (P : Int) (ns : List Int) : Int → Bool := fun x => decide (x % P ∈ ns)
theorem cntL_step {ns : List Int} (h : Asc ns) {r : Int} : cntL ns (r + 1) = cntL ns r + if r ∈ ns then 1 else 0 := by
  unfold cntL
  induction ns with
  | nil => simp
  | cons n ns ih =>
    have h1 := (List.pairwise_cons.mp h).1
    have ih := ih (List.pairwise_cons.mp h).2
    rw [List.filter_cons, List.filter_cons]
    by_cases c1 : n < r
    · rw [if_pos (by simpa using (show n < r + 1 by omega)), if_pos (by simpa using c1), List.length_cons, List.length_cons]
      have e : (r ∈ n :: ns) ↔ r ∈ ns := by simp; omega
      simp only [e]
      omega
    · by_cases c2 : n = r
      · subst c2
        rw [if_pos (by simp; omega), if_neg (by simp), if_pos List.mem_cons_self, List.length_cons]
        have hn : n ∉ ns := fun w => by have := h1 n w; omega
        rw [if_neg hn] at ih
        omega
      · rw [if_neg (by simpa using (show r + 1 ≤ n by omega)), if_neg (by simpa using c1)]
        have e : (r ∈ n :: ns) ↔ r ∈ ns := by simp; omega
        simp only [e]
        exact ih
theorem cntL_zero {ns : List Int} {r : Int} (h : ∀ n ∈ ns, r ≤ n) : cntL ns r = 0 := by
  unfold cntL
  rw [List.filter_eq_nil_iff.mpr fun n hn => by have := h n hn; simp; omega]
  rfl
theorem cntL_all {ns : List Int} {r : Int} (h : ∀ n ∈ ns, n < r) : cntL ns r = ns.length := by
  unfold cntL
  rw [List.filter_eq_self.mpr fun n hn => by simpa using h n hn]
theorem mbL_step {P : Int} {ns : List Int} (h : Res P ns) {d : Int} : mbL P ns (d + 1) = mbL P ns d + if d % P ∈ ns then 1 else 0 := by
  have hP := h.1
  have e0 := Int.emod_nonneg d (show P ≠ 0 by omega)
  have e1 := Int.emod_lt_of_pos d hP
  have ed := Int.mul_ediv_add_emod d P
  unfold mbL
  by_cases c : d % P + 1 < P
  · have h1 : (d + 1) % P = d % P + 1 := by
      have : (d + 1) = (d % P + 1) + P * (d / P) := by omega
      rw [this, Int.add_mul_emod_self_left, Int.emod_eq_of_lt (by omega) c]
    have h2 : (d + 1) / P = d / P := by
      have : (d + 1) = (d % P + 1) + P * (d / P) := by omega
      rw [this, Int.add_mul_ediv_left _ _ (by omega), Int.ediv_eq_zero_of_lt (by omega) c, Int.zero_add]
    rw [h1, h2, cntL_step h.2.1]
    omega
  · have h1 : (d + 1) % P = 0 := by
      have : (d + 1) = 0 + P * (d / P + 1) := by rw [Int.mul_add]; omega
      rw [this, Int.add_mul_emod_self_left]; rfl
    have h2 : (d + 1) / P = d / P + 1 := by
      have : (d + 1) = 0 + P * (d / P + 1) := by rw [Int.mul_add]; omega
      rw [this, Int.add_mul_ediv_left _ _ (by omega), Int.zero_ediv, Int.zero_add]
    have h3 : cntL ns (d % P + 1) = ns.length := cntL_all fun n hn => by have := h.2.2 n hn; omega
    rw [cntL_step h.2.1] at h3
    rw [h1, h2, cntL_zero fun n hn => (h.2.2 n hn).1, Int.add_mul]
    omega
theorem mbL_cnt {P : Int} {ns : List Int} (h : Res P ns) {a : Int} : ∀ {b : Int}, a ≤ b → mbL P ns b - mbL P ns a = cntF (inP P ns) a b := by
  intro b hb
  obtain ⟨k, rfl⟩ : ∃ k : Nat, b = a + k := ⟨(b - a).toNat, by omega⟩
  clear hb
  induction k with
  | zero => rw [cntF_nil (by omega)]; simp
  | succ k ih =>
    rw [show a + ((k + 1 : Nat) : Int) = a + k + 1 by omega, cntF_step (by omega), mbL_step h]
    have : (inP P ns (a + k) = true) ↔ (a + k) % P ∈ ns := by simp
    simp only [this]
    omega
/-- the residue at a place -/
theorem nth_res {P : Int} {ns : List Int} (h : Res P ns) (hl : 0 < ns.length) (k : Int) : ∃ r, ns[(k % ns.length).toNat]? = some r ∧ (k / ns.length * P + r) % P ∈ ns ∧ mbL P ns (k / ns.length * P + r) = k := by
  have hP := h.1
  have e0 := Int.emod_nonneg k (show (ns.length : Int) ≠ 0 by omega)
  have e1 := Int.emod_lt_of_pos k (show (0 : Int) < ns.length by omega)
  have ed := Int.mul_ediv_add_emod k ns.length
  have hi : (k % ns.length).toNat < ns.length := by omega
  refine ⟨ns[(k % ns.length).toNat], List.getElem?_eq_getElem hi, ?_⟩
  have hm := List.getElem_mem hi
  generalize hr : ns[(k % ns.length).toNat] = r at *
  have hr2 := h.2.2 r hm
  have h1 : (k / ns.length * P + r) % P = r := by rw [Int.add_comm, Int.add_mul_emod_self_right, Int.emod_eq_of_lt hr2.1 hr2.2]
  have h2 : (k / ns.length * P + r) / P = k / ns.length := by rw [Int.add_comm, Int.add_mul_ediv_right _ _ (by omega), Int.ediv_eq_zero_of_lt hr2.1 hr2.2]; omega
  rw [h1]
  refine ⟨hm, ?_⟩
  unfold mbL
  rw [h1, h2]
  have h3 : cntL ns r = ((k % ns.length).toNat : Int) := cntL_at h.2.1 (by omega) (fun i v hi2 hv => Asc.get h.2.1 hi2 hv (by rw [← hr]; exact List.getElem?_eq_getElem hi)) (fun i v hi2 hv => by
    rcases Nat.eq_or_lt_of_le hi2 with e | e
    · subst e
      rw [List.getElem?_eq_getElem hi, hr] at hv
      cases hv
      exact Int.le_refl _
    · have := Asc.get h.2.1 e (show ns[(k % ns.length).toNat]? = some r by rw [← hr]; exact List.getElem?_eq_getElem hi) hv
      omega)
  rw [h3]
  rw [Int.mul_comm] at ed
  omega
/-- the first one from a day on -/
def IsNext (f : Int → Bool) (day : Int) (r : Option Int) : Prop := match r with
  | some d => day ≤ d ∧ f d = true ∧ ∀ x, day ≤ x → x < d → f x = false
  | none => ∀ x, day ≤ x → f x = false
/-- the last one before a day -/
def IsPrev (f : Int → Bool) (day : Int) (r : Option Int) : Prop := match r with
  | some d => d < day ∧ f d = true ∧ ∀ x, d < x → x < day → f x = false
  | none => ∀ x, x < day → f x = false
/-- the one with so many before -/
def IsNth (f : Int → Bool) (k : Int) (r : Option Int) : Prop := match r with
  | some d => 0 ≤ d ∧ f d = true ∧ cntF f 0 d = k
  | none => ∀ d, cntF f 0 d ≤ k
def optD : Option Int → D
  | some d => .int d
  | none => .non
theorem IsNext.uniq {f : Int → Bool} {day : Int} : ∀ {r r' : Option Int}, IsNext f day r → IsNext f day r' → r = r'
  | none, none, _, _ => rfl
  | some d, none, h, k => by have := k d h.1; rw [h.2.1] at this; cases this
  | none, some d, h, k => by have := h d k.1; rw [k.2.1] at this; cases this
  | some d, some e, h, k => by
    rcases Int.lt_trichotomy d e with c | c | c
    · have := k.2.2 d h.1 c; rw [h.2.1] at this; cases this
    · rw [c]
    · have := h.2.2 e k.1 c; rw [k.2.1] at this; cases this
theorem IsPrev.uniq {f : Int → Bool} {day : Int} : ∀ {r r' : Option Int}, IsPrev f day r → IsPrev f day r' → r = r'
  | none, none, _, _ => rfl
  | some d, none, h, k => by have := k d h.1; rw [h.2.1] at this; cases this
  | none, some d, h, k => by have := h d k.1; rw [k.2.1] at this; cases this
  | some d, some e, h, k => by
    rcases Int.lt_trichotomy d e with c | c | c
    · have := h.2.2 e c k.1; rw [k.2.1] at this; cases this
    · rw [c]
    · have := k.2.2 d c h.1; rw [h.2.1] at this; cases this
theorem IsNth.uniq {f : Int → Bool} {k : Int} : ∀ {r r' : Option Int}, IsNth f k r → IsNth f k r' → r = r'
  | none, none, _, _ => rfl
  | some d, none, h, k => by have := k (d + 1); rw [cntF_step h.1, if_pos h.2.1, h.2.2] at this; omega
  | none, some d, h, k => by have := h (d + 1); rw [cntF_step k.1, if_pos k.2.1, k.2.2] at this; omega
  | some d, some e, h, k => by rw [cntF_inj h.1 k.1 h.2.1 k.2.1 (h.2.2.trans k.2.2.symm)]
/-! a pattern's windows -/
theorem PatOk.nn {ps : List Pc} (h : PatOk ps) : ∀ p ∈ ps, 0 ≤ p.1 := by
  obtain ⟨k, r, rfl⟩ := h.hd
  intro p hp
  rcases List.mem_cons.mp hp with rfl | w
  · exact Int.le_refl _
  · have : (0 : Int) < p.1 := (List.pairwise_cons.mp h.asc).1 p w
    omega
theorem PatOk.next {ps : List Pc} (h : PatOk ps) {i : Nat} {p q : Pc} (hp : ps[i]? = some p) (hq : ps[i + 1]? = some q) : p.1 < q.1 := by
  obtain ⟨h1, rfl⟩ := List.getElem?_eq_some_iff.mp hp
  obtain ⟨h2, rfl⟩ := List.getElem?_eq_some_iff.mp hq
  exact List.pairwise_iff_getElem.mp h.asc i (i + 1) h1 h2 (by omega)
theorem PatOk.win {ps : List Pc} (h : PatOk ps) {i : Nat} {s P : Int} {ns : List Int} (hp : ps[i]? = some (s, P, ns)) {d : Int} (h1 : s ≤ d) (h2 : ∀ q, ps[i + 1]? = some q → d < q.1) : patB ps d = inP P ns d := patB_at h.asc hp h1 h2
theorem PatOk.pos0 {ps : List Pc} (h : PatOk ps) : 0 < ps.length := by obtain ⟨k, r, rfl⟩ := h.hd; simp
/-- where the i-th piece begins, at most day -/
def stD (ps : List Pc) (i : Nat) (day : Int) : Int := match ps[i]? with
  | some p => min p.1 day
  | none => day
theorem win_cnt {f : Int → Bool} {P : Int} {ns : List Int} {s u : Int} (h : Res P ns) (hs : s ≤ u) (hw : ∀ x, s ≤ x → x < u → f x = inP P ns x) :
    (u / P * ns.length + cntL ns (u % P)) - (s / P * ns.length + cntL ns (s % P)) = cntF f s u := by
  rw [cntF_congr hw]
  exact mbL_cnt h hs
theorem filt_ext {f : Int → Bool} {a b c : Int} (h : ∀ x, a ≤ x → f x = true → (x < b ↔ x < c)) : (rgI a b).filter f = (rgI a c).filter f := by
  refine asc_ext (asc_rgI.filter _) (asc_rgI.filter _) fun k => ?_
  rw [List.mem_filter, List.mem_filter, rgI_mem, rgI_mem]
  constructor
  · exact fun w => ⟨⟨w.1.1, (h k w.1.1 w.2).mp w.1.2⟩, w.2⟩
  · exact fun w => ⟨⟨w.1.1, (h k w.1.1 w.2).mpr w.1.2⟩, w.2⟩
theorem filt_snoc {f : Int → Bool} {a b : Int} (h : a ≤ b) (hf : f b = true) : (rgI a b).filter f ++ [b] = (rgI a (b + 1)).filter f := by
  rw [rgI_split h (by omega : b ≤ b + 1), List.filter_append, rgI_cons (by omega : b < b + 1), rgI_nil (by omega : b + 1 ≤ b + 1), List.filter_cons, if_pos hf]
  rfl
/-- the first of the days from one on -/
theorem next_of_list {f : Int → Bool} {c b : Int} {d : Int} (h : ((rgI c b).filter f).head? = some d) : IsNext f c (some d) := by
  cases hL : (rgI c b).filter f with
  | nil => rw [hL] at h; cases h
  | cons e l =>
    rw [hL] at h
    cases h
    have hm : d ∈ (rgI c b).filter f := by rw [hL]; exact List.mem_cons_self
    obtain ⟨h1, h2⟩ := List.mem_filter.mp hm
    obtain ⟨h3, h4⟩ := rgI_mem.mp h1
    refine ⟨h3, h2, fun x h5 h6 => ?_⟩
    cases hf : f x with
    | false => rfl
    | true =>
      exfalso
      have hx : x ∈ (rgI c b).filter f := List.mem_filter.mpr ⟨rgI_mem.mpr ⟨by omega, by omega⟩, hf⟩
      have hA : Asc ((rgI c b).filter f) := asc_rgI.filter _
      rw [hL] at hx hA
      rcases List.mem_cons.mp hx with e | w
      · omega
      · have := (List.pairwise_cons.mp hA).1 x w
        omega
/-- there are no days from some day on -/
def FinP (f : Int → Bool) : Prop := ∃ B, ∀ d, B ≤ d → f d = false
theorem pat_last {ps : List Pc} (h : PatOk ps) : ∃ qs s P ns, ps = qs ++ [(s, P, ns)] := by
  rcases List.eq_nil_or_concat ps with rfl | ⟨qs, l, e⟩
  · have := h.pos0; simp at this
  · obtain ⟨s, P, ns⟩ := l
    exact ⟨qs, s, P, ns, by rw [e, List.concat_eq_append]⟩
theorem cmpOk_optD {r : Option Int} : cmpOk (optD r) = true := by cases r <;> rfl
theorem at_head {ns : List Int} (h : 0 < ns.length) : ∃ v, ns.head? = some v ∧ atI (ns.map D.int) 0 = some (.int v) := by
  cases ns with
  | nil => simp at h
  | cons v l => exact ⟨v, rfl, atI0⟩
/-- no list of one's own stands there -/
theorem IsNext.far {f : Int → Bool} {day far : Int} {r : Option Int} (h : IsNext f day r) (hn : ((rgI day far).filter f).length = 0) : ∀ d, r = some d → far ≤ d := by
  rintro d rfl
  by_cases c : far ≤ d
  · exact c
  · have : d ∈ (rgI day far).filter f := List.mem_filter.mpr ⟨rgI_mem.mpr ⟨h.1, by omega⟩, h.2.1⟩
    rw [List.eq_nil_of_length_eq_zero hn] at this
    cases this
theorem IsNext.fin {f : Int → Bool} {day : Int} {r : Option Int} (h : IsNext f day r) : r = none → FinP f := by
  rintro rfl
  exact ⟨day, h⟩
/-! sets of residues put together -/
theorem InvI.ends {a m : Int} (hm : 0 < m) : ∀ (n : Nat) {old new left right : Int}, new.toNat < n → InvI a m old new left right → ∃ y, IsInv a m y
  | 0, _, _, _, _, h, _ => absurd h (Nat.not_lt_zero _)
  | n + 1, old, new, left, right, h, k => by
    by_cases c : 0 < new
    · obtain ⟨h1, h2⟩ := k.step c
      exact InvI.ends hm n (by have := h1.n0; omega) h1
    · obtain rfl : new = 0 := by have := k.n0; omega
      exact ⟨_, k.fin hm⟩
theorem exBoth {a m b n : Int} (hm : 0 < m) (hn : 0 < n) : ∃ r, IsBoth a m b n r := by
  by_cases c : gcdI m n ∣ b - a
  · have hg := gcdI_pos (n := n) hm
    have h1 : 0 < m / gcdI m n := Int.ediv_pos_of_pos_of_dvd hm (by omega) gcdI_l
    have h2 : 0 < n / gcdI m n := Int.ediv_pos_of_pos_of_dvd hn (by omega) gcdI_r
    obtain ⟨y, hy⟩ := InvI.ends (a := m / gcdI m n) h2 _ (Nat.lt_succ_self _) (InvI.start h2)
    exact ⟨_, both_of hm hn c hy⟩
  · exact ⟨none, c⟩
open Classical in
noncomputable def crt (a m b n : Int) : Int := if h : ∃ x, IsBoth a m b n (some x) then h.choose else 0
theorem crt_is {a m b n : Int} (hm : 0 < m) (hn : 0 < n) (hc : gcdI m n ∣ b - a) : IsBoth a m b n (some (crt a m b n)) := by
  obtain ⟨r, hr⟩ := exBoth (a := a) (b := b) hm hn
  cases r with
  | none => exact absurd hc hr
  | some x =>
    have h : ∃ x, IsBoth a m b n (some x) := ⟨x, hr⟩
    unfold crt
    rw [dif_pos h]
    exact h.choose_spec
theorem crt_eq {a m b n : Int} {r : Option Int} (hm : 0 < m) (hn : 0 < n) (hc : gcdI m n ∣ b - a) (h : IsBoth a m b n r) : r = some (crt a m b n) := IsBoth.uniq hm hn h (crt_is hm hn hc)
theorem emod_of_sub {x a m : Int} (h : m ∣ x - a) (h0 : 0 ≤ a) (h1 : a < m) : x % m = a := by
  have := Int.emod_emod_of_dvd x (Int.dvd_refl m)
  obtain ⟨k, hk⟩ := h
  rw [show x = a + m * k by omega, Int.add_mul_emod_self_left, Int.emod_eq_of_lt h0 h1]
theorem dvd_of_emod {a b g : Int} (h : a % g = b % g) : g ∣ b - a := Int.dvd_of_emod_eq_zero (by rw [Int.sub_emod, h, Int.sub_self, Int.zero_emod])
abbrev inR (k : Int × List Int) (x : Int) : Bool := decide (x % k.1 ∈ k.2)
def clsOf (g c : Int) (ns : List Int) : List Int := ns.filter fun r => r % g = c
noncomputable def metB (P Q : Int) (as bs : List Int) : List Int := as.flatMap fun a => bs.map fun b => crt a P b Q
noncomputable def metL (P : Int) (as : List Int) (Q : Int) (bs : List Int) (ks : List Int) : List Int := ks.flatMap fun c => metB P Q (clsOf (gcdI P Q) c as) (clsOf (gcdI P Q) c bs)
theorem metB_len {P Q : Int} {as bs : List Int} : (metB P Q as bs).length = as.length * bs.length := by
  unfold metB
  induction as with
  | nil => simp
  | cons a as ih => rw [List.flatMap_cons, List.length_append, List.length_map, ih, List.length_cons, Nat.succ_mul]; omega
theorem metL_snoc {P Q : Int} {as bs ks : List Int} {c : Int} : metL P as Q bs (ks ++ [c]) = metL P as Q bs ks ++ metB P Q (clsOf (gcdI P Q) c as) (clsOf (gcdI P Q) c bs) := by
  unfold metL
  rw [List.flatMap_append, List.flatMap_singleton]
theorem one_sum {v : Nat} : ∀ {ks : List Int} {x : Int}, ks.Nodup → (ks.map fun c => if x = c then 1 else 0).sum ≤ 1
  | [], _, _ => by simp
  | k :: ks, x, h => by
    obtain ⟨h1, h2⟩ := List.nodup_cons.mp h
    rw [List.map_cons, List.sum_cons]
    by_cases c : x = k
    · have : (ks.map fun c => if x = c then 1 else 0).sum = 0 := by
        subst c
        clear h h2
        induction ks with
        | nil => rfl
        | cons j ks ih =>
          rw [List.map_cons, List.sum_cons, ih (fun w => h1 (List.mem_cons_of_mem _ w)), if_neg (fun w => h1 (by rw [w]; exact List.mem_cons_self))]
      rw [this, if_pos c]
      omega
    · have := one_sum (v := v) (x := x) h2
      rw [if_neg c]
      omega
theorem sum_add {ks : List Int} {f g : Int → Nat} : (ks.map fun c => f c + g c).sum = (ks.map f).sum + (ks.map g).sum := by
  induction ks with
  | nil => rfl
  | cons k ks ih => simp only [List.map_cons, List.sum_cons, ih]; omega
theorem part_len {f : Int → Int} {ks : List Int} (hn : ks.Nodup) : ∀ as : List Int, (ks.map fun c => (as.filter fun r => f r = c).length).sum ≤ as.length
  | [] => by
    have : (ks.map fun c => (([] : List Int).filter fun r => f r = c).length) = ks.map fun _ => 0 := rfl
    rw [this]
    clear hn this
    induction ks with
    | nil => simp
    | cons k ks ih => simpa using ih
  | a :: as => by
    have e : (fun c => ((a :: as).filter fun r => f r = c).length) = fun c => (as.filter fun r => f r = c).length + if f a = c then 1 else 0 := by
      funext c
      by_cases h : f a = c
      · rw [List.filter_cons_of_pos (by simpa using h), if_pos h]; rfl
      · rw [List.filter_cons_of_neg (by simpa using h), if_neg h]; rfl
    rw [e, sum_add]
    have h1 := part_len (f := f) hn as
    have h2 := one_sum (v := 0) (x := f a) hn
    rw [List.length_cons]
    omega
theorem metL_len {P Q : Int} {as bs ks : List Int} (hn : ks.Nodup) : (metL P as Q bs ks).length ≤ as.length * bs.length := by
  have h1 : (metL P as Q bs ks).length ≤ (ks.map fun c => (clsOf (gcdI P Q) c as).length).sum * bs.length := by
    clear hn
    induction ks with
    | nil => simp [metL]
    | cons k ks ih =>
      have e : metL P as Q bs (k :: ks) = metB P Q (clsOf (gcdI P Q) k as) (clsOf (gcdI P Q) k bs) ++ metL P as Q bs ks := by unfold metL; rw [List.flatMap_cons]
      rw [e, List.length_append, metB_len, List.map_cons, List.sum_cons, Nat.add_mul]
      have : (clsOf (gcdI P Q) k bs).length ≤ bs.length := List.length_filter_le _ _
      have := Nat.mul_le_mul_left (clsOf (gcdI P Q) k as).length this
      omega
  exact Nat.le_trans h1 (Nat.mul_le_mul_right _ (part_len (f := fun r => r % gcdI P Q) hn as))
theorem metB_mem {P Q : Int} {as bs : List Int} {x : Int} : x ∈ metB P Q as bs ↔ ∃ a ∈ as, ∃ b ∈ bs, x = crt a P b Q := by
  unfold metB
  rw [List.mem_flatMap]
  constructor
  · rintro ⟨a, ha, h⟩
    obtain ⟨b, hb, e⟩ := List.mem_map.mp h
    exact ⟨a, ha, b, hb, e.symm⟩
  · rintro ⟨a, ha, b, hb, e⟩
    exact ⟨a, ha, List.mem_map.mpr ⟨b, hb, e.symm⟩⟩
theorem cls_mem {g c x : Int} {ns : List Int} : x ∈ clsOf g c ns ↔ x ∈ ns ∧ x % g = c := by unfold clsOf; rw [List.mem_filter]; simp
section
variable {P Q : Int} {as bs : List Int} (hP : Res P as) (hQ : Res Q bs)
include hP hQ
theorem crt_facts {a b c : Int} (ha : a ∈ clsOf (gcdI P Q) c as) (hb : b ∈ clsOf (gcdI P Q) c bs) : 0 ≤ crt a P b Q ∧ crt a P b Q < lcmI P Q ∧ crt a P b Q % P = a ∧ crt a P b Q % Q = b := by
  obtain ⟨a1, a2⟩ := cls_mem.mp ha
  obtain ⟨b1, b2⟩ := cls_mem.mp hb
  obtain ⟨h1, h2, h3, h4⟩ := crt_is (a := a) (b := b) hP.1 hQ.1 (dvd_of_emod (a2.trans b2.symm))
  obtain ⟨p0, p1⟩ := hP.2.2 a a1
  obtain ⟨q0, q1⟩ := hQ.2.2 b b1
  exact ⟨h1, h2, emod_of_sub h3 p0 p1, emod_of_sub h4 q0 q1⟩
theorem metL_mem {ks : List Int} (hk : ∀ k, k ∈ ks ↔ ∃ r ∈ as, r % gcdI P Q = k) {x : Int} : x ∈ metL P as Q bs ks ↔ 0 ≤ x ∧ x < lcmI P Q ∧ x % P ∈ as ∧ x % Q ∈ bs := by
  unfold metL
  rw [List.mem_flatMap]
  constructor
  · rintro ⟨c, _, h⟩
    obtain ⟨a, ha, b, hb, rfl⟩ := metB_mem.mp h
    obtain ⟨h1, h2, h3, h4⟩ := crt_facts hP hQ ha hb
    exact ⟨h1, h2, by rw [h3]; exact (cls_mem.mp ha).1, by rw [h4]; exact (cls_mem.mp hb).1⟩
  · rintro ⟨h1, h2, h3, h4⟩
    have e1 : x % P % gcdI P Q = x % gcdI P Q := Int.emod_emod_of_dvd _ gcdI_l
    have e2 : x % Q % gcdI P Q = x % gcdI P Q := Int.emod_emod_of_dvd _ gcdI_r
    refine ⟨x % gcdI P Q, (hk _).mpr ⟨x % P, h3, e1⟩, metB_mem.mpr ⟨x % P, cls_mem.mpr ⟨h3, e1⟩, x % Q, cls_mem.mpr ⟨h4, e2⟩, ?_⟩⟩
    have hb : IsBoth (x % P) P (x % Q) Q (some x) := ⟨h1, h2, by have := dvd_emod_sub (m := P) (x := x); rw [show x - x % P = -(x % P - x) by omega]; exact Int.dvd_neg.mpr this, by have := dvd_emod_sub (m := Q) (x := x); rw [show x - x % Q = -(x % Q - x) by omega]; exact Int.dvd_neg.mpr this⟩
    exact Option.some.inj (crt_eq hP.1 hQ.1 (dvd_of_emod (e1.trans e2.symm)) hb)
theorem metL_nodup {ks : List Int} (hk : ks.Nodup) : (metL P as Q bs ks).Nodup := by
  unfold metL
  rw [List.Nodup, List.pairwise_flatMap]
  refine ⟨fun c _ => ?_, hk.imp fun {c d} hcd x hx y hy e => ?_⟩
  · unfold metB
    rw [List.pairwise_flatMap]
    have na : (clsOf (gcdI P Q) c as).Nodup := (hP.2.1.imp fun {a b} h => by omega : as.Nodup).sublist List.filter_sublist
    have nb : (clsOf (gcdI P Q) c bs).Nodup := (hQ.2.1.imp fun {a b} h => by omega : bs.Nodup).sublist List.filter_sublist
    refine ⟨fun a ha => ?_, ?_⟩
    · rw [List.pairwise_map]
      refine List.Pairwise.imp_of_mem (fun {b b'} hb hb' hne e => ?_) nb
      have h1 := (crt_facts hP hQ ha hb).2.2.2
      have h2 := (crt_facts hP hQ ha hb').2.2.2
      rw [e] at h1
      exact hne (h1.symm.trans h2)
    · refine List.Pairwise.imp_of_mem (fun {a a'} ha ha' hne x hx y hy e => ?_) na
      obtain ⟨b, hb, rfl⟩ := List.mem_map.mp hx
      obtain ⟨b', hb', rfl⟩ := List.mem_map.mp hy
      have h1 := (crt_facts hP hQ ha hb).2.2.1
      have h2 := (crt_facts hP hQ ha' hb').2.2.1
      rw [e] at h1
      exact hne (h1.symm.trans h2)
  · obtain ⟨a, ha, b, hb, rfl⟩ := metB_mem.mp hx
    obtain ⟨a', ha', b', hb', rfl⟩ := metB_mem.mp hy
    have h1 := (crt_facts hP hQ ha hb).2.2.1
    have h2 := (crt_facts hP hQ ha' hb').2.2.1
    rw [e] at h1
    exact hcd ((cls_mem.mp ha).2.symm.trans (by rw [h1.symm.trans h2]; exact (cls_mem.mp ha').2))
end
theorem emodL {P Q x : Int} : x % lcmI P Q % P = x % P := Int.emod_emod_of_dvd _ lcmI_l
theorem emodR {P Q x : Int} (hP : 0 < P) : x % lcmI P Q % Q = x % Q := Int.emod_emod_of_dvd _ (lcmI_r hP)
theorem metS_of {P Q : Int} {as bs ks ms : List Int} (hP : Res P as) (hQ : Res Q bs) (hn : ks.Nodup) (hk : ∀ k, k ∈ ks ↔ ∃ r ∈ as, r % gcdI P Q = k) (hp : ms.Perm (metL P as Q bs ks)) (hs : ms.Pairwise (· ≤ ·)) :
    Res (lcmI P Q) ms ∧ ms.length ≤ as.length * bs.length ∧ ∀ x, x % lcmI P Q ∈ ms ↔ x % P ∈ as ∧ x % Q ∈ bs := by
  have hL := lcmI_pos hP.1 hQ.1
  have hm : ∀ x, x ∈ ms ↔ 0 ≤ x ∧ x < lcmI P Q ∧ x % P ∈ as ∧ x % Q ∈ bs := fun x => by rw [hp.mem_iff, metL_mem hP hQ hk]
  refine ⟨⟨hL, asc_of hs (hp.nodup_iff.mpr (metL_nodup hP hQ hn)), fun r hr => ⟨((hm r).mp hr).1, ((hm r).mp hr).2.1⟩⟩, by rw [hp.length_eq]; exact metL_len hn, fun x => ?_⟩
  rw [hm, emodL, emodR hP.1]
  have := Int.emod_nonneg x (show lcmI P Q ≠ 0 by omega)
  have := Int.emod_lt_of_pos x hL
  constructor
  · exact fun h => ⟨h.2.2.1, h.2.2.2⟩
  · exact fun h => ⟨by omega, by omega, h.1, h.2⟩
theorem spread_mem {P L : Int} {ns : List Int} (h : Res P ns) (hd : P ∣ L) (hL : 0 < L) {x : Int} : x ∈ spreadL P ns (L / P).toNat ↔ 0 ≤ x ∧ x < L ∧ x % P ∈ ns := by
  have e : P * ((L / P).toNat : Int) = L := by
    have : 0 ≤ L / P := Int.ediv_nonneg (by omega) (by have := h.1; omega)
    rw [Int.toNat_of_nonneg this]
    exact Int.mul_ediv_cancel' hd
  rw [spreadL_mem h, e]
theorem lcm_eq {m n : Int} (hm : 0 < m) (hn : 0 < n) : ((m.natAbs.lcm n.natAbs : Nat) : Int) = lcmI m n := by
  obtain ⟨M, rfl⟩ := Int.eq_ofNat_of_zero_le (show 0 ≤ m by omega)
  obtain ⟨N, rfl⟩ := Int.eq_ofNat_of_zero_le (show 0 ≤ n by omega)
  unfold lcmI gcdI
  rw [Int.natAbs_natCast, Int.natAbs_natCast, ← Int.natCast_ediv, ← Int.natCast_mul]
  congr 1
  unfold Nat.lcm
  rw [Nat.mul_div_assoc _ (Nat.gcd_dvd_right M N)]
theorem gcd_eq {m n : Int} : ((m.natAbs.gcd n.natAbs : Nat) : Int) = gcdI m n := rfl
theorem lookD_map {f : Int → D} {k : Int} : ∀ {ks : List Int}, k ∈ ks → lookD (ks.map Sum.inl) (ks.map f) (.inl k) = some (f k)
  | j :: ks, h => by
    rw [List.map_cons, List.map_cons, lookD]
    by_cases c : j = k
    · rw [if_pos (by rw [c]), c]
    · rw [if_neg (fun w => c (Sum.inl.inj w))]
      rcases List.mem_cons.mp h with w | w
      · exact absurd w.symm c
      · exact lookD_map w
theorem lookD_map0 {f : Int → D} {k : Int} : ∀ {ks : List Int}, k ∉ ks → lookD (ks.map Sum.inl) (ks.map f) (.inl k) = none
  | [], _ => rfl
  | j :: ks, h => by
    rw [List.map_cons, List.map_cons, lookD, if_neg (fun w => h (by rw [← Sum.inl.inj w]; exact List.mem_cons_self))]
    exact lookD_map0 fun w => h (List.mem_cons_of_mem _ w)
theorem keyD_ints {ks : List Int} : (ks.map Sum.inl).map keyD = ks.map D.int := by rw [List.map_map]; rfl
noncomputable def crtD (a P Q : Int) : D → Option D
  | .int b => some (.int (crt a P b Q))
  | _ => none
theorem crtD_map {a P Q : Int} : ∀ {bs : List Int}, (bs.map D.int).filterMap (crtD a P Q) = (bs.map fun b => crt a P b Q).map D.int
  | [] => rfl
  | b :: bs => by
    rw [List.map_cons, List.filterMap_cons, crtD_map]
    rfl
/-- how many residues two sets have in common at most -/
def metBnd (P : Int) (as : List Int) (Q : Int) (bs : List Int) : Nat := min (as.length * bs.length) (lcmI P Q).toNat
theorem metL_bnd {P Q : Int} {as bs ks : List Int} (hP : Res P as) (hQ : Res Q bs) (hn : ks.Nodup) (hk : ∀ k, k ∈ ks ↔ ∃ r ∈ as, r % gcdI P Q = k) (i : Nat) : (metL P as Q bs (ks.take i)).length ≤ metBnd P as Q bs := by
  refine Nat.le_min.mpr ⟨metL_len (hn.sublist (List.take_sublist _ _)), ?_⟩
  have hL := lcmI_pos hP.1 hQ.1
  have h1 : (metL P as Q bs (ks.take i)).length ≤ (metL P as Q bs ks).length := by
    have e : ks = ks.take i ++ ks.drop i := (List.take_append_drop _ _).symm
    have : metL P as Q bs ks = metL P as Q bs (ks.take i) ++ metL P as Q bs (ks.drop i) := by
      conv => lhs; rw [e]
      unfold metL
      rw [List.flatMap_append]
    rw [this, List.length_append]
    omega
  have h2 := len_of_sub (bs := rgI 0 (lcmI P Q)) (metL_nodup hP hQ hn) fun x hx => by
    obtain ⟨a, b, _⟩ := (metL_mem hP hQ hk).mp hx
    exact rgI_mem.mpr ⟨a, b⟩
  rw [rgI_len] at h2
  omega
theorem metS_bnd {P Q : Int} {as bs ms : List Int} (hP : Res P as) (hQ : Res Q bs) (h : Res (lcmI P Q) ms) (hl : ms.length ≤ as.length * bs.length) : ms.length ≤ metBnd P as Q bs := by
  refine Nat.le_min.mpr ⟨hl, ?_⟩
  have : (ms.length : Int) ≤ lcmI P Q := by
    have := asc_len h.2.1 h.2.2 (by have := h.1; omega)
    omega
  omega
/-! patterns put together -/
def kndF (d : Int) (k : Int × List Int) (p : Pc) : Int × List Int := if p.1 ≤ d then p.2 else k
/-- the kind of the last piece that has begun -/
def kndAt (ps : List Pc) (d : Int) : Int × List Int := ps.foldl (kndF d) (1, [])
theorem knd_fold {d : Int} : ∀ (ps : List Pc) (k : Int × List Int) (b : Bool), b = inR k d → ps.foldl (fun f p => if p.1 ≤ d then inPc p d else f) b = inR (ps.foldl (kndF d) k) d
  | [], _, _, h => h
  | p :: ps, k, b, h => by
    rw [List.foldl_cons, List.foldl_cons]
    refine knd_fold ps _ _ ?_
    unfold kndF
    split
    · rfl
    · exact h
theorem patB_knd {ps : List Pc} {d : Int} : patB ps d = inR (kndAt ps d) d := knd_fold ps _ _ (by simp)
theorem knd_same {d e : Int} : ∀ {ps : List Pc} {k : Int × List Int}, (∀ p ∈ ps, p.1 ≤ d ↔ p.1 ≤ e) → ps.foldl (kndF d) k = ps.foldl (kndF e) k
  | [], _, _ => rfl
  | p :: ps, k, h => by
    rw [List.foldl_cons, List.foldl_cons]
    have e1 : kndF d k p = kndF e k p := by
      unfold kndF
      by_cases c : p.1 ≤ d
      · rw [if_pos c, if_pos ((h p List.mem_cons_self).mp c)]
      · rw [if_neg c, if_neg fun w => c ((h p List.mem_cons_self).mpr w)]
    rw [e1]
    exact knd_same fun q hq => h q (List.mem_cons_of_mem _ hq)
theorem knd_const {d : Int} : ∀ {ps : List Pc} {k : Int × List Int}, (∀ p ∈ ps, d < p.1) → ps.foldl (kndF d) k = k
  | [], _, _ => rfl
  | p :: ps, k, h => by
    rw [List.foldl_cons]
    have e1 : kndF d k p = k := if_neg (by have := h p List.mem_cons_self; omega)
    rw [e1]
    exact knd_const fun q hq => h q (List.mem_cons_of_mem _ hq)
theorem knd_at {d : Int} {p : Pc} : ∀ {ps : List Pc} {i : Nat} {k : Int × List Int}, ps.Pairwise (fun a b => a.1 < b.1) → ps[i]? = some p → p.1 ≤ d → (∀ q, ps[i + 1]? = some q → d < q.1) → ps.foldl (kndF d) k = p.2
  | [], _, _, _, h, _, _ => by simp at h
  | q :: ps, 0, k, ha, h, h1, h2 => by
    simp at h
    subst h
    rw [List.foldl_cons]
    have e1 : kndF d k q = q.2 := if_pos h1
    rw [e1]
    refine knd_const fun r hr => ?_
    cases ps with
    | nil => cases hr
    | cons r0 ps =>
      have h0 := h2 r0 (by simp)
      rcases List.mem_cons.mp hr with rfl | w
      · exact h0
      · have := (List.pairwise_cons.mp (List.pairwise_cons.mp ha).2).1 r w
        omega
  | q :: ps, i + 1, k, ha, h, h1, h2 => by
    rw [List.foldl_cons]
    exact knd_at (i := i) (List.pairwise_cons.mp ha).2 (by simpa using h) h1 fun r hr => h2 r (by simpa using hr)
theorem knd_mem {d : Int} : ∀ {ps : List Pc} {k : Int × List Int}, ps.foldl (kndF d) k = k ∨ ∃ p ∈ ps, p.1 ≤ d ∧ ps.foldl (kndF d) k = p.2
  | [], _ => .inl rfl
  | p :: ps, k => by
    rw [List.foldl_cons]
    rcases knd_mem (ps := ps) (k := kndF d k p) with e | ⟨q, h1, h2, h3⟩
    · rw [e]
      unfold kndF
      by_cases c : p.1 ≤ d
      · rw [if_pos c]; exact .inr ⟨p, List.mem_cons_self, c, rfl⟩
      · rw [if_neg c]; exact .inl rfl
    · exact .inr ⟨q, List.mem_cons_of_mem _ h1, h2, h3⟩
theorem kndAt_mem {ps : List Pc} {d : Int} (h : PatOk ps) (hd : 0 ≤ d) : ∃ p ∈ ps, kndAt ps d = p.2 := by
  obtain ⟨k, r, rfl⟩ := h.hd
  unfold kndAt
  rw [List.foldl_cons]
  have e1 : kndF d (1, []) (0, k) = k := if_pos hd
  rw [e1]
  rcases knd_mem (ps := r) (k := k) (d := d) with e | ⟨q, h1, _, h3⟩
  · exact ⟨(0, k), List.mem_cons_self, e⟩
  · exact ⟨q, List.mem_cons_of_mem _ h1, h3⟩
def endD (st : List Int) (k : Nat) : D := optD st[k + 1]?
def ovD (ps qs : List Pc) (st : List Int) (k : Nat) : D := .tup [.int (st.getD k 0), endD st k, kdD (kndAt ps (st.getD k 0)), kdD (kndAt qs (st.getD k 0))]
/-- all the starts -/
def Starts (ps qs : List Pc) (st : List Int) : Prop := Asc st ∧ ∀ s, s ∈ st ↔ s ∈ ps.map (·.1) ∨ s ∈ qs.map (·.1)
/-- the piece that has begun by the k-th start -/
def AtI (ps : List Pc) (st : List Int) (k i : Nat) : Prop := ∃ p, ps[i]? = some p ∧ ((k = 0 ∧ i = 0) ∨ ∃ s, st[k - 1]? = some s ∧ 0 < k ∧ p.1 ≤ s ∧ ∀ q, ps[i + 1]? = some q → s < q.1)
theorem starts_nn {ps qs : List Pc} {st : List Int} (hp : PatOk ps) (hq : PatOk qs) (h : Starts ps qs st) : ∀ s ∈ st, 0 ≤ s := fun s hs => by
  rcases (h.2 s).mp hs with w | w
  · obtain ⟨p, hp', rfl⟩ := List.mem_map.mp w
    exact hp.nn p hp'
  · obtain ⟨p, hp', rfl⟩ := List.mem_map.mp w
    exact hq.nn p hp'
theorem starts_0 {ps qs : List Pc} {st : List Int} (hp : PatOk ps) (hq : PatOk qs) (h : Starts ps qs st) : ∃ r, st = 0 :: r := by
  have h0 : (0 : Int) ∈ st := by
    rw [h.2]
    obtain ⟨k, r, rfl⟩ := hp.hd
    exact .inl (by simp)
  cases st with
  | nil => cases h0
  | cons s r =>
    have := starts_nn hp hq h s List.mem_cons_self
    rcases List.mem_cons.mp h0 with w | w
    · exact ⟨r, by rw [← w]⟩
    · have := (List.pairwise_cons.mp h.1).1 0 w
      omega
theorem asc_next {st : List Int} (h : Asc st) {k : Nat} {a b : Int} (ha : st[k]? = some a) (hb : st[k + 1]? = some b) : a < b ∧ ∀ s ∈ st, a < s → b ≤ s := by
  have hk := (List.getElem?_eq_some_iff.mp ha)
  have hk1 := (List.getElem?_eq_some_iff.mp hb)
  refine ⟨?_, fun s hs has => ?_⟩
  · have := List.pairwise_iff_getElem.mp h k (k + 1) hk.1 hk1.1 (by omega)
    rw [hk.2, hk1.2] at this
    exact this
  · obtain ⟨j, hj⟩ := List.getElem?_of_mem hs
    have hj1 := List.getElem?_eq_some_iff.mp hj
    rcases Nat.lt_trichotomy j (k + 1) with w | w | w
    · rcases Nat.lt_or_ge j k with w2 | w2
      · have := List.pairwise_iff_getElem.mp h j k hj1.1 hk.1 w2
        rw [hj1.2, hk.2] at this
        omega
      · rw [show j = k by omega, ha] at hj
        cases hj
        omega
    · rw [w, hb] at hj
      cases hj
      exact Int.le_refl _
    · have := List.pairwise_iff_getElem.mp h (k + 1) j hk1.1 hj1.1 w
      rw [hk1.2, hj1.2] at this
      omega
theorem AtI.step {ps qs : List Pc} {st : List Int} {k i : Nat} {s : Int} (hp : PatOk ps) (hq : PatOk qs) (hs : Starts ps qs st) (hsub : ∀ p ∈ ps, p.1 ∈ st) (hk : st[k]? = some s) (h : AtI ps st k i) :
    (∀ q, ps[i + 1]? = some q → q.1 ≤ s → AtI ps st (k + 1) (i + 1) ∧ kndAt ps s = q.2) ∧ ((∀ q, ps[i + 1]? = some q → s < q.1) → AtI ps st (k + 1) i ∧ ∀ p, ps[i]? = some p → kndAt ps s = p.2) := by
  obtain ⟨p, e, h⟩ := h
  have hle : p.1 ≤ s := by
    rcases h with ⟨rfl, rfl⟩ | ⟨s0, h1, h2, h3, h4⟩
    · obtain ⟨k0, r, rfl⟩ := hp.hd
      simp at e
      subst e
      exact starts_nn hp hq hs s (List.mem_of_getElem? hk)
    · have := (asc_next hs.1 (k := k - 1) h1 (by rw [show k - 1 + 1 = k by omega]; exact hk)).1
      omega
  refine ⟨fun q hq1 hq2 => ?_, fun hno => ⟨⟨p, e, .inr ⟨s, by simpa using hk, by omega, hle, hno⟩⟩, fun p' e' => ?_⟩⟩
  · have hsq : q.1 = s := by
      rcases h with ⟨rfl, rfl⟩ | ⟨s0, h1, h2, h3, h4⟩
      · obtain ⟨r, rfl⟩ := starts_0 hp hq hs
        simp at hk
        subst hk
        have := hp.next e hq1
        have := hp.nn p (List.mem_of_getElem? e)
        omega
      · have := (asc_next hs.1 (k := k - 1) h1 (by rw [show k - 1 + 1 = k by omega]; exact hk)).2 q.1 (hsub q (List.mem_of_getElem? hq1)) (h4 q hq1)
        omega
    have hnx : ∀ r, ps[i + 1 + 1]? = some r → s < r.1 := fun r hr => by have := hp.next hq1 hr; omega
    exact ⟨⟨q, hq1, .inr ⟨s, by simpa using hk, by omega, hq2, hnx⟩⟩, knd_at hp.asc hq1 hq2 hnx⟩
  · rw [e] at e'
    cases e'
    exact knd_at hp.asc e hle hno
/-- the kinds of both stay between the starts -/
theorem knd_between {ps qs : List Pc} {st : List Int} {k : Nat} {s d : Int} (hs : Starts ps qs st) (hk : st[k]? = some s) (h1 : s ≤ d) (h2 : ∀ e, st[k + 1]? = some e → d < e) : kndAt ps d = kndAt ps s ∧ kndAt qs d = kndAt qs s := by
  have key : ∀ x ∈ st, x ≤ d → x ≤ s := fun x hx hd => by
    by_cases c : x ≤ s
    · exact c
    · cases e : st[k + 1]? with
      | some y =>
        have := (asc_next hs.1 hk e).2 x hx (by omega)
        have := h2 y e
        omega
      | none =>
        obtain ⟨j, hj⟩ := List.getElem?_of_mem hx
        have hj1 := List.getElem?_eq_some_iff.mp hj
        have hk1 := List.getElem?_eq_some_iff.mp hk
        have hl := List.getElem?_eq_none_iff.mp e
        rcases Nat.lt_or_ge j k with w | w
        · have := List.pairwise_iff_getElem.mp hs.1 j k hj1.1 hk1.1 w
          rw [hj1.2, hk1.2] at this
          omega
        · have := hj1.1
          rw [show j = k by omega, hk] at hj
          cases hj
          omega
  constructor
  · exact knd_same fun p hp => ⟨fun w => key _ ((hs.2 _).mpr (.inl (List.mem_map.mpr ⟨p, hp, rfl⟩))) w, fun w => by omega⟩
  · exact knd_same fun p hp => ⟨fun w => key _ ((hs.2 _).mpr (.inr (List.mem_map.mpr ⟨p, hp, rfl⟩))) w, fun w => by omega⟩
/-! the ways -/
def wBoth : Str := Str.ofString "both"
def wEither : Str := Str.ofString "either"
def combB (w : Str) (a b : Bool) : Bool := if w = wBoth then a && b else if w = wEither then a || b else a && !b
def bndW (w : Str) (a b : Int × List Int) : Int := if w = wBoth then (metBnd a.1 a.2 b.1 b.2 : Nat) else if w = wEither then lcmI a.1 b.1 / a.1 * a.2.length + lcmI a.1 b.1 / b.1 * b.2.length else lcmI a.1 b.1 / a.1 * a.2.length
structure CombOk (w : Str) (a b : Int × List Int) : Prop where
  ka : KdOk a
  kb : KdOk b
  l : lcmI a.1 b.1 < 1000000000
  c : bndW w a b < 4000
  d : lcmI a.1 b.1 / a.1 * a.2.length < 16000000
/-- what a stretch with an end asks -/
def ShOk (w : Str) (a b : Int × List Int) (s e : Int) : Prop := KdOk a ∧ KdOk b ∧ (CombOk w a b ∨ e - s < 1900)
theorem emod_inj {x y s L : Int} (hx : s ≤ x) (hy : s ≤ y) (hx2 : x < s + L) (hy2 : y < s + L) (hd : L ∣ x - y) : x = y := by
  obtain ⟨k, hk⟩ := hd
  rcases Int.lt_trichotomy k 0 with w | w | w
  · have : L * k ≤ L * (-1) := Int.mul_le_mul_of_nonneg_left (by omega) (by omega)
    omega
  · rw [w] at hk; omega
  · have : L * 1 ≤ L * k := Int.mul_le_mul_of_nonneg_left (by omega) (by omega)
    omega
theorem rgI_nodup {s e : Int} : (rgI s e).Nodup := asc_rgI.imp fun {a b} h => by omega
theorem map_nodup {α : Type} {f : Int → α} : ∀ {xs : List Int}, xs.Nodup → (∀ x ∈ xs, ∀ y ∈ xs, f x = f y → x = y) → (xs.map f).Nodup := fun {xs} h k => by
  rw [List.Nodup, List.pairwise_map]
  exact List.Pairwise.imp_of_mem (fun {a b} ha hb hne e => hne (k a ha b hb e)) h
/-- the days of a stretch that is no longer than L are told apart by L -/
theorem cnt_mod {f : Int → Bool} {s e L : Int} {l : List Int} (he : e - s ≤ L) (h : ∀ x, s ≤ x → x < e → f x = true → x % L ∈ l) : ((rgI s e).filter f).length ≤ l.length := by
  have hn : (((rgI s e).filter f).map fun x => x % L).Nodup := map_nodup (rgI_nodup.sublist List.filter_sublist) fun x hx y hy exy => by
    rw [List.mem_filter, rgI_mem] at hx hy
    refine emod_inj (s := s) (L := L) hx.1.1 hy.1.1 (by omega) (by omega) (Int.dvd_of_emod_eq_zero (by rw [Int.sub_emod, exy, Int.sub_self, Int.zero_emod]))
  have := len_of_sub (bs := l) hn fun x hx => by
    obtain ⟨y, hy, rfl⟩ := List.mem_map.mp hx
    rw [List.mem_filter, rgI_mem] at hy
    exact h y hy.1.1 hy.1.2 hy.2
  rw [List.length_map] at this
  exact this
theorem cnt_res {P s e L : Int} {ns : List Int} (h : Res P ns) (hd : P ∣ L) (hL : 0 < L) (he : e - s ≤ L) : (((rgI s e).filter (inR (P, ns))).length : Int) ≤ L / P * ns.length := by
  have h1 := cnt_mod (l := spreadL P ns (L / P).toNat) (f := inR (P, ns)) he fun x _ _ hx => by
    rw [spread_mem h hd hL, Int.emod_emod_of_dvd _ hd]
    exact ⟨Int.emod_nonneg _ (by omega), Int.emod_lt_of_pos _ hL, by simpa using hx⟩
  rw [spreadL_len] at h1
  have h2 : (0 : Int) ≤ L / P := Int.ediv_nonneg (by omega) (by have := h.1; omega)
  have h3 : (((L / P).toNat * ns.length : Nat) : Int) = L / P * ns.length := by rw [Int.natCast_mul, Int.toNat_of_nonneg h2]
  omega
theorem pairs_len {as bs : List Int} : (as.flatMap fun a => bs.map fun b => (a, b)).length = as.length * bs.length := by
  induction as with
  | nil => simp
  | cons a as ih => rw [List.flatMap_cons, List.length_append, List.length_map, ih, List.length_cons, Nat.succ_mul]; omega
theorem cnt_both {P Q s e : Int} {as bs : List Int} (hP : 0 < P) (hQ : 0 < Q) (he : e - s ≤ lcmI P Q) : ((rgI s e).filter fun x => inR (P, as) x && inR (Q, bs) x).length ≤ as.length * bs.length := by
  have hn : (((rgI s e).filter fun x => inR (P, as) x && inR (Q, bs) x).map fun x => (x % P, x % Q)).Nodup := map_nodup (rgI_nodup.sublist List.filter_sublist) fun x hx y hy exy => by
    rw [List.mem_filter, rgI_mem] at hx hy
    have e1 := (Prod.mk.inj exy).1
    have e2 := (Prod.mk.inj exy).2
    refine emod_inj (s := s) (L := lcmI P Q) hx.1.1 hy.1.1 (by omega) (by omega) (lcmI_dvd hP hQ (Int.dvd_of_emod_eq_zero (by rw [Int.sub_emod, e1, Int.sub_self, Int.zero_emod])) (Int.dvd_of_emod_eq_zero (by rw [Int.sub_emod, e2, Int.sub_self, Int.zero_emod])))
  have := len_of_sub (bs := as.flatMap fun a => bs.map fun b => (a, b)) hn fun x hx => by
    obtain ⟨y, hy, rfl⟩ := List.mem_map.mp hx
    have hy := (List.mem_filter.mp hy).2
    rw [Bool.and_eq_true, decide_eq_true_iff, decide_eq_true_iff] at hy
    exact List.mem_flatMap.mpr ⟨_, hy.1, List.mem_map.mpr ⟨_, hy.2, rfl⟩⟩
  rw [List.length_map, pairs_len] at this
  exact this
theorem cnt_comb {w : Str} {a b : Int × List Int} {s e : Int} (h : CombOk w a b) (he : e - s ≤ lcmI a.1 b.1) : (((rgI s e).filter fun x => combB w (inR a x) (inR b x)).length : Int) ≤ bndW w a b := by
  have hP := h.ka.1.1
  have hQ := h.kb.1.1
  have hL := lcmI_pos hP hQ
  have hA : (((rgI s e).filter (inR a)).length : Int) ≤ lcmI a.1 b.1 / a.1 * a.2.length := cnt_res h.ka.1 lcmI_l hL he
  have hB : (((rgI s e).filter (inR b)).length : Int) ≤ lcmI a.1 b.1 / b.1 * b.2.length := cnt_res h.kb.1 (lcmI_r hP) hL he
  unfold bndW combB
  by_cases c1 : w = wBoth
  · simp only [if_pos c1]
    refine Int.ofNat_le.mpr (Nat.le_min.mpr ⟨cnt_both hP hQ he, ?_⟩)
    have := List.length_filter_le (fun x => inR a x && inR b x) (rgI s e)
    rw [rgI_len] at this
    omega
  · simp only [if_neg c1]
    by_cases c2 : w = wEither
    · simp only [if_pos c2]
      have : ((rgI s e).filter fun x => inR a x || inR b x).length ≤ ((rgI s e).filter (inR a) ++ (rgI s e).filter (inR b)).length := len_of_sub (rgI_nodup.sublist List.filter_sublist) fun x hx => by
        rw [List.mem_filter, Bool.or_eq_true] at hx
        rw [List.mem_append, List.mem_filter, List.mem_filter]
        rcases hx.2 with w | w
        · exact .inl ⟨hx.1, w⟩
        · exact .inr ⟨hx.1, w⟩
      rw [List.length_append] at this
      omega
    · simp only [if_neg c2]
      have : ((rgI s e).filter fun x => inR a x && !inR b x).length ≤ ((rgI s e).filter (inR a)).length := len_of_sub (rgI_nodup.sublist List.filter_sublist) fun x hx => by
        rw [List.mem_filter, Bool.and_eq_true] at hx
        rw [List.mem_filter]
        exact ⟨hx.1, hx.2.1⟩
      omega
/-- the residues by a stretch's own width -/
theorem width_res {f : Int → Bool} {s e : Int} {ms : List Int} (hse : s < e) (hp : ms.Perm (((rgI s e).filter f).map fun x => x % (e - s))) (hs : ms.Pairwise (· ≤ ·)) :
    Res (e - s) ms ∧ (∀ d, s ≤ d → d < e → (d % (e - s) ∈ ms ↔ f d = true)) ∧ ms.length = ((rgI s e).filter f).length := by
  have hin : ∀ x y, s ≤ x → x < e → s ≤ y → y < e → x % (e - s) = y % (e - s) → x = y := fun x y h1 h2 h3 h4 he =>
    emod_inj (s := s) (L := e - s) h1 h3 (by omega) (by omega) (Int.dvd_of_emod_eq_zero (by rw [Int.sub_emod, he, Int.sub_self, Int.zero_emod]))
  have hn : (((rgI s e).filter f).map fun x => x % (e - s)).Nodup := map_nodup (rgI_nodup.sublist List.filter_sublist) fun x hx y hy exy => by
    rw [List.mem_filter, rgI_mem] at hx hy
    exact hin x y hx.1.1 hx.1.2 hy.1.1 hy.1.2 exy
  refine ⟨⟨by omega, asc_of hs (hp.nodup_iff.mpr hn), fun r hr => ?_⟩, fun d h1 h2 => ?_, by rw [hp.length_eq, List.length_map]⟩
  · obtain ⟨x, _, rfl⟩ := List.mem_map.mp (hp.mem_iff.mp hr)
    exact ⟨Int.emod_nonneg _ (by omega), Int.emod_lt_of_pos _ (by omega)⟩
  · rw [hp.mem_iff, List.mem_map]
    constructor
    · rintro ⟨x, hx, he⟩
      rw [List.mem_filter, rgI_mem] at hx
      rw [← hin x d hx.1.1 hx.1.2 h1 h2 he]
      exact hx.2
    · intro hf
      exact ⟨d, by rw [List.mem_filter, rgI_mem]; exact ⟨⟨h1, h2⟩, hf⟩, rfl⟩
def stD0 : D → Option D
  | .tup (.int s :: _) => some (.int s)
  | _ => none
theorem stD0_map : ∀ {ps : List Pc}, (ps.map pcD).filterMap stD0 = (ps.map (·.1)).map D.int
  | [] => rfl
  | p :: ps => by
    rw [List.map_cons, List.filterMap_cons, stD0_map]
    rfl
theorem AtI.zero {ps : List Pc} {st : List Int} (h : PatOk ps) : AtI ps st 0 0 := by
  obtain ⟨k, r, rfl⟩ := h.hd
  exact ⟨(0, k), rfl, .inl ⟨rfl, rfl⟩⟩
/-- the pieces put together so far -/
structure PtInv (w : Str) (ps qs : List Pc) (st : List Int) (k : Nat) (gs : List Pc) : Prop where
  starts : gs.map (·.1) = st.take k
  ok : ∀ g ∈ gs, KdOk g.2
  tell : ∀ (i : Nat) (g : Pc), gs[i]? = some g → ∀ d, g.1 ≤ d → (∀ e, st[i + 1]? = some e → d < e) → inPc g d = combB w (patB ps d) (patB qs d)
  size : ∀ g ∈ gs, ∃ a ∈ ps, ∃ b ∈ qs, g.2.1 ≤ lcmI a.2.1 b.2.1
theorem PtInv.zero {w : Str} {ps qs : List Pc} {st : List Int} : PtInv w ps qs st 0 [] := ⟨rfl, by simp, by simp, by simp⟩
theorem PtInv.add {w : Str} {ps qs gs : List Pc} {st : List Int} {k : Nat} {s : Int} {kn : Int × List Int} {a b : Pc} (h : PtInv w ps qs st k gs) (hst : Starts ps qs st) (hs : st[k]? = some s) (hk : KdOk kn)
    (ha : a ∈ ps) (hb : b ∈ qs) (ea : kndAt ps s = a.2) (eb : kndAt qs s = b.2) (ht : ∀ d, s ≤ d → (∀ e, st[k + 1]? = some e → d < e) → inR kn d = combB w (inR a.2 d) (inR b.2 d)) (h1 : kn.1 ≤ lcmI a.2.1 b.2.1) :
    PtInv w ps qs st (k + 1) (gs ++ [(s, kn)]) := by
  have hl := congrArg List.length h.starts
  have hkl := (List.getElem?_eq_some_iff.mp hs).1
  rw [List.length_map, List.length_take] at hl
  refine ⟨?_, fun g hg => ?_, fun i g hg d hd hd2 => ?_, fun g hg => ?_⟩
  · rw [List.map_append, h.starts, List.take_add_one, hs]; rfl
  · rcases List.mem_append.mp hg with u | u
    · exact h.ok g u
    · rw [List.mem_singleton.mp u]; exact hk
  · rcases Nat.lt_or_ge i gs.length with u | u
    · rw [List.getElem?_append_left u] at hg
      exact h.tell i g hg d hd hd2
    · rw [List.getElem?_append_right u] at hg
      have hi : i - gs.length = 0 := by
        have := (List.getElem?_eq_some_iff.mp hg).1
        simp at this
        omega
      rw [hi] at hg
      cases hg
      obtain rfl : i = k := by omega
      show inR kn d = _
      obtain ⟨e1, e2⟩ := knd_between hst hs hd hd2
      rw [ht d hd hd2, patB_knd, patB_knd, e1, e2, ea, eb]
  · rcases List.mem_append.mp hg with u | u
    · exact h.size g u
    · rw [List.mem_singleton.mp u]
      exact ⟨a, ha, b, hb, h1⟩
theorem PtInv.fin {w : Str} {ps qs gs : List Pc} {st : List Int} (hp : PatOk ps) (hq : PatOk qs) (hst : Starts ps qs st) (h : PtInv w ps qs st st.length gs) :
    PatOk gs ∧ gs.length ≤ ps.length + qs.length ∧ (∀ d, 0 ≤ d → patB gs d = combB w (patB ps d) (patB qs d)) ∧ ∀ g ∈ gs, ∃ r ∈ ps ++ qs, g.1 = r.1 := by
  have hs := h.starts
  rw [List.take_length] at hs
  have hgl : gs.length = st.length := by rw [← hs, List.length_map]
  obtain ⟨r, hr⟩ := starts_0 hp hq hst
  have hasc : gs.Pairwise fun a b => a.1 < b.1 := by
    have := hst.1
    rw [← hs, Asc, List.pairwise_map] at this
    exact this
  have hhd : ∃ k r', gs = (0, k) :: r' := by
    cases gs with
    | nil => rw [hr] at hs; cases hs
    | cons g gs =>
      rw [hr, List.map_cons] at hs
      obtain ⟨s, k⟩ := g
      have := (List.cons.inj hs).1
      exact ⟨k, gs, by rw [show s = 0 from this]⟩
  have hat : ∀ (i : Nat) (g : Pc), gs[i]? = some g → st[i]? = some g.1 := fun i g hg => by rw [← hs, List.getElem?_map, hg]; rfl
  refine ⟨⟨hhd, hasc, h.ok⟩, ?_, fun d hd => ?_, fun g hg => ?_⟩
  · have := len_of_sub (as := st) (bs := ps.map (·.1) ++ qs.map (·.1)) (hst.1.imp fun {a b} h => by omega) fun x hx => List.mem_append.mpr ((hst.2 x).mp hx)
    rw [List.length_append, List.length_map, List.length_map] at this
    omega
  · -- the last piece that has begun
    have : ∀ n, n < gs.length → (∀ g, gs[n]? = some g → g.1 ≤ d) → (∀ i, n < i → ∀ g, gs[i]? = some g → d < g.1) → patB gs d = combB w (patB ps d) (patB qs d) := fun n hn h1 h2 => by
      have e := List.getElem?_eq_getElem hn
      have hle := h1 _ e
      rw [patB_at hasc e hle fun q hq => h2 (n + 1) (Nat.lt_succ_self _) q hq]
      refine h.tell n _ e d hle fun x hx => ?_
      rw [← hs, List.getElem?_map] at hx
      cases eg : gs[n + 1]? with
      | none => rw [eg] at hx; cases hx
      | some g =>
        rw [eg] at hx
        cases hx
        exact h2 (n + 1) (Nat.lt_succ_self _) g eg
    have hlast : ∀ m, m ≤ gs.length → (∀ i, m ≤ i → ∀ g, gs[i]? = some g → d < g.1) → patB gs d = combB w (patB ps d) (patB qs d) := by
      intro m
      induction m with
      | zero =>
        intro _ hall
        obtain ⟨k, r', rfl⟩ := hhd
        have := hall 0 (Nat.le_refl _) (0, k) rfl
        simp at this
        omega
      | succ m ih =>
        intro hm hall
        have e := List.getElem?_eq_getElem (show m < gs.length by omega)
        by_cases c : (gs[m]'(by omega)).1 ≤ d
        · exact this m (by omega) (fun g hg => by rw [e] at hg; cases hg; exact c) fun i hi g hg => hall i (by omega) g hg
        · refine ih (by omega) fun i hi g hg => ?_
          rcases Nat.lt_or_ge m i with u | u
          · exact hall i (by omega) g hg
          · rw [show i = m by omega, e] at hg
            cases hg
            omega
    exact hlast gs.length (Nat.le_refl _) fun i hi g hg => by
      have := (List.getElem?_eq_some_iff.mp hg).1
      omega
  · have : g.1 ∈ st := by rw [← hs]; exact List.mem_map.mpr ⟨g, hg, rfl⟩
    rcases (hst.2 _).mp this with u | u
    · obtain ⟨r, hr, e⟩ := List.mem_map.mp u
      exact ⟨r, List.mem_append_left _ hr, e.symm⟩
    · obtain ⟨r, hr, e⟩ := List.mem_map.mp u
      exact ⟨r, List.mem_append_right _ hr, e.symm⟩
def wFirst : Str := Str.ofString "first"
theorem w_ne : wEither ≠ wBoth ∧ wFirst ≠ wBoth ∧ wFirst ≠ wEither := by decide +kernel
theorem combB_either {a b : Bool} : combB wEither a b = (a || b) := by unfold combB; rw [if_neg w_ne.1, if_pos rfl]
theorem combB_first {a b : Bool} : combB wFirst a b = (a && !b) := by unfold combB; rw [if_neg w_ne.2.1, if_neg w_ne.2.2]
theorem res_len {P : Int} {ns : List Int} (h : Res P ns) : (ns.length : Int) ≤ P := by
  have := asc_len h.2.1 h.2.2 (by have := h.1; omega)
  omega
/-- .. as can those with a small common period -/
theorem combOk_lcm {w : Str} {a b : Int × List Int} (ha : KdOk a) (hb : KdOk b) (h : lcmI a.1 b.1 < 1950) : CombOk w a b := by
  have hP := ha.1.1
  have hQ := hb.1.1
  have hL0 := lcmI_pos hP hQ
  have h1 := res_len ha.1
  have h2 := res_len hb.1
  have d1 : 0 ≤ lcmI a.1 b.1 / a.1 := Int.ediv_nonneg (by omega) (by omega)
  have d2 : 0 ≤ lcmI a.1 b.1 / b.1 := Int.ediv_nonneg (by omega) (by omega)
  have e1 : lcmI a.1 b.1 / a.1 * a.1 = lcmI a.1 b.1 := Int.ediv_mul_cancel lcmI_l
  have e2 : lcmI a.1 b.1 / b.1 * b.1 = lcmI a.1 b.1 := Int.ediv_mul_cancel (lcmI_r hP)
  have f1 := Int.mul_le_mul_of_nonneg_left h1 d1
  have f2 := Int.mul_le_mul_of_nonneg_left h2 d2
  have f3 : metBnd a.1 a.2 b.1 b.2 ≤ (lcmI a.1 b.1).toNat := Nat.min_le_right _ _
  refine ⟨ha, hb, by omega, ?_, by omega⟩
  unfold bndW
  split
  · omega
  · split <;> omega
/-- the stretches of two patterns can be put together -/
def StepsOk (w : Str) (ps qs : List Pc) : Prop := ∀ st, Starts ps qs st → ∀ (k : Nat) s, st[k]? = some s → (st[k + 1]? = none → CombOk w (kndAt ps s) (kndAt qs s)) ∧ ∀ e, st[k + 1]? = some e → e - s < 1900 ∨ CombOk w (kndAt ps s) (kndAt qs s)
theorem StepsOk.all {w : Str} {ps qs : List Pc} (hp : PatOk ps) (hq : PatOk qs) (h : ∀ a ∈ ps, ∀ b ∈ qs, CombOk w a.2 b.2) : StepsOk w ps qs := by
  intro st hst k s hs
  have hs0 := starts_nn hp hq hst s (List.mem_of_getElem? hs)
  obtain ⟨pa, hpa, ea⟩ := kndAt_mem hp hs0
  obtain ⟨pb, hpb, eb⟩ := kndAt_mem hq hs0
  have := h pa hpa pb hpb
  rw [ea, eb]
  exact ⟨fun _ => this, fun _ _ => .inr this⟩

def p_overlaps : PSp := fun ds M Q _ => match ds with
  | [.tup xs, .tup ys] => ∃ ps qs : List Pc, xs = ps.map pcD ∧ ys = qs.map pcD ∧ (PatOk ps ∧ PatOk qs ∧ ps.length + qs.length < 4000) ∧ ∀ st, Starts ps qs st → Q (.ow (.lst ((List.range st.length).map (ovD ps qs st)))) M
  | _ => False

/-! patterns whose last piece's period divides L, whose starts lie up to B -/
theorem closed_add {P L : Int} {ns : List Int} (h : Res P ns) (hc : ∀ x, x % P ∈ ns → (x + L) % P ∈ ns) : ∀ (j : Nat) {x : Int}, x % P ∈ ns → (x + j * L) % P ∈ ns
  | 0, x, hx => by rw [Int.natCast_zero, Int.zero_mul, Int.add_zero]; exact hx
  | j + 1, x, hx => by
    have := hc _ (closed_add h hc j hx)
    rw [show x + ((j + 1 : Nat) : Int) * L = x + (j : Int) * L + L by rw [Int.natCast_add, Int.add_mul]; omega]
    exact this
theorem mini_dvd {P L : Int} {ns : List Int} (h : Res P ns) (hm : Mini P ns) (hL : 0 < L) (hc : ∀ x, x % P ∈ ns → (x + L) % P ∈ ns) : P ∣ L := by
  have hP := h.1
  let p : Nat → Prop := fun t => 1 ≤ t ∧ ∀ x, x % P ∈ ns → (x + t) % P ∈ ns
  have hpP : p P.toNat := ⟨by omega, fun x hx => by rw [Int.toNat_of_nonneg (by omega), Int.add_emod_right]; exact hx⟩
  have hpL : p L.toNat := ⟨by omega, fun x hx => by rw [Int.toNat_of_nonneg (by omega)]; exact hc x hx⟩
  have least : ∀ n, p n → ∃ t, p t ∧ ∀ s, p s → t ≤ s := by
    intro n
    induction n using Nat.strongRecOn with
    | ind n ih =>
      intro hn
      by_cases w : ∃ s, p s ∧ s < n
      · obtain ⟨s, h1, h2⟩ := w
        exact ih s h2 h1
      · exact ⟨n, hn, fun s hs => Nat.le_of_not_lt fun l => w ⟨s, hs, l⟩⟩
  obtain ⟨t, ⟨t1, t2⟩, t3⟩ := least _ hpP
  have hdv : ∀ s, p s → t ∣ s := fun s hs => by
    apply Classical.byContradiction
    intro w
    have hr : s % t ≠ 0 := fun e => w (Nat.dvd_of_mod_eq_zero e)
    have hlt := Nat.mod_lt s (show 0 < t by omega)
    have : p (s % t) := by
      refine ⟨by omega, fun x hx => ?_⟩
      -- s % t = s - t * (s / t), and - t is (P - 1) * t by P
      have h1 : (x + s) % P ∈ ns := hs.2 x hx
      have h2 := closed_add h t2 ((P - 1).toNat * (s / t)) h1
      have e : x + (s : Int) + (((P - 1).toNat * (s / t) : Nat) : Int) * (t : Int) = x + ((s % t : Nat) : Int) + P * (((s / t : Nat) : Int) * (t : Int)) := by
        have e1 : (s : Int) = (t : Int) * ((s / t : Nat) : Int) + ((s % t : Nat) : Int) := by
          have := Nat.div_add_mod s t
          exact_mod_cast this.symm
        rw [Int.natCast_mul, Int.toNat_of_nonneg (by omega)]
        rw [show (P - 1) * ((s / t : Nat) : Int) * (t : Int) = P * (((s / t : Nat) : Int) * (t : Int)) - (t : Int) * ((s / t : Nat) : Int) by
          rw [Int.sub_mul, Int.sub_mul, Int.one_mul, Int.mul_assoc, Int.mul_comm (t : Int)]]
        omega
      rw [e, Int.add_mul_emod_self_left] at h2
      exact h2
    have := t3 _ this
    omega
  have e1 := hdv _ hpP
  have e2 := hdv _ hpL
  have htP : (t : Int) ∣ P := by
    have := Int.natCast_dvd_natCast.mpr e1
    rwa [Int.toNat_of_nonneg (by omega)] at this
  have htL : (t : Int) ∣ L := by
    have := Int.natCast_dvd_natCast.mpr e2
    rwa [Int.toNat_of_nonneg (by omega)] at this
  by_cases c : (t : Int) < P
  · refine absurd ?_ (hm t (by omega) c htP)
    intro r hr
    have hb := h.2.2 r hr
    have := t2 r (by rw [Int.emod_eq_of_lt hb.1 hb.2]; exact hr)
    exact this
  · have : (t : Int) ≤ P := Int.le_of_dvd hP htP
    rw [show P = t by omega]
    exact htL
/-- the last piece's period divides each period of the far days -/
theorem last_dvd {gs : List Pc} {s P L T : Int} {ns : List Int} (h : Tidy (gs ++ [(s, P, ns)])) (hL : 0 < L) (hp : ∀ d, T ≤ d → patB (gs ++ [(s, P, ns)]) (d + L) = patB (gs ++ [(s, P, ns)]) d) : P ∣ L := by
  have hk := (h.ok (s, P, ns) (by simp)).1
  have hP : 0 < P := hk.1
  refine mini_dvd hk (h.mini (s, P, ns) (by simp)) hL fun x hx => ?_
  obtain ⟨k, hk1, hk2⟩ : ∃ k : Int, s ≤ x + P * k ∧ T ≤ x + P * k := by
    refine ⟨(max s T - x).toNat, ?_, ?_⟩ <;>
    · have : (1 : Int) * ((max s T - x).toNat : Int) ≤ P * ((max s T - x).toNat : Int) := Int.mul_le_mul_of_nonneg_right (by omega) (by omega)
      omega
  have e := hp _ hk2
  rw [patB_snoc, patB_snoc, if_pos (by show s ≤ _; omega), if_pos (by show s ≤ _; omega)] at e
  have e : decide ((x + P * k + L) % P ∈ ns) = decide ((x + P * k) % P ∈ ns) := e
  rw [show x + P * k + L = x + L + P * k by omega, Int.add_mul_emod_self_left, Int.add_mul_emod_self_left, decide_eq_true hx] at e
  simpa using e
structure Reg (L B : Int) (ps : List Pc) : Prop where
  ok : PatOk ps
  st : ∀ p ∈ ps, p.1 ≤ B
  last : ∀ qs p, ps = qs ++ [p] → p.2.1 ∣ L
theorem Reg.mono {L B C : Int} {ps : List Pc} (h : Reg L B ps) (hb : B ≤ C) : Reg L C ps := ⟨h.ok, fun p hp => Int.le_trans (h.st p hp) hb, h.last⟩
/-- from B on the days come again after L -/
theorem Reg.far {L B : Int} {ps : List Pc} (h : Reg L B ps) {d : Int} (hd : B ≤ d) (hL : 0 < L) : patB ps (d + L) = patB ps d := by
  obtain ⟨qs, s, P, ns, rfl⟩ := pat_last h.ok
  have h1 := h.st (s, P, ns) (by simp)
  have h2 : P ∣ L := h.last qs _ rfl
  have h1 : s ≤ B := h1
  rw [patB_snoc, patB_snoc, if_pos (by show s ≤ _; omega), if_pos (by show s ≤ _; omega)]
  show decide ((d + L) % P ∈ ns) = decide (d % P ∈ ns)
  rw [show (d + L) % P = d % P by rw [Int.add_emod, Int.emod_eq_zero_of_dvd h2, Int.add_zero, Int.emod_emod]]
theorem Reg.steps {w : Str} {L B : Int} {ps qs : List Pc} (hp : Reg L B ps) (hq : Reg L B qs) (hL0 : 0 < L) (hL : L < 1950) (hB : B < 1900) : StepsOk w ps qs := by
  intro st hst k s hs
  have hs0 := starts_nn hp.ok hq.ok hst s (List.mem_of_getElem? hs)
  constructor
  · intro hn
    have hall : ∀ x ∈ st, x ≤ s := fun x hx => by
      obtain ⟨j, hj, rfl⟩ := List.mem_iff_getElem.mp hx
      have hk := (List.getElem?_eq_some_iff.mp hs).1
      have hk2 := List.getElem?_eq_none_iff.mp hn
      rcases Nat.lt_or_ge j k with w | w
      · have := Asc.get hst.1 w (List.getElem?_eq_getElem hj) hs
        omega
      · have e : j = k := by omega
        subst e
        rw [List.getElem?_eq_getElem hj] at hs
        cases hs
        exact Int.le_refl _
    obtain ⟨pa, p, rfl⟩ : ∃ pa p, ps = pa ++ [p] := by obtain ⟨a, b, c, d, e⟩ := pat_last hp.ok; exact ⟨a, _, e⟩
    obtain ⟨qa, q, rfl⟩ : ∃ qa q, qs = qa ++ [q] := by obtain ⟨a, b, c, d, e⟩ := pat_last hq.ok; exact ⟨a, _, e⟩
    have e1 : kndAt (pa ++ [p]) s = p.2 := by
      unfold kndAt
      rw [List.foldl_append]
      exact if_pos (hall _ ((hst.2 _).mpr (.inl (by simp))))
    have e2 : kndAt (qa ++ [q]) s = q.2 := by
      unfold kndAt
      rw [List.foldl_append]
      exact if_pos (hall _ ((hst.2 _).mpr (.inr (by simp))))
    rw [e1, e2]
    have hka := hp.ok.ok p (by simp)
    have hkb := hq.ok.ok q (by simp)
    refine combOk_lcm hka hkb ?_
    have := Int.le_of_dvd hL0 (lcmI_dvd hka.1.1 hkb.1.1 (hp.last pa p rfl) (hq.last qa q rfl))
    omega
  · intro e he
    left
    rcases (hst.2 e).mp (List.mem_of_getElem? he) with w | w
    · obtain ⟨r, hr, rfl⟩ := List.mem_map.mp w
      have := hp.st r hr
      omega
    · obtain ⟨r, hr, rfl⟩ := List.mem_map.mp w
      have := hq.st r hr
      omega
/-- what is put together is of the same kind -/
theorem Reg.comb {L B : Int} {fs : List Pc} (h : Tidy fs) (hs : ∀ f ∈ fs, f.1 ≤ B) (hL : 0 < L) {T : Int} (hp : ∀ d, T ≤ d → patB fs (d + L) = patB fs d) : Reg L B fs := by
  refine ⟨h.toPatOk, hs, fun qs p e => ?_⟩
  subst e
  obtain ⟨s, P, ns⟩ := p
  exact last_dvd h hL hp
theorem reg_empty {L B : Int} (hB : 0 ≤ B) : Reg L B [(0, 1, [])] :=
  ⟨⟨⟨_, _, rfl⟩, by simp, by simp [KdOk, Res]⟩, by simpa using hB, fun qs p e => by
    cases qs with
    | nil => simp at e; rw [← e]; exact ⟨L, by simp⟩
    | cons q qs => simp at e⟩
theorem Reg.put {w : Str} {L B : Int} {ps qs fs : List Pc} (hp : Reg L B ps) (hq : Reg L B qs) (hL : 0 < L) (hB : 0 ≤ B) (h : Tidy fs) (hd : ∀ d, 0 ≤ d → patB fs d = combB w (patB ps d) (patB qs d)) (hs : ∀ f ∈ fs, ∃ r ∈ ps ++ qs, f.1 = r.1) : Reg L B fs := by
  refine Reg.comb h (fun f hf => ?_) hL (T := B) fun d hB2 => ?_
  · obtain ⟨r, hr, e⟩ := hs f hf
    rw [e]
    rcases List.mem_append.mp hr with u | u
    · exact hp.st r u
    · exact hq.st r u
  · rw [hd _ (by omega), hd _ (by omega), hp.far hB2 hL, hq.far hB2 hL]
theorem PatOk.snocP {ps : List Pc} (h : PatOk ps) {t : Int} {k : Int × List Int} (hk : KdOk k) (hb : ∀ p ∈ ps, p.1 < t) : PatOk (ps ++ [(t, k)]) := by
  refine ⟨?_, List.pairwise_append.mpr ⟨h.asc, by simp, fun a ha b hb2 => ?_⟩, fun p hp => ?_⟩
  · obtain ⟨k', r, rfl⟩ := h.hd
    exact ⟨k', r ++ [(t, k)], rfl⟩
  · rw [List.mem_singleton.mp hb2]
    exact hb a ha
  · rcases List.mem_append.mp hp with w | w
    · exact h.ok p w
    · rw [List.mem_singleton.mp w]; exact hk
theorem Reg.len {L B : Int} {fs : List Pc} (h : Reg L B fs) : (fs.length : Int) ≤ B + 1 := by
  have hn : (fs.map (·.1)).Nodup := List.pairwise_map.mpr (h.ok.asc.imp fun {a b} hab e => by omega)
  have := List.Nodup.length_le_of_subset hn (l₂ := rgI 0 (B + 1)) fun x hx => by
    obtain ⟨p, hp, rfl⟩ := List.mem_map.mp hx
    have h1 := h.st p hp
    have h2 := h.ok.nn p hp
    exact rgI_mem.mpr ⟨h2, by omega⟩
  have h0 : 0 ≤ B := by
    obtain ⟨k, r, e⟩ := h.ok.hd
    have := h.st (0, k) (by rw [e]; simp)
    exact this
  rw [List.length_map, rgI_len] at this
  omega
def ltO (d : Int) : Option Int → Bool
  | none => true
  | some e => decide (d < e)
structure LimInv (ps : List Pc) (first : Int) (en : Option Int) (i : Nat) (gs : List Pc) : Prop where
  ok : PatOk gs
  below : ∀ g ∈ gs, g.1 = 0 ∨ (first ≤ g.1 ∧ ltO g.1 en = true ∧ ∀ p, ps[i]? = some p → g.1 < p.1)
  org : ∀ g ∈ gs, g.1 = 0 ∨ g.1 = first ∨ ∃ p ∈ ps, g.1 = p.1
  tell : ∀ d, 0 ≤ d → (∀ p, ps[i]? = some p → d < p.1) → ltO d en = true → patB gs d = (patB ps d && decide (first ≤ d))
  early : ∀ d, d < first → patB gs d = false
  non : gs = [(0, 1, [])] ∨ ltO (max first 0) en = true
  len : gs.length ≤ i + 1
theorem LimInv.start {ps : List Pc} {first : Int} {en : Option Int} (hp : PatOk ps) : LimInv ps first en 0 [(0, 1, [])] := by
  have hf : ∀ d, patB [(0, 1, [])] d = false := fun d => by simp [patB, inPc]
  refine ⟨(reg_empty (L := 1) (B := 0) (Int.le_refl _)).ok, by simp, by simp, fun d h0 hd _ => ?_, fun d _ => hf d, .inl rfl, by simp⟩
  obtain ⟨k, r, rfl⟩ := hp.hd
  have := hd _ rfl
  exact absurd h0 (by simp at this; omega)
theorem lim_else {ps gs : List Pc} {first : Int} {en : Option Int} {i : Nat} {s P : Int} {ns : List Int} (hp : PatOk ps) (h : LimInv ps first en i gs) (hi : ps[i]? = some (s, P, ns))
    (hn : (∃ q, ps[i + 1]? = some q ∧ q.1 ≤ max (max s first) 0) ∨ ltO (max (max s first) 0) en = false) : LimInv ps first en (i + 1) gs := by
  have hs0 : 0 ≤ s := hp.nn _ (List.mem_of_getElem? hi)
  refine ⟨h.ok, fun g hg => ?_, h.org, fun d d0 hd he => ?_, h.early, h.non, by have := h.len; omega⟩
  · rcases h.below g hg with w | ⟨w1, w2, w3⟩
    · exact .inl w
    · refine .inr ⟨w1, w2, fun p hp2 => ?_⟩
      have h1 := w3 _ hi
      have h2 := hp.next hi hp2
      exact Int.lt_trans h1 h2
  · by_cases c : d < s
    · exact h.tell d d0 (fun p hp2 => by rw [hi] at hp2; cases hp2; exact c) he
    · have hlt : d < first := by
        rcases hn with ⟨q, hq, hle⟩ | hn
        · have := hd q hq
          omega
        · cases en with
          | none => cases hn
          | some e =>
            have h1 : d < e := by simpa [ltO] using he
            have h2 : ¬ max (max s first) 0 < e := by simpa [ltO] using hn
            omega
      rw [h.early d hlt, decide_eq_false (show ¬ first ≤ d by omega), Bool.and_false]
theorem lim_add {ps gs : List Pc} {first : Int} {en : Option Int} {i : Nat} {s P : Int} {ns : List Int} (hp : PatOk ps) (h : LimInv ps first en i gs) (hi : ps[i]? = some (s, P, ns))
    (h1 : ∀ q, ps[i + 1]? = some q → max (max s first) 0 < q.1) (h2 : ltO (max (max s first) 0) en = true) :
    (∀ as t k, gs = as ++ [(t, k)] → t = max (max s first) 0 → as = []) ∧ LimInv ps first en (i + 1) ((if (gs.map (·.1)).getLast? = some (max (max s first) 0) then gs.dropLast else gs) ++ [(max (max s first) 0, P, ns)]) := by
  have hs0 : 0 ≤ s := hp.nn _ (List.mem_of_getElem? hi)
  have hk : KdOk (P, ns) := hp.ok _ (List.mem_of_getElem? hi)
  generalize hb : max (max s first) 0 = b at *
  have hlow : ∀ g ∈ gs, g.1 = 0 ∨ g.1 < b := fun g hg => by
    rcases h.below g hg with w | ⟨_, _, w⟩
    · exact .inl w
    · have := w _ hi
      have : g.1 < s := this
      exact .inr (by omega)
  have hone : ∀ as t k, gs = as ++ [(t, k)] → t = b → as = [] ∧ b = 0 := fun as t k e et => by
    have ht := hlow (t, k) (by rw [e]; simp)
    have ht : t = 0 ∨ t < b := ht
    have hz : b = 0 := by omega
    refine ⟨?_, hz⟩
    have hok := h.ok
    rw [e] at hok
    cases as with
    | nil => rfl
    | cons a as =>
      obtain ⟨k', r, e2⟩ := hok.hd
      have := (List.pairwise_append.mp hok.asc).2.2 a (by simp) (t, k) (by simp)
      have e3 := (List.cons.inj e2).1
      rw [e3] at this
      have : (0 : Int) < t := this
      omega
  refine ⟨fun as t k e et => (hone as t k e et).1, ?_⟩
  have hwin : ∀ d, b ≤ d → (∀ p, ps[i + 1]? = some p → d < p.1) → patB ps d = inPc (s, P, ns) d := fun d hd hn => hp.win hi (by omega) hn
  have tell2 : ∀ (fs : List Pc), (∀ d, 0 ≤ d → d < b → patB fs d = patB gs d) → ∀ d, 0 ≤ d → (∀ p, ps[i + 1]? = some p → d < p.1) → ltO d en = true → patB (fs ++ [(b, P, ns)]) d = (patB ps d && decide (first ≤ d)) := fun fs hfs d d0 hd he => by
    rw [patB_snoc]
    by_cases c : b ≤ d
    · rw [if_pos c, hwin d c hd, decide_eq_true (show first ≤ d by omega), Bool.and_true]
      rfl
    · rw [if_neg c, hfs d d0 (by omega)]
      by_cases c2 : d < s
      · exact h.tell d d0 (fun p hp2 => by rw [hi] at hp2; cases hp2; exact c2) he
      · rw [h.early d (by omega), decide_eq_false (show ¬ first ≤ d by omega), Bool.and_false]
  by_cases c : (gs.map (·.1)).getLast? = some b
  · rw [if_pos c]
    obtain ⟨as, t, T, ms, e⟩ := pat_last h.ok
    have et : t = b := by rw [e, List.map_append, List.map_singleton, List.getLast?_concat] at c; exact Option.some.inj c
    obtain ⟨rfl, hz⟩ := hone as t (T, ms) e et
    rw [e]
    show LimInv ps first en (i + 1) ([] ++ [(b, P, ns)])
    have t2 := tell2 [] fun d h0 hlt => by omega
    subst hz
    refine ⟨⟨⟨_, _, rfl⟩, by simp, by simpa using hk⟩, by simp, by simp, t2, fun d hd => ?_, .inr ?_, by simp⟩
    · show (if (0 : Int) ≤ d then inPc _ d else false) = false
      rw [if_neg (by omega)]
    · rw [show max first 0 = 0 by omega]
      exact h2
  · rw [if_neg c]
    have hlt : ∀ g ∈ gs, g.1 < b := by
      obtain ⟨as, t, T, ms, e⟩ := pat_last h.ok
      have hne : t ≠ b := fun w => c (by rw [e, List.map_append, List.map_singleton, List.getLast?_concat, w])
      have ht := hlow (t, T, ms) (by rw [e]; simp)
      have ht0 := h.ok.nn (t, T, ms) (by rw [e]; simp)
      have ht : t = 0 ∨ t < b := ht
      have ht0 : 0 ≤ t := ht0
      intro g hg
      rw [e] at hg
      rcases List.mem_append.mp hg with w | w
      · have := h.ok.asc
        rw [e] at this
        have : g.1 < t := (List.pairwise_append.mp this).2.2 g w (t, T, ms) (by simp)
        omega
      · rw [List.mem_singleton.mp w]; show t < b; omega
    refine ⟨?_, fun g hg => ?_, fun g hg => ?_, tell2 gs fun d _ _ => rfl, fun d hd => ?_, .inr ?_, by have := h.len; simp; omega⟩
    · refine ⟨?_, List.pairwise_append.mpr ⟨h.ok.asc, by simp, fun a ha x hx => by rw [List.mem_singleton.mp hx]; exact hlt a ha⟩, fun p hp2 => ?_⟩
      · obtain ⟨k, r, e⟩ := h.ok.hd
        exact ⟨k, r ++ [(b, P, ns)], by rw [e]; rfl⟩
      · rcases List.mem_append.mp hp2 with w | w
        · exact h.ok.ok p w
        · rw [List.mem_singleton.mp w]; exact hk
    · rcases List.mem_append.mp hg with w | w
      · rcases h.below g w with u | ⟨u1, u2, u3⟩
        · exact .inl u
        · refine .inr ⟨u1, u2, fun p hp2 => ?_⟩
          have h3 := hlt g w
          have h4 := h1 p hp2
          exact Int.lt_trans h3 h4
      · rw [List.mem_singleton.mp w]
        exact .inr ⟨by show first ≤ b; omega, h2, fun p hp2 => h1 p hp2⟩
    · rcases List.mem_append.mp hg with w | w
      · exact h.org g w
      · rw [List.mem_singleton.mp w]
        show b = 0 ∨ b = first ∨ _
        by_cases c1 : b = 0
        · exact .inl c1
        · by_cases c2 : b = first
          · exact .inr (.inl c2)
          · exact .inr (.inr ⟨_, List.mem_of_getElem? hi, by show b = s; omega⟩)
    · rw [patB_snoc, if_neg (by show ¬ b ≤ d; omega)]
      exact h.early d hd
    · cases en with
      | none => rfl
      | some e =>
        have : b < e := by simpa [ltO] using h2
        simp only [ltO, decide_eq_true_eq]
        omega
/-- the end of a rule -/
inductive EndR where
  | never | till (e : Int) | count (c : Int)
def endRD : EndR → D
  | .never => .tup [.str (Str.ofString "never")]
  | .till e => .tup [.str (Str.ofString "until"), .int e]
  | .count c => .tup [.str (Str.ofString "count"), .int c]
/-- a rule by days or by weeks -/
structure Rul where
  wk : Bool
  iv : Int
  pk : List Int
  first : Int
  fin : EndR
def sDay : Str := Str.ofString "day"
def sWeek : Str := Str.ofString "week"
def kindS (r : Rul) : Str := if r.wk = true then sWeek else sDay
def rulD (r : Rul) : D := .tup [.str (kindS r), .int r.iv, .tup (r.pk.map D.int), .int r.first, endRD r.fin]
def turnC (r : Rul) (d : Int) : Bool := if r.wk = true then decide (d % 7 ∈ r.pk) && decide ((d / 7 - r.first / 7) % r.iv = 0) else decide ((d - r.first) % r.iv = 0)
def turnB (r : Rul) (d : Int) : Bool := decide (r.first ≤ d) && turnC r d
def finB (r : Rul) (d : Int) : Bool := match r.fin with
  | .never => true
  | .till e => decide (d ≤ e)
  | .count c => decide (cntF (turnB r) 0 d < c)
def rulB (r : Rul) (d : Int) : Bool := turnB r d && finB r d
structure RulOk (r : Rul) : Prop where
  iv : 1 ≤ r.iv ∧ (r.iv ≤ 8 ∧ r.iv ≠ 5 ∧ r.iv ≠ 7)
  st : 0 ≤ r.first ∧ r.first ≤ 300
  pk : if r.wk = true then Asc r.pk ∧ 0 < r.pk.length ∧ ∀ p ∈ r.pk, 0 ≤ p ∧ p < 7 else r.pk = []
  fin : match r.fin with | .never => True | .till e => r.first ≤ e ∧ e ≤ 1000 | .count c => 1 ≤ c ∧ c ≤ 12
/-- the rule begins before most, ends before most + 500 if it ends at a day -/
def RulM (most : Int) (r : Rul) : Prop := r.first < most ∧ ∀ e, r.fin = .till e → e < most + 500
def perR (r : Rul) : Int := if r.wk = true then 7 * r.iv else r.iv
theorem week_mod {q w i d : Int} (hi : 0 < i) (h0 : 0 ≤ w) (h7 : w < 7) : d % (7 * i) = (7 * q + w) % (7 * i) ↔ (d % 7 = w ∧ (d / 7 - q) % i = 0) := by
  have e := Int.emod_add_mul_ediv d 7
  constructor
  · intro h
    have h1 : 7 * i ∣ d - (7 * q + w) := Int.dvd_of_emod_eq_zero (by rw [Int.sub_emod, h, Int.sub_self, Int.zero_emod])
    obtain ⟨k, hk⟩ := h1
    rw [Int.mul_assoc] at hk
    have h2 : d % 7 = w := by
      have : d % 7 = (w + 7 * (q + i * k)) % 7 := by rw [show d = w + 7 * (q + i * k) by omega]
      rw [this, Int.add_mul_emod_self_left, Int.emod_eq_of_lt h0 h7]
    refine ⟨h2, ?_⟩
    rw [show d / 7 - q = i * k by omega, Int.mul_emod_right]
  · rintro ⟨h1, h2⟩
    obtain ⟨k, hk⟩ := Int.dvd_of_emod_eq_zero h2
    have : d = 7 * q + w + 7 * i * k := by rw [Int.mul_assoc]; omega
    rw [this, Int.add_mul_emod_self_left]
theorem perR_pos {r : Rul} (h : RulOk r) : 0 < perR r ∧ perR r ≤ 56 ∧ perR r ∣ 168 := by
  obtain ⟨h1, h2⟩ := h.iv
  unfold perR
  have : r.iv = 1 ∨ r.iv = 2 ∨ r.iv = 3 ∨ r.iv = 4 ∨ r.iv = 6 ∨ r.iv = 8 := by omega
  split <;> rcases this with e | e | e | e | e | e <;> rw [e] <;> decide
theorem turnC_per {r : Rul} (h : RulOk r) {d : Int} : turnC r (d + perR r) = turnC r d := by
  have h1 := h.iv.1
  unfold turnC perR
  cases r.wk with
  | false =>
    simp only [Bool.false_eq_true, if_false]
    rw [show d + r.iv - r.first = (d - r.first) + r.iv by omega, Int.add_emod_right]
  | true =>
    simp only [if_true]
    rw [show (d + 7 * r.iv) % 7 = d % 7 by omega, show (d + 7 * r.iv) / 7 - r.first / 7 = (d / 7 - r.first / 7) + r.iv by omega, Int.add_emod_right]
theorem turnC_per' {r : Rul} (h : RulOk r) {d : Int} : ∀ n : Nat, turnC r (d + n * perR r) = turnC r d
  | 0 => by rw [Int.natCast_zero, Int.zero_mul, Int.add_zero]
  | n + 1 => by rw [show d + ((n + 1 : Nat) : Int) * perR r = (d + n * perR r) + perR r by rw [Int.natCast_add, Int.add_mul]; omega, turnC_per h, turnC_per' h n]
theorem turnB_168 {r : Rul} (h : RulOk r) {d : Int} (hd : r.first ≤ d) : turnB r (d + 168) = turnB r d := by
  obtain ⟨h1, _, k, hk⟩ := perR_pos h
  unfold turnB
  have hk0 : 0 ≤ k := by
    rcases Int.lt_or_le k 0 with w | w
    · have := Int.mul_neg_of_pos_of_neg h1 w; omega
    · exact w
  have := turnC_per' h (d := d) k.toNat
  rw [Int.toNat_of_nonneg hk0, Int.mul_comm, ← hk] at this
  rw [this, decide_eq_true hd, decide_eq_true (show r.first ≤ d + 168 by omega)]
/-- there is a turn in each period -/
theorem turn_ex {r : Rul} (h : RulOk r) {a : Int} (ha : r.first ≤ a) : ∃ d, a ≤ d ∧ d < a + perR r ∧ turnB r d = true := by
  have h1 := h.iv.1
  have hp := h.pk
  unfold turnB turnC perR
  cases hw : r.wk with
  | false =>
    simp only [Bool.false_eq_true, if_false]
    refine ⟨a + (r.first - a) % r.iv, ?_, ?_, ?_⟩
    · have := Int.emod_nonneg (r.first - a) (show r.iv ≠ 0 by omega); omega
    · have := Int.emod_lt_of_pos (r.first - a) (show 0 < r.iv by omega); omega
    · have h2 := Int.emod_nonneg (r.first - a) (show r.iv ≠ 0 by omega)
      rw [decide_eq_true (by omega), Bool.true_and]
      refine decide_eq_true ?_
      have e := Int.emod_add_mul_ediv (r.first - a) r.iv
      rw [show a + (r.first - a) % r.iv - r.first = r.iv * -((r.first - a) / r.iv) by rw [Int.mul_neg]; omega, Int.mul_emod_right]
  | true =>
    rw [hw, if_pos rfl] at hp
    obtain ⟨_, h2, h3⟩ := hp
    obtain ⟨w, hwm⟩ : ∃ w, w ∈ r.pk := ⟨r.pk[0], List.getElem_mem h2⟩
    obtain ⟨w0, w7⟩ := h3 w hwm
    simp only [if_true]
    have hP : 0 < 7 * r.iv := by omega
    have m0 := Int.emod_nonneg (7 * (r.first / 7) + w - a) (show 7 * r.iv ≠ 0 by omega)
    have m1 := Int.emod_lt_of_pos (7 * (r.first / 7) + w - a) hP
    refine ⟨a + (7 * (r.first / 7) + w - a) % (7 * r.iv), by omega, by omega, ?_⟩
    rw [decide_eq_true (by omega), Bool.true_and]
    obtain ⟨g1, g2⟩ := (week_mod (d := a + (7 * (r.first / 7) + w - a) % (7 * r.iv)) (q := r.first / 7) (show 0 < r.iv by omega) w0 w7).mp (by
      rw [Int.add_emod_emod, show a + (7 * (r.first / 7) + w - a) = 7 * (r.first / 7) + w by omega])
    rw [g1, g2, decide_eq_true hwm]
    rfl
theorem turn_cnt {r : Rul} (h : RulOk r) : ∀ n : Nat, (n : Int) ≤ cntF (turnB r) 0 (r.first + n * perR r)
  | 0 => by rw [Int.natCast_zero]; exact cntF_nn
  | n + 1 => by
    obtain ⟨h1, h2, _⟩ := perR_pos h
    have h0 := h.st.1
    have ih := turn_cnt h n
    have hn : 0 ≤ (n : Int) * perR r := Int.mul_nonneg (by omega) (by omega)
    obtain ⟨d, d1, d2, d3⟩ := turn_ex h (a := r.first + n * perR r) (by omega)
    rw [show r.first + ((n + 1 : Nat) : Int) * perR r = (r.first + n * perR r) + perR r by rw [Int.natCast_add, Int.add_mul]; omega, cntF_split (b := r.first + n * perR r) (by omega) (by omega)]
    have := cntF_lt (f := turnB r) d1 d3 d2
    have := cntF_nn (f := turnB r) (a := r.first + n * perR r) (b := d)
    omega
theorem nth_bound {r : Rul} (h : RulOk r) {k v : Int} (hk : 0 ≤ k) (hn : IsNth (turnB r) k (some v)) : v ≤ r.first + (k + 1) * 56 := by
  obtain ⟨h1, h2, _⟩ := perR_pos h
  have h3 := turn_cnt h (k + 1).toNat
  rw [Int.toNat_of_nonneg (by omega)] at h3
  have h4 : (k + 1) * perR r ≤ (k + 1) * 56 := Int.mul_le_mul_of_nonneg_left h2 (by omega)
  rcases Int.lt_or_le (r.first + (k + 1) * 56) v with w | w
  · have h5 : cntF (turnB r) 0 v = k := hn.2.2
    have := cntF_le (f := turnB r) (a := 0) (show r.first + (k + 1) * perR r ≤ v by omega)
    omega
  · exact w
theorem str_ok : PyData.strOk sDay = true ∧ PyData.strOk sWeek = true ∧ PyData.strOk (Str.ofString "day") = true ∧ PyData.strOk (Str.ofString "week") = true ∧ PyData.strOk (Str.ofString "until") = true ∧ PyData.strOk (Str.ofString "count") = true ∧ PyData.strOk (Str.ofString "never") = true := by decide +kernel
theorem s_wd : sWeek ≠ sDay := by decide +kernel
theorem s_nu : Str.ofString "never" ≠ Str.ofString "until" ∧ Str.ofString "never" ≠ Str.ofString "count" ∧ Str.ofString "count" ≠ Str.ofString "until" ∧ Str.ofString "until" ≠ Str.ofString "count" ∧ Str.ofString "until" ≠ Str.ofString "never" ∧ Str.ofString "count" ≠ Str.ofString "never" := by decide +kernel
theorem unf_reg {r : Rul} {fs : List Pc} (h : RulOk r) (h1 : Tidy fs) (h2 : ∀ d, 0 ≤ d → patB fs d = rulB r d) (h3 : ∀ f ∈ fs, f.1 ≤ 1001) : Reg 168 1001 fs := by
  have hs := h.st
  have hf := h.fin
  refine Reg.comb h1 h3 (by decide) (T := 1001) fun d hd => ?_
  rw [h2 _ (by omega), h2 _ (by omega)]
  unfold rulB
  rw [turnB_168 h (show r.first ≤ d by omega)]
  unfold finB
  cases hq : r.fin with
  | never => rfl
  | till e =>
    rw [hq] at hf
    have hf : r.first ≤ e ∧ e ≤ 1000 := hf
    show (turnB r d && decide (d + 168 ≤ e)) = (turnB r d && decide (d ≤ e))
    rw [decide_eq_false (show ¬ d + 168 ≤ e by omega), decide_eq_false (show ¬ d ≤ e by omega)]
  | count c =>
    rw [hq] at hf
    have hf : 1 ≤ c ∧ c ≤ 12 := hf
    show (turnB r d && decide (cntF (turnB r) 0 (d + 168) < c)) = (turnB r d && decide (cntF (turnB r) 0 d < c))
    have h4 := turn_cnt h c.toNat
    rw [Int.toNat_of_nonneg (by omega)] at h4
    have h5 : c * perR r ≤ c * 56 := Int.mul_le_mul_of_nonneg_left (perR_pos h).2.1 (by omega)
    have h6 := cntF_le (f := turnB r) (a := 0) (show r.first + c * perR r ≤ d by omega)
    have h7 := cntF_le (f := turnB r) (a := 0) (show r.first + c * perR r ≤ d + 168 by omega)
    rw [decide_eq_false (show ¬ cntF (turnB r) 0 (d + 168) < c by omega), decide_eq_false (show ¬ cntF (turnB r) 0 d < c by omega)]
theorem fin_count {r : Rul} {c v : Int} (hq : r.fin = .count c) (hn : IsNth (turnB r) (c - 1) (some v)) {d : Int} (hd : 0 ≤ d) : (turnB r d && decide (d < v + 1)) = rulB r d := by
  obtain ⟨n1, n2, n3⟩ := hn
  unfold rulB finB
  rw [hq]
  show _ = (turnB r d && decide (cntF (turnB r) 0 d < c))
  by_cases ht : turnB r d = true
  · rw [ht, Bool.true_and, Bool.true_and]
    refine decide_eq_decide.mpr ⟨fun w => ?_, fun w => ?_⟩
    · have := cntF_le (f := turnB r) (a := 0) (show d ≤ v by omega)
      omega
    · rcases Int.lt_or_le v d with u | u
      · have := cntF_lt (f := turnB r) n1 n2 u
        omega
      · omega
  · rw [Bool.eq_false_iff.mpr ht, Bool.false_and, Bool.false_and]
theorem rgI_snoc {a b : Int} (h : a ≤ b) : rgI a (b + 1) = rgI a b ++ [b] := by
  rw [rgI_split h (show b ≤ b + 1 by omega), rgI_cons (show b < b + 1 by omega), rgI_nil (Int.le_refl _)]
/-- the first c of them -/
theorem take_cnt {f : Int → Bool} {c : Nat} : ∀ n : Nat, ((rgI 0 n).filter f).take c = (rgI 0 n).filter fun d => f d && decide (cntF f 0 d < c)
  | 0 => by rw [rgI_nil (by omega)]; simp
  | n + 1 => by
    rw [show ((n + 1 : Nat) : Int) = (n : Int) + 1 by omega, rgI_snoc (by omega), List.filter_append, List.filter_append, List.take_append, take_cnt n]
    congr 1
    have hl : (((rgI 0 (n : Int)).filter f).length : Int) = cntF f 0 n := rfl
    by_cases hf : f n = true
    · rw [List.filter_cons, if_pos hf, List.filter_nil, List.filter_cons, hf, Bool.true_and, List.filter_nil]
      by_cases hc : cntF f 0 n < c
      · rw [if_pos (decide_eq_true hc), List.take_of_length_le (by rw [List.length_singleton]; omega)]
      · rw [if_neg (by simpa using hc), show c - ((rgI 0 (n : Int)).filter f).length = 0 by omega, List.take_zero]
    · rw [List.filter_cons, if_neg hf, List.filter_nil, List.filter_cons, Bool.eq_false_iff.mpr hf, Bool.false_and, if_neg Bool.false_ne_true, List.filter_nil, List.take_nil]

instance : Inhabited Rul := ⟨⟨false, 1, [], 0, .never⟩⟩
def flagD (e : Int) (r : Rul) : D := .lst ((rgI 0 e).map fun d => D.bl (rulB r d))

def p_unit_of : PSp := fun ds M Q _ => match ds with
  | [.str k] => (k = sDay ∨ k = sWeek) ∧ Q (.va (.str k)) M
  | _ => False


def p_ascending : PSp := fun ds M Q _ => match ds with
  | [.tup xs, .int least, .int most] => ∃ ns : List Int, xs = ns.map D.int ∧ (Asc ns ∧ 0 < ns.length ∧ ns.length < 1000000 ∧ ∀ n ∈ ns, least ≤ n ∧ n ≤ most) ∧ Q (.va (.bl true)) M
  | _ => False

theorem em0 {a n : Int} (h : 1 ≤ n) : 0 ≤ a % n := Int.emod_nonneg _ (by omega)
theorem em1 {a n : Int} (h : 1 ≤ n) : a % n < n := Int.emod_lt_of_pos _ (by omega)
theorem ed0 {a n : Int} (h : 1 ≤ n) (ha : 0 ≤ a) : 0 ≤ a / n := Int.ediv_nonneg ha (by omega)

def p__law_same : PSp := fun ds M Q _ => match ds with
  | [.bl a, .bl b] => Q (.va (.bl (decide (a = b)))) M
  | _ => False

def p__law_mod : PSp := fun ds M Q _ => match ds with
  | [.int a, .int n] => (0 < n ∧ n < 18446744073709551616) ∧ Q (.va (.int (a % n))) M
  | _ => False


def p__law_lost : PSp := fun ds M Q _ => match ds with
  | [.lst xs, .int k, .lst ys, .int e] => ∃ (rs : List Rul) (i : Nat) (K : List Nat), xs = rs.map (flagD e) ∧ k = i ∧ ys = K.map (fun p : Nat => D.int p) ∧ (i < rs.length ∧ (∀ p ∈ K, p < rs.length) ∧ K.length ≤ 100 ∧ 0 ≤ e ∧ e < 10000) ∧
    ∀ b : Bool, (b = true ↔ ∃ d, (0 ≤ d ∧ d < e) ∧ rulB (rs.getD i default) d = true ∧ ∀ p ∈ K, rulB (rs.getD p default) d = false) → Q (.va (.bl b)) M
  | _ => False


def p_both : PSp := fun ds M Q _ => match ds with
  | [.int a, .int m, .int b, .int n] => (0 < m ∧ m < 18446744073709551616 ∧ 0 < n ∧ n < 18446744073709551616) ∧ ∀ r, IsBoth a m b n r → Q (.va (optD r)) M
  | _ => False


def p_shrunk : PSp := fun ds M Q _ => match ds with
  | [.int P, .tup xs] => ∃ ns : List Int, xs = ns.map D.int ∧ KdOk (P, ns) ∧ ∀ (P' : Int) (ns' : List Int), Res P' ns' → P' ≤ P → (∀ x, x % P' ∈ ns' ↔ x % P ∈ ns) → ns'.length ≤ ns.length → Mini P' ns' → Q (.va (.tup [.int P', .tup (ns'.map D.int)])) M
  | _ => False


def p_has : PSp := fun ds M Q _ => match ds with
  | [.int p, .tup xs, .int d] => ∃ ns : List Int, xs = ns.map D.int ∧ Asc ns ∧ 0 < p ∧ Q (.va (.bl (decide (d % p ∈ ns)))) M
  | _ => False

def p_many_below : PSp := fun ds M Q _ => match ds with
  | [.int p, .tup xs, .int d] => ∃ ns : List Int, xs = ns.map D.int ∧ Asc ns ∧ (0 < p ∧ p < 1267650600228229401496703205376 ∧ ns.length < 16777216) ∧ Q (.va (.int (d / p * ns.length + cntL ns (d % p)))) M
  | _ => False


def p_first_from : PSp := fun ds M Q _ => match ds with
  | [.int p, .tup xs, .int d] => ∃ ns : List Int, xs = ns.map D.int ∧ Asc ns ∧ (0 < p ∧ 0 < ns.length) ∧ Q (.va (.int (nextR p ns d))) M
  | _ => False


def p_picks_fit : PSp := fun ds M Q _ => match ds with
  | [.str k, .tup xs] => ∃ r : Rul, k = kindS r ∧ xs = r.pk.map D.int ∧ RulOk r ∧ Q (.va (.bl true)) M
  | _ => False


def p_turns_of : PSp := fun ds M Q _ => match ds with
  | [d0] => ∃ r : Rul, d0 = rulD r ∧ RulOk r ∧ ∀ ns, KdOk (perR r, ns) → 0 < ns.length → (∀ d, d % perR r ∈ ns ↔ turnC r d = true) → Q (.va (.tup [.int (perR r), .tup (ns.map D.int)])) M
  | _ => False


def p__law_ascending : PSp := fun ds M Q _ => match ds with
  | [.ref T, .int least, .int many] => ((T, MO.tape) ∈ M ∧ 1 ≤ many ∧ many < 1000000) ∧ ∀ ns : List Int, Asc ns → 0 < ns.length → (∀ r ∈ ns, least ≤ r ∧ r < least + many) → Q (.va (.tup (ns.map D.int))) M
  | _ => False


def p__law_rule_end : PSp := fun ds M Q _ => match ds with
  | [.ref T, .int first] => (T, MO.tape) ∈ M ∧ ∀ en : EndR, (match en with | .never => True | .till e => first ≤ e ∧ e < first + 500 | .count c => 1 ≤ c ∧ c ≤ 12) → Q (.va (endRD en)) M
  | _ => False


def p__law_turns : PSp := fun ds M Q _ => match ds with
  | [d0, .int b, .int e] => ∃ r : Rul, d0 = rulD r ∧ RulOk r ∧ (0 ≤ b ∧ b < 1000000 ∧ 0 ≤ e ∧ e < 1000000) ∧ Q (.ow (.lst (((rgI b e).filter (turnC r)).map D.int))) M
  | _ => False

/-- a twin: a rule that fits, or one that ends ahead of its beginning -/
def finT (first : Int) : EndR → EndR
  | .till e => .till (max e first)
  | x => x
def TwinR (f : Int) (r : Rul) : Prop := RulOk ⟨r.wk, r.iv, r.pk, r.first, finT r.first r.fin⟩ ∧ r.first ≤ f

def p__law_twin : PSp := fun ds M Q _ => match ds with
  | [.ref T, d1] => ∃ (r : Rul) (f : Int), d1 = rulD r ∧ ((T, MO.tape) ∈ M ∧ RulOk r ∧ r.first ≤ f ∧ f ≤ 240) ∧ ∀ s, TwinR (f + 56) s → Q (.va (rulD s)) M
  | _ => False


def p_met : PSp := fun ds M Q _ => match ds with
  | [.tup [.int p, .tup xs], .tup [.int q, .tup ys]] => ∃ as bs : List Int, xs = as.map D.int ∧ ys = bs.map D.int ∧ (KdOk (p, as) ∧ KdOk (q, bs) ∧ lcmI p q < 1000000000 ∧ metBnd p as q bs < 4000) ∧
    ∀ (P' : Int) (ns' : List Int), Res P' ns' → P' ≤ lcmI p q → (∀ x, x % P' ∈ ns' ↔ x % p ∈ as ∧ x % q ∈ bs) → ns'.length ≤ metBnd p as q bs → Mini P' ns' → Q (.va (.tup [.int P', .tup (ns'.map D.int)])) M
  | _ => False


def p_joined : PSp := fun ds M Q _ => match ds with
  | [.tup [.int p, .tup xs], .tup [.int q, .tup ys]] => ∃ as bs : List Int, xs = as.map D.int ∧ ys = bs.map D.int ∧ (KdOk (p, as) ∧ KdOk (q, bs) ∧ lcmI p q < 1000000000 ∧ lcmI p q / p * as.length + lcmI p q / q * bs.length < 4000) ∧
    ∀ (P' : Int) (ns' : List Int), Res P' ns' → P' ≤ lcmI p q → (∀ x, x % P' ∈ ns' ↔ x % p ∈ as ∨ x % q ∈ bs) → (ns'.length : Int) ≤ lcmI p q / p * as.length + lcmI p q / q * bs.length → Mini P' ns' → Q (.va (.tup [.int P', .tup (ns'.map D.int)])) M
  | _ => False


def p_without : PSp := fun ds M Q _ => match ds with
  | [.tup [.int p, .tup xs], .tup [.int q, .tup ys]] => ∃ as bs : List Int, xs = as.map D.int ∧ ys = bs.map D.int ∧ (KdOk (p, as) ∧ KdOk (q, bs) ∧ lcmI p q < 1000000000 ∧ lcmI p q / p * as.length < 4000) ∧
    ∀ (P' : Int) (ns' : List Int), Res P' ns' → P' ≤ lcmI p q → (∀ x, x % P' ∈ ns' ↔ x % p ∈ as ∧ ¬ x % q ∈ bs) → (ns'.length : Int) ≤ lcmI p q / p * as.length → Mini P' ns' → Q (.va (.tup [.int P', .tup (ns'.map D.int)])) M
  | _ => False


def p_tidied : PSp := fun ds M Q _ => match ds with
  | [.lst xs] => ∃ ps : List Pc, xs = ps.map pcD ∧ (PatOk ps ∧ ps.length < 100000) ∧ ∀ fs, Tidy fs → (∀ d, patB fs d = patB ps d) → fs.length ≤ ps.length → TdSub ps fs → Q (.va (.tup (fs.map pcD))) M
  | _ => False


def p_next_from : PSp := fun ds M Q _ => match ds with
  | [.tup xs, .int day] => ∃ ps : List Pc, xs = ps.map pcD ∧ (PatOk ps ∧ ps.length < 1000000) ∧ ∀ r, IsNext (patB ps) day r → Q (.va (optD r)) M
  | _ => False


def p_nth_of : PSp := fun ds M Q _ => match ds with
  | [.tup xs, .int k] => ∃ ps : List Pc, xs = ps.map pcD ∧ (PatOk ps ∧ ps.length < 1000000 ∧ 0 ≤ k) ∧ ∀ r, IsNth (patB ps) k r → Q (.va (optD r)) M
  | _ => False


def p_within_stretch : PSp := fun ds M Q _ => match ds with
  | [.int s, .int e, .tup [.int p, .tup xs]] => ∃ as : List Int, xs = as.map D.int ∧ (Res p as ∧ as.length < 16000000 ∧ cntF (inR (p, as)) s e < 16777216) ∧ Q (.ow (.lst (((rgI s e).filter (inR (p, as))).map D.int))) M
  | _ => False


def p_rule_fits : PSp := fun ds M Q _ => match ds with
  | [d0] => ∃ r : Rul, d0 = rulD r ∧ RulOk r ∧ Q (.va (.bl true)) M
  | _ => False


def p__law_rule_days : PSp := fun ds M Q _ => match ds with
  | [d0, .int e] => ∃ r : Rul, d0 = rulD r ∧ RulOk r ∧ (0 ≤ e ∧ e < 100000) ∧ Q (.va (.lst (((rgI 0 (max e r.first)).filter (rulB r)).map D.int))) M
  | _ => False


def p__law_small_rule : PSp := fun ds M Q _ => match ds with
  | [.ref T, .int most] => ((T, MO.tape) ∈ M ∧ 1 ≤ most ∧ most ≤ 300) ∧ ∀ r : Rul, RulOk r → RulM most r → Q (.va (rulD r)) M
  | _ => False

def p_from_day : PSp := fun ds M Q _ => match ds with
  | [.int s, .int P, .tup xs] => ∃ ns : List Int, xs = ns.map D.int ∧ KdOk (P, ns) ∧ ∀ fs, Tidy fs → (∀ d, patB fs d = (decide (0 ≤ d ∧ s ≤ d) && decide (d % P ∈ ns))) → fs.length ≤ 2 → (∀ f ∈ fs, f.2.1 ≤ P ∧ f.2.2.length ≤ ns.length ∧ (f.1 = 0 ∨ f.1 = s)) → Q (.va (.tup (fs.map pcD))) M
  | _ => False


def p_short_stretch : PSp := fun ds M Q _ => match ds with
  | [.str w, .int s, .int e, .tup [.int p, .tup xs], .tup [.int q, .tup ys]] => ∃ as bs : List Int, xs = as.map D.int ∧ ys = bs.map D.int ∧ (PyData.strOk w = true ∧ ShOk w (p, as) (q, bs) s e ∧ s < e ∧ e - s < lcmI p q) ∧
    ∀ ns, Res (e - s) ns → (∀ d, s ≤ d → d < e → (d % (e - s) ∈ ns ↔ combB w (inR (p, as) d) (inR (q, bs) d) = true)) → ns.length < 4000 → Q (.va (.tup [.int (e - s), .tup (ns.map D.int)])) M
  | _ => False


def p_limited : PSp := fun ds M Q _ => match ds with
  | [.tup xs, .int first, e0] => ∃ (ps : List Pc) (en : Option Int), xs = ps.map pcD ∧ e0 = optD en ∧ (PatOk ps ∧ ps.length < 90000) ∧
    ∀ fs, Tidy fs → (∀ d, 0 ≤ d → patB fs d = (patB ps d && decide (first ≤ d) && ltO d en)) → (∀ f ∈ fs, f.1 = 0 ∨ f.1 = first ∨ some f.1 = en ∨ ∃ p ∈ ps, f.1 = p.1) → fs.length ≤ ps.length + 2 → Q (.va (.tup (fs.map pcD))) M
  | _ => False


def p__law_flags : PSp := fun ds M Q _ => match ds with
  | [d0, .int e] => ∃ r : Rul, d0 = rulD r ∧ (RulOk r ∧ 0 ≤ e ∧ e < 10000) ∧ Q (.va (flagD e r)) M
  | _ => False


def p_put_together : PSp := fun ds M Q _ => match ds with
  | [.str w, .tup xs, .tup ys] => ∃ ps qs : List Pc, xs = ps.map pcD ∧ ys = qs.map pcD ∧ (PyData.strOk w = true ∧ PatOk ps ∧ PatOk qs ∧ ps.length + qs.length < 4000 ∧ StepsOk w ps qs) ∧
    ∀ fs, Tidy fs → (∀ d, 0 ≤ d → patB fs d = combB w (patB ps d) (patB qs d)) → fs.length ≤ ps.length + qs.length →
      (∀ f ∈ fs, (∃ r ∈ ps ++ qs, f.1 = r.1) ∧ ∃ a ∈ ps, ∃ b ∈ qs, f.2.1 ≤ lcmI a.2.1 b.2.1) → Q (.va (.tup (fs.map pcD))) M
  | _ => False


def p_unfolded : PSp := fun ds M Q _ => match ds with
  | [d0] => ∃ r : Rul, d0 = rulD r ∧ RulOk r ∧ ∀ fs, Tidy fs → (∀ d, 0 ≤ d → patB fs d = rulB r d) → fs.length ≤ 4 → Reg 168 1001 fs → Q (.va (.tup (fs.map pcD))) M
  | _ => False


def p_union : PSp := fun ds M Q _ => match ds with
  | [.tup xs, .tup ys] => ∃ ps qs : List Pc, xs = ps.map pcD ∧ ys = qs.map pcD ∧ (PatOk ps ∧ PatOk qs ∧ ps.length + qs.length < 4000 ∧ StepsOk wEither ps qs) ∧
    ∀ fs, Tidy fs → (∀ d, 0 ≤ d → patB fs d = (patB ps d || patB qs d)) → fs.length ≤ ps.length + qs.length →
      (∀ f ∈ fs, (∃ r ∈ ps ++ qs, f.1 = r.1) ∧ ∃ a ∈ ps, ∃ b ∈ qs, f.2.1 ≤ lcmI a.2.1 b.2.1) → Q (.va (.tup (fs.map pcD))) M
  | _ => False


def p_minus : PSp := fun ds M Q _ => match ds with
  | [.tup xs, .tup ys] => ∃ ps qs : List Pc, xs = ps.map pcD ∧ ys = qs.map pcD ∧ (PatOk ps ∧ PatOk qs ∧ ps.length + qs.length < 4000 ∧ StepsOk wFirst ps qs) ∧
    ∀ fs, Tidy fs → (∀ d, 0 ≤ d → patB fs d = (patB ps d && !patB qs d)) → fs.length ≤ ps.length + qs.length →
      (∀ f ∈ fs, (∃ r ∈ ps ++ qs, f.1 = r.1) ∧ ∃ a ∈ ps, ∃ b ∈ qs, f.2.1 ≤ lcmI a.2.1 b.2.1) → Q (.va (.tup (fs.map pcD))) M
  | _ => False


def p_within : PSp := fun ds M Q _ => match ds with
  | [.tup xs, .tup ys] => ∃ ps qs : List Pc, xs = ps.map pcD ∧ ys = qs.map pcD ∧ (PatOk ps ∧ PatOk qs ∧ ps.length + qs.length < 4000 ∧ StepsOk wFirst ps qs) ∧
    ∀ b : Bool, (b = true ↔ ∀ d, 0 ≤ d → patB ps d = true → patB qs d = true) → Q (.va (.bl b)) M
  | _ => False


def p_first_difference : PSp := fun ds M Q _ => match ds with
  | [.tup xs, .tup ys] => ∃ (ps qs : List Pc) (L B : Int), xs = ps.map pcD ∧ ys = qs.map pcD ∧ ((0 < L ∧ L < 1950) ∧ (0 ≤ B ∧ B < 1800) ∧ Reg L B ps ∧ Reg L B qs) ∧
    ∀ r, IsNext (fun d => patB ps d != patB qs d) 0 r → Q (.va (optD r)) M
  | _ => False


def p_same_days : PSp := fun ds M Q _ => match ds with
  | [d0, d1] => ∃ r s : Rul, d0 = rulD r ∧ d1 = rulD s ∧ (RulOk r ∧ RulOk s) ∧ ∀ b : Bool, (b = true ↔ ∀ d, 0 ≤ d → rulB r d = rulB s d) → Q (.va (.bl b)) M
  | _ => False


def p_implied_by : PSp := fun ds M Q _ => match ds with
  | [d0, d1] => ∃ (r : Rul) (ss : List Rul), d0 = rulD r ∧ (d1 = .tup (ss.map rulD) ∨ d1 = .lst (ss.map rulD)) ∧ (RulOk r ∧ (∀ s ∈ ss, RulOk s) ∧ ss.length ≤ 8) ∧
    ∀ b : Bool, (b = true ↔ ∀ d, 0 ≤ d → rulB r d = true → ∃ s ∈ ss, rulB s d = true) → Q (.va (.bl b)) M
  | _ => False

/-- the places that are kept, from the last one on -/
def needR (imp : Nat → List Nat → Bool) : Nat → List Nat → List Nat
  | 0, K => K
  | k + 1, K => needR imp k (if imp k (K.filter fun p => decide (p ≠ k)) = true then K.filter (fun p => decide (p ≠ k)) else K)

def p_needed_rules : PSp := fun ds M Q _ => match ds with
  | [.tup xs] => ∃ rs : List Rul, xs = rs.map rulD ∧ ((∀ r ∈ rs, RulOk r) ∧ rs.length ≤ 8) ∧
    ∀ imp : Nat → List Nat → Bool, (∀ k K, k < rs.length → (∀ p ∈ K, p < rs.length) → (imp k K = true ↔ ∀ d, 0 ≤ d → rulB (rs.getD k default) d = true → ∃ p ∈ K, rulB (rs.getD p default) d = true)) →
      Q (.va (.tup ((needR imp rs.length (List.range rs.length)).map fun k => rulD (rs.getD k default)))) M
  | _ => False

local macro_rules | `(tactic| walk_at "go") => `(tactic| repeat' (first | assumption | with_reducible apply And.intro | walk_at "cs"))
local macro_rules | `(tactic| walk_at "ex") => `(tactic| simp only [List.cons.injEq, Sl.va.injEq, Sl.ow.injEq, Ow.lst.injEq, D.int.injEq, D.bl.injEq, D.str.injEq, D.lst.injEq, D.tup.injEq, true_and, and_true])
local macro_rules | `(tactic| walk_at "gn") => `(tactic| simp only [↓gN, ↓gsNil, ↓gsCons, ↓gT, ↓gSq, List.length_cons, List.length_nil, Nat.reduceAdd, true_and, List.set_cons_zero, List.set_cons_succ])
local macro_rules | `(tactic| walk_at "sp") => `(tactic| repeat' (first | split | with_reducible apply And.intro))
local macro_rules | `(tactic| walk_at "cs") => `(tactic| first | (unfold CMulP; omega) | (unfold CPowP; omega) | (unfold CModP; omega) | (unfold CDivP; omega))
local macro_rules | `(tactic| walk_at "pl") => `(tactic| simp only [↓sSeq, ↓sAsg, ↓sRet, ↓sRetN, ↓sDrop, ↓sPar, ↓sNext, ↓sTgt, ↓eVar, ↓bVar, ↓bE, ↓eBin, ↓tE, chS_bl, chS_true, chS_false, wipeE_nil, wipeE_cons, ↓aNil, ↓aCons, ↓eTup, Option.isSome_some, lk_int, lk_str, ↓gN, ↓gsNil, ↓gsCons, ↓dI2, ↓gSq, natc0, natc1, natc2, List.findIdx?_cons, List.findIdx?_nil, intsOf_ints, boolsOf_bls, plAnyI, plAnyR, ↓Sl.val, ↓Ow.toD, ↓stE, ↓PL.isNon, ↓eC, ↓bC, ↓dSub, ↓dMul, ↓dDiv, ↓dMod, ↓dGt, List.getElem?_cons_zero, List.getElem?_cons_succ, List.set_cons_zero, List.set_cons_succ, List.map_cons, List.map_nil, List.length_cons, List.length_nil, List.nil_append, List.cons_append, List.replicate_succ, List.replicate_zero, List.append_nil, atI0, atI1, atI2, atI3, atI4, cmpOk_int, cmpOk_bl, cmpOk_non, deq_int, deq_bl, true_and, and_true, Nat.reduceAdd, Nat.reduceSub, Nat.reduceLeDiff, Nat.reduceLT, Bool.not_eq_true', Bool.false_eq_true, if_false, if_true, decide_eq_true_eq, decide_eq_false_iff_not, Nat.zero_add, Nat.sub_zero, Nat.add_zero, Nat.sub_self, ixN31, ixN32, List.length_map, List.length_set, Int.reduceToNat, Int.reducePow, Int.reduceNeg, Int.reduceAdd, Int.reduceSub, Int.reduceMul, Int.reduceLT, Int.reduceLE, Int.reduceEq, Nat.reduceEqDiff, reduceCtorEq, List.mem_singleton, eq_self, not_true_eq_false, not_false_eq_true, or_true, true_or, cmpOk_lstA, cmpOk_tupA, ckA_lst, ckA_tup, ckAl_nil, ckAl_cons, ckAl_ints, ckAl_rangeL, ck_int, ck_bl, ck_non, ck_strI, cmpOk_str, deq_str, deq_tup, deq_lst, deqA_nil, deqA_cons, deqA_ints, Bool.and_true, Bool.true_and, Bool.and_false, Bool.false_and, decide_true, decide_false, Bool.not_true, Bool.not_false])
theorem ok_inverse (T : TF K mg) : FnOk P w K mg base CX0 1 T.a_inverse T.x_inverse ["a", "m"] (liP K p_inverse) := by
  refine fn_P T.f_inverse sc_inverse (by intro ds M Q E h; unfold p_inverse at h; split at h <;> first | rfl | exact h.elim) (fun cdv A outer s H E z hz hr => (qs_cons (qs_par (i := 2) (j := 3) rfl sc_inverse.nd rfl rfl (by decide) rfl rfl (qa_cons (qe_bin ob_mod (qb_var 0) (qb_var 1)) (qa_cons (qe_var 1) qa_nil)) (by rfl))
    (qs_cons (qs_asg (qe_tup (qa_cons qe_int (qa_cons qe_int qa_nil))) (qg_seq (n := 2) rfl (qgs_cons (qg_name (i := 4) sc_inverse.nd rfl (by first | exact Or.inl rfl | exact Or.inr rfl)) (qgs_cons (qg_name (i := 5) sc_inverse.nd rfl (by first | exact Or.inl rfl | exact Or.inr rfl)) qgs_nil))))
    (qs_cons (qs_while PassesOwn.never (qt_cmp ob_gt (qb_var 3) qb_int (nomark _))
    (qs_cons (qs_set (i := 6) sc_inverse.nd rfl (by first | exact Or.inl rfl | exact Or.inr rfl) (qe_bin ob_div (qb_var 2) (qb_var 3)))
    (qs_cons (qs_par (i := 2) (j := 3) rfl sc_inverse.nd rfl rfl (by decide) rfl rfl (qa_cons (qe_var 3) (qa_cons (qe_bin ob_sub (qb_var 2) (qb_of (qe_bin ob_mul (qb_var 6) (qb_var 3)))) qa_nil)) (by rfl))
    (qs_end (qs_par (i := 4) (j := 5) rfl sc_inverse.nd rfl rfl (by decide) rfl rfl (qa_cons (qe_var 5) (qa_cons (qe_bin ob_sub (qb_var 4) (qb_of (qe_bin ob_mul (qb_var 6) (qb_var 5)))) qa_nil)) (by rfl))))))
    (qs_end (qs_ret (qe_bin ob_mod (qb_var 4) (qb_var 1)))))))) ?_
  intro ds M Q0 h
  unfold p_inverse at h
  split at h
  · skip
    obtain ⟨⟨hm, hm2⟩, h⟩ := h
    rename_i a m
    refine sSeq_i fun N1 h1 => ?_
    walk_at "pl"
    refine ⟨by walk_at "cs", h1 _ _ ?_⟩
    clear h1
    refine sSeq_i fun N1 h1 => ?_
    walk_at "pl"
    refine h1 _ _ ?_
    clear h1
    refine sSeq_i fun N1 h1 => ?_
    refine sWhile_i (fun k ρ M1 => M1 = M ∧ ∃ (o n l r : Int) (t : Sl), k = n.toNat ∧ InvI a m o n l r ∧ ρ = [.va (.int a), .va (.int m), .va (.int o), .va (.int n), .va (.int l), .va (.int r), t]) _ ⟨rfl, _, _, _, _, .un, rfl, InvI.start hm, rfl⟩ ?_
    rintro k J hJ ρ M1 ⟨e, o, n, l, r, t, rfl, hi, rfl⟩
    subst e
    walk_at "pl"
    by_cases c : 0 < n
    · rw [if_pos c]
      have hq : 0 ≤ o / n ∧ o / n ≤ o := ⟨Int.ediv_nonneg hi.o0 (by omega), Int.ediv_le_self _ hi.o0⟩
      have := hi.om
      have := hi.nm
      obtain ⟨s1, s2⟩ := hi.step c
      exact ⟨by walk_at "cs", by walk_at "cs", by walk_at "cs", hJ _ _ _ (by have := s1.n0; omega) ⟨rfl, _, _, _, _, _, rfl, s1, rfl⟩⟩
    · rw [if_neg c]
      refine h1 _ _ ?_
      walk_at "pl"
      have hn : n = 0 := by have := hi.n0; omega
      subst hn
      exact ⟨by walk_at "cs", h _ (hi.fin hm)⟩
  · exact h.elim

local macro_rules | `(tactic| walk_at "go") => `(tactic| repeat' (first | assumption | with_reducible apply And.intro | walk_at "cs"))
local macro_rules | `(tactic| walk_at "ex") => `(tactic| simp only [List.cons.injEq, Sl.va.injEq, Sl.ow.injEq, Ow.lst.injEq, D.int.injEq, D.bl.injEq, D.str.injEq, D.lst.injEq, D.tup.injEq, true_and, and_true])
local macro_rules | `(tactic| walk_at "gn") => `(tactic| simp only [↓gN, ↓gsNil, ↓gsCons, ↓gT, ↓gSq, List.length_cons, List.length_nil, Nat.reduceAdd, true_and, List.set_cons_zero, List.set_cons_succ])
local macro_rules | `(tactic| walk_at "sp") => `(tactic| repeat' (first | split | with_reducible apply And.intro))
local macro_rules | `(tactic| walk_at "cs") => `(tactic| first | (unfold CMulP; omega) | (unfold CPowP; omega) | (unfold CModP; omega) | (unfold CDivP; omega))
local macro_rules | `(tactic| walk_at "pl") => `(tactic| simp only [↓sSeq, ↓sAsg, ↓sRet, ↓sRetN, ↓sIf, ↓sDrop, ↓sAug, ↓sNext, ↓sApp, ↓eVar, ↓bVar, ↓eMov, ↓bE, ↓eBin, ↓tE, chS_bl, chS_true, chS_false, wipeE_nil, wipeE_cons, ↓aNil, ↓aCons, ↓eLst, Option.isSome_some, lk_int, lk_str, ↓dI2, ↓dEq, natc0, natc1, natc2, List.findIdx?_cons, List.findIdx?_nil, intsOf_ints, boolsOf_bls, plAnyI, plAnyR, ↓Sl.val, ↓Ow.toD, ↓stE, ↓PL.isNon, ↓eC, ↓bC, ↓dMul, ↓dMod, ↓dLe, ↓dGt, ↓dAddI, ↓dDivS, List.getElem?_cons_zero, List.getElem?_cons_succ, List.set_cons_zero, List.set_cons_succ, List.map_cons, List.map_nil, List.length_cons, List.length_nil, List.nil_append, List.cons_append, List.replicate_succ, List.replicate_zero, List.append_nil, atI0, atI1, atI2, atI3, atI4, cmpOk_int, cmpOk_bl, cmpOk_non, deq_int, deq_bl, true_and, and_true, Nat.reduceAdd, Nat.reduceSub, Nat.reduceLeDiff, Nat.reduceLT, Bool.not_eq_true', Bool.false_eq_true, if_false, if_true, decide_eq_true_eq, decide_eq_false_iff_not, Nat.zero_add, Nat.sub_zero, Nat.add_zero, Nat.sub_self, ixN31, ixN32, List.length_map, List.length_set, Int.reduceToNat, Int.reducePow, Int.reduceNeg, Int.reduceAdd, Int.reduceSub, Int.reduceMul, Int.reduceLT, Int.reduceLE, Int.reduceEq, Nat.reduceEqDiff, reduceCtorEq, List.mem_singleton, eq_self, not_true_eq_false, not_false_eq_true, or_true, true_or, cmpOk_lstA, cmpOk_tupA, ckA_lst, ckA_tup, ckAl_nil, ckAl_cons, ckAl_ints, ckAl_rangeL, ck_int, ck_bl, ck_non, ck_strI, cmpOk_str, deq_str, deq_tup, deq_lst, deqA_nil, deqA_cons, deqA_ints, Bool.and_true, Bool.true_and, Bool.and_false, Bool.false_and, decide_true, decide_false, Bool.not_true, Bool.not_false])
theorem ok_primes_of (T : TF K mg) : FnOk P w K mg base CX0 1 T.a_primes_of T.x_primes_of ["n"] (liP K p_primes_of) := by
  refine fn_P T.f_primes_of sc_primes_of (by intro ds M Q E h; unfold p_primes_of at h; split at h <;> first | rfl | exact h.elim) (fun cdv A outer s H E z hz hr => (qs_cons (qs_set (i := 1) sc_primes_of.nd rfl (by first | exact Or.inl rfl | exact Or.inr rfl) (qe_lst qa_nil))
    (qs_cons (qs_set (i := 2) sc_primes_of.nd rfl (by first | exact Or.inl rfl | exact Or.inr rfl) qe_int)
    (qs_cons (qs_while PassesOwn.never (qt_cmp ob_le (qb_of (qe_bin ob_mul (qb_var 2) (qb_var 2))) (qb_var 0) (nomark _))
    (qs_cons (qs_if (qt_cmp (ob_eq (hu64 hr)) (qb_of (qe_bin ob_mod (qb_var 0) (qb_var 2))) qb_int (nomark _))
    (qs_cons (qs_append (i := 1) rfl (by first | exact Or.inl rfl | exact Or.inr (Or.inl rfl) | exact Or.inr (Or.inr rfl)) (qe_var 2))
    (qs_end (qs_while PassesOwn.never (qt_cmp (ob_eq (hu64 hr)) (qb_of (qe_bin ob_mod (qb_var 0) (qb_var 2))) qb_int (nomark _))
    (qs_end (qs_aug (i := 0) sc_primes_of.nd rfl (by first | exact Or.inl rfl | exact Or.inr rfl) (qb_var 2) ib_div)))))
    qs_nil)
    (qs_end (qs_aug (i := 2) sc_primes_of.nd rfl (by first | exact Or.inl rfl | exact Or.inr rfl) qb_int ib_add))))
    (qs_cons (qs_if (qt_cmp ob_gt (qb_var 0) qb_int (nomark _))
    (qs_end (qs_append (i := 1) rfl (by first | exact Or.inl rfl | exact Or.inr (Or.inl rfl) | exact Or.inr (Or.inr rfl)) (qe_var 0)))
    qs_nil)
    (qs_end (qs_ret (qe_mov 1)))))))) ?_
  intro ds M Q0 h
  unfold p_primes_of at h
  split at h
  · skip
    obtain ⟨hb, h⟩ := h
    rename_i n0
    walk_at "pl"
    have hlen : ∀ {n p : Int} {ps : List Int}, PrInv n0 n p ps → 2 ≤ p → p ≤ 1000000 → ps.length < 16777216 := by
      intro n p ps hi h2 h3
      have := asc_len (a := 2) (b := p) hi.asc (fun k hk => by have := (hi.mem k).mp hk; exact ⟨this.1.1, this.2.2⟩) h2
      omega
    have hbd : ∀ {n p : Int} {ps : List Int}, PrInv n0 n p ps → n ≤ n0 := fun hi => Int.le_of_dvd (by omega) hi.dv
    refine sWhile_i (fun m ρ M1 => M1 = M ∧ ∃ n p ps, m = (1000001 - p).toNat ∧ 2 ≤ p ∧ p ≤ 1000000 ∧ PrInv n0 n p ps ∧ ρ = [.va (.int n), .ow (.lst (ps.map D.int)), .va (.int p)]) 999999 ⟨rfl, n0, 2, [], rfl, by omega, by omega, PrInv.start hb.1, rfl⟩ ?_
    rintro m J hJ ρ M1 ⟨e, n, p, ps, hm, hp, hp2, hi, rfl⟩
    subst e
    have hn := hbd hi
    have hn1 := hi.pos
    walk_at "pl"
    refine ⟨by walk_at "cs", ?_⟩
    by_cases c1 : p * p ≤ n
    · rw [if_pos c1]
      have hp3 : p < 1000000 := by
        rcases Int.lt_or_le p 1000000 with w | w
        · exact w
        · have := Int.mul_le_mul w w (by omega) (by omega)
          omega
      have next : ∀ {n' : Int} {ps' : List Int}, PrInv n0 n' (p + 1) ps' → J [.va (.int n'), .ow (.lst (ps'.map D.int)), .va (.int (p + 1))] M1 := fun hi' => hJ _ _ _ (by omega) ⟨rfl, _, p + 1, _, rfl, by omega, by omega, hi', rfl⟩
      refine ⟨by walk_at "cs", ?_⟩
      by_cases c2 : n % p = 0
      · rw [if_pos c2]
        refine ⟨hlen hi hp hp2, ?_⟩
        have hmid := hi.found hp (Int.dvd_of_emod_eq_zero c2)
        refine sWhile_i (fun m ρ M2 => M2 = M1 ∧ ∃ n', m = n'.toNat ∧ PrMid n0 n' p (ps ++ [p]) ∧ ρ = [.va (.int n'), .ow (.lst ((ps ++ [p]).map D.int)), .va (.int p)]) n.toNat ⟨rfl, n, rfl, hmid, by simp⟩ ?_
        rintro m2 J2 hJ2 ρ M2 ⟨e, n', rfl, hi2, rfl⟩
        subst e
        have hn2 := hi2.pos
        walk_at "pl"
        refine ⟨by walk_at "cs", ?_⟩
        by_cases c3 : n' % p = 0
        · rw [if_pos c3]
          refine ⟨⟨by omega, by omega⟩, ?_⟩
          refine hJ2 (n' / p).toNat _ _ ?_ ⟨rfl, n' / p, rfl, hi2.div (Int.dvd_of_emod_eq_zero c3), rfl⟩
          have := Int.ediv_lt_self_of_pos_of_ne_one (x := n') (y := p) (by omega) (by omega)
          omega
        · rw [if_neg c3]
          exact next (hi2.fin fun w => c3 (Int.emod_eq_zero_of_dvd w))
      · rw [if_neg c2]
        exact next (hi.skip hp fun w => c2 (Int.emod_eq_zero_of_dvd w))
    · rw [if_neg c1]
      by_cases c4 : 1 < n
      · rw [if_pos c4]
        refine ⟨hlen hi hp hp2, ?_⟩
        rw [show ps.map D.int ++ [D.int n] = (ps ++ [n]).map D.int by simp]
        exact h _ (hi.last hp (by omega) c4)
      · rw [if_neg c4]
        have e : n = 1 := by omega
        subst e
        exact h _ (hi.one hp)
  · exact h.elim

local macro_rules | `(tactic| walk_at "go") => `(tactic| repeat' (first | assumption | with_reducible apply And.intro | walk_at "cs"))
local macro_rules | `(tactic| walk_at "ex") => `(tactic| simp only [List.cons.injEq, Sl.va.injEq, Sl.ow.injEq, Ow.lst.injEq, D.int.injEq, D.bl.injEq, D.str.injEq, D.lst.injEq, D.tup.injEq, true_and, and_true])
local macro_rules | `(tactic| walk_at "gn") => `(tactic| simp only [↓gN, ↓gsNil, ↓gsCons, ↓gT, ↓gSq, List.length_cons, List.length_nil, Nat.reduceAdd, true_and, List.set_cons_zero, List.set_cons_succ])
local macro_rules | `(tactic| walk_at "sp") => `(tactic| repeat' (first | split | with_reducible apply And.intro))
local macro_rules | `(tactic| walk_at "cs") => `(tactic| first | (unfold CMulP; omega) | (unfold CPowP; omega) | (unfold CModP; omega) | (unfold CDivP; omega))
local macro_rules | `(tactic| walk_at "pl") => `(tactic| simp only [↓sSeq, ↓sAsg, ↓sRet, ↓sRetN, ↓sIf, ↓sDrop, ↓sPar, ↓sNext, ↓eVar, ↓bVar, ↓bE, ↓eBin, ↓tE, chS_bl, chS_true, chS_false, wipeE_nil, wipeE_cons, ↓aNil, ↓aCons, ↓aConsB, Option.isSome_some, lk_int, lk_str, ↓dI2, ↓dAdd, ↓dIx, ↓eB, ↓cLen, natc0, natc1, natc2, List.findIdx?_cons, List.findIdx?_nil, intsOf_ints, boolsOf_bls, plAnyI, plAnyR, ↓Sl.val, ↓Ow.toD, ↓stE, ↓PL.isNon, ↓eC, ↓bC, ↓dDiv, ↓dLt, List.getElem?_cons_zero, List.getElem?_cons_succ, List.set_cons_zero, List.set_cons_succ, List.map_cons, List.map_nil, List.length_cons, List.length_nil, List.nil_append, List.cons_append, List.replicate_succ, List.replicate_zero, List.append_nil, atI0, atI1, atI2, atI3, atI4, cmpOk_int, cmpOk_bl, cmpOk_non, deq_int, deq_bl, true_and, and_true, Nat.reduceAdd, Nat.reduceSub, Nat.reduceLeDiff, Nat.reduceLT, Bool.not_eq_true', Bool.false_eq_true, if_false, if_true, decide_eq_true_eq, decide_eq_false_iff_not, Nat.zero_add, Nat.sub_zero, Nat.add_zero, Nat.sub_self, ixN31, ixN32, List.length_map, List.length_set, Int.reduceToNat, Int.reducePow, Int.reduceNeg, Int.reduceAdd, Int.reduceSub, Int.reduceMul, Int.reduceLT, Int.reduceLE, Int.reduceEq, Nat.reduceEqDiff, reduceCtorEq, List.mem_singleton, eq_self, not_true_eq_false, not_false_eq_true, or_true, true_or, cmpOk_lstA, cmpOk_tupA, ckA_lst, ckA_tup, ckAl_nil, ckAl_cons, ckAl_ints, ckAl_rangeL, ck_int, ck_bl, ck_non, ck_strI, cmpOk_str, deq_str, deq_tup, deq_lst, deqA_nil, deqA_cons, deqA_ints, Bool.and_true, Bool.true_and, Bool.and_false, Bool.false_and, decide_true, decide_false, Bool.not_true, Bool.not_false])
theorem ok_place_in (T : TF K mg) : FnOk P w K mg base CX0 1 T.a_place_in T.x_place_in ["residues", "r"] (liP K p_place_in) := by
  refine fn_P T.f_place_in sc_place_in (by intro ds M Q E h; unfold p_place_in at h; split at h <;> first | rfl | exact h.elim) (fun cdv A outer s H E z hz hr => (qs_cons (qs_par (i := 2) (j := 3) rfl sc_place_in.nd rfl rfl (by decide) rfl rfl (qa_cons qe_int (qa_cons (qe_callB cb_len (by rfl) T.m_len (by decide +kernel) (qab_cons (qb_var 0) qab_nil)) qa_nil)) (by rfl))
    (qs_cons (qs_while PassesOwn.never (qt_cmp ob_lt (qb_var 2) (qb_var 3) (nomark _))
    (qs_cons (qs_set (i := 4) sc_place_in.nd rfl (by first | exact Or.inl rfl | exact Or.inr rfl) (qe_bin ob_div (qb_of (qe_bin ob_add (qb_var 2) (qb_var 3))) qb_int))
    (qs_end (qs_if (qt_cmp ob_lt (qb_of (qe_ix (qb_var 0) (qb_var 4))) (qb_var 1) (nomark _))
    (qs_end (qs_set (i := 2) sc_place_in.nd rfl (by first | exact Or.inl rfl | exact Or.inr rfl) (qe_bin ob_add (qb_var 4) qb_int)))
    (qs_end (qs_set (i := 3) sc_place_in.nd rfl (by first | exact Or.inl rfl | exact Or.inr rfl) (qe_var 4)))))))
    (qs_end (qs_ret (qe_var 2)))))) ?_
  intro ds M Q0 h
  unfold p_place_in at h
  split at h
  · skip
    obtain ⟨ns, rfl, ha, h⟩ := h
    rename_i r
    walk_at "pl"
    refine sWhile_i (fun m ρ M1 => M1 = M ∧ ∃ (lo hi : Nat) (c : Sl), ρ = [.va (.tup (ns.map D.int)), .va (.int r), .va (.int lo), .va (.int hi), c] ∧ lo ≤ hi ∧ hi ≤ ns.length ∧ m = hi - lo ∧ (∀ i v, i < lo → ns[i]? = some v → v < r) ∧ (∀ i v, hi ≤ i → ns[i]? = some v → r ≤ v)) ns.length ⟨rfl, 0, ns.length, .un, by simp, by omega, by omega, by omega, fun i v hi => by omega, fun i v hi e => by rw [List.getElem?_eq_none hi] at e; cases e⟩ ?_
    rintro m J hJ ρ M1 ⟨e, lo, hi, c, rfl, h1, h2, rfl, hlo, hhi⟩
    subst e
    walk_at "pl"
    by_cases hlt : (lo : Int) < hi
    · rw [if_pos (by simpa using hlt)]
      obtain ⟨v, hv, hv2⟩ := at_ints (ns := ns) (i := ((lo : Int) + hi) / 2) (by omega) (by omega)
      have hm : (((lo : Int) + hi) / 2).toNat = (lo + hi) / 2 := by omega
      have hm2 : ((lo : Int) + hi) / 2 = ((lo + hi) / 2 : Nat) := by omega
      simp only [hv2]
      rw [hm] at hv
      refine ⟨by walk_at "cs", ?_⟩
      by_cases hvr : v < r
      · rw [if_pos (by simpa using hvr)]
        refine hJ (hi - ((lo + hi) / 2 + 1)) _ _ (by omega) ⟨rfl, (lo + hi) / 2 + 1, hi, .va (.int ((lo + hi) / 2)), by walk_at "ex"; omega, by omega, h2, rfl, fun i w hi2 e => ?_, hhi⟩
        rcases (by omega : i < (lo + hi) / 2 ∨ i = (lo + hi) / 2) with c | c
        · have := ha.get c e hv
          omega
        · subst c
          rw [e] at hv
          cases hv
          exact hvr
      · rw [if_neg (by simpa using hvr)]
        refine hJ ((lo + hi) / 2 - lo) _ _ (by omega) ⟨rfl, lo, (lo + hi) / 2, .va (.int ((lo + hi) / 2)), by walk_at "ex"; omega, by omega, by omega, rfl, hlo, fun i w hi2 e => ?_⟩
        rcases (by omega : (lo + hi) / 2 < i ∨ i = (lo + hi) / 2) with c | c
        · have := ha.get c hv e
          omega
        · subst c
          rw [e] at hv
          cases hv
          omega
    · rw [if_neg (by simpa using hlt)]
      have e : lo = hi := by omega
      subst e
      rw [cntL_at ha h2 hlo hhi] at h
      exact h
  · exact h.elim

local macro_rules | `(tactic| walk_at "go") => `(tactic| repeat' (first | assumption | with_reducible apply And.intro | walk_at "cs"))
local macro_rules | `(tactic| walk_at "ex") => `(tactic| simp only [List.cons.injEq, Sl.va.injEq, Sl.ow.injEq, Ow.lst.injEq, D.int.injEq, D.bl.injEq, D.str.injEq, D.lst.injEq, D.tup.injEq, true_and, and_true])
local macro_rules | `(tactic| walk_at "gn") => `(tactic| simp only [↓gN, ↓gsNil, ↓gsCons, ↓gT, ↓gSq, List.length_cons, List.length_nil, Nat.reduceAdd, true_and, List.set_cons_zero, List.set_cons_succ])
local macro_rules | `(tactic| walk_at "sp") => `(tactic| repeat' (first | split | with_reducible apply And.intro))
local macro_rules | `(tactic| walk_at "cs") => `(tactic| first | (unfold CMulP; omega) | (unfold CPowP; omega) | (unfold CModP; omega) | (unfold CDivP; omega))
local macro_rules | `(tactic| walk_at "pl") => `(tactic| simp only [↓sSeq, ↓sAsg, ↓sRet, ↓sRetN, ↓sIf, ↓sDrop, ↓sNext, ↓eVar, ↓bVar, ↓bE, ↓eBin, ↓tE, chS_bl, chS_true, chS_false, wipeE_nil, wipeE_cons, ↓aNil, ↓aConsB, ↓iSeq, Option.isSome_some, lk_int, lk_str, ↓gN, ↓dI2, ↓dAdd, ↓dNe, ↓eB, ↓cLen, ↓cAll, ↓dIn, ↓dInX, ↓cSet, natc0, natc1, natc2, List.findIdx?_cons, List.findIdx?_nil, intsOf_ints, boolsOf_bls, plAnyI, plAnyR, ↓Sl.val, ↓Ow.toD, ↓stE, ↓tYes', ↓PL.isNon, ↓eC, ↓bC, ↓dDiv, ↓dMod, List.getElem?_cons_zero, List.getElem?_cons_succ, List.set_cons_zero, List.set_cons_succ, List.map_cons, List.map_nil, List.length_cons, List.length_nil, List.nil_append, List.cons_append, List.replicate_succ, List.replicate_zero, List.append_nil, atI0, atI1, atI2, atI3, atI4, cmpOk_int, cmpOk_bl, cmpOk_non, deq_int, deq_bl, true_and, and_true, Nat.reduceAdd, Nat.reduceSub, Nat.reduceLeDiff, Nat.reduceLT, Bool.not_eq_true', Bool.false_eq_true, if_false, if_true, decide_eq_true_eq, decide_eq_false_iff_not, Nat.zero_add, Nat.sub_zero, Nat.add_zero, Nat.sub_self, ixN31, ixN32, List.length_map, List.length_set, Int.reduceToNat, Int.reducePow, Int.reduceNeg, Int.reduceAdd, Int.reduceSub, Int.reduceMul, Int.reduceLT, Int.reduceLE, Int.reduceEq, Nat.reduceEqDiff, reduceCtorEq, List.mem_singleton, eq_self, not_true_eq_false, not_false_eq_true, or_true, true_or, cmpOk_lstA, cmpOk_tupA, ckA_lst, ckA_tup, ckAl_nil, ckAl_cons, ckAl_ints, ckAl_rangeL, ck_int, ck_bl, ck_non, ck_strI, cmpOk_str, deq_str, deq_tup, deq_lst, deqA_nil, deqA_cons, deqA_ints, Bool.and_true, Bool.true_and, Bool.and_false, Bool.false_and, decide_true, decide_false, Bool.not_true, Bool.not_false])
theorem ok_repeats (T : TF K mg) : FnOk P w K mg base CX0 1 T.a_repeats T.x_repeats ["period", "residues", "step"] (liP K p_repeats) := by
  refine fn_P T.f_repeats sc_repeats (by intro ds M Q E h; unfold p_repeats at h; split at h <;> first | rfl | exact h.elim) (fun cdv A outer s H E z hz hr => (qs_cons (qs_if (qt_cmp (ob_ne (hu64 hr)) (qb_of (qe_bin ob_mod (qb_of (qe_callB cb_len (by rfl) T.m_len (by decide +kernel) (qab_cons (qb_var 1) qab_nil))) (qb_of (qe_bin ob_div (qb_var 0) (qb_var 2))))) qb_int (nomark _))
    (qs_end (qs_ret qe_bl))
    qs_nil)
    (qs_cons (qs_set (i := 3) sc_repeats.nd rfl (by first | exact Or.inl rfl | exact Or.inr rfl) (qe_callTy (cb_set rfl) (by rfl) T.m_set (by decide +kernel) (qab_cons (qb_var 1) qab_nil)))
    (qs_end (qs_ret (qe_callB (cb_all rfl) (by rfl) T.m_all (by decide +kernel) (qab_cons (qb_of (qe_lc rfl sc_repeats.nd (own := [("r", 4)]) (qi_seq (h := (qe_var 1))) (blkOk_by (own := [("r", 4)]) (N := N_repeats) (sc := defScope s_repeats) (by decide +kernel)) (fun _ _ _ _ _ z hz => (qg_name (i := 4) sc_repeats.nd rfl (by first | exact Or.inl rfl | exact Or.inr rfl))) (fun _ _ _ _ _ => an_t0) (fun _ _ _ _ _ z hz => (qe_cmp (ob_inX (hu65 hr)) (qb_of (qe_bin ob_mod (qb_of (qe_bin ob_add (qb_var 4) (qb_var 2))) (qb_var 0))) (qb_var 3) (by with_unfolding_all rfl))))) qab_nil))))))) ?_
  intro ds M Q0 h
  unfold p_repeats at h
  split at h
  · skip
    obtain ⟨ns, rfl, ⟨hr, ht, hd, hb, hl⟩, h⟩ := h
    rename_i P t
    have hP := hr.1
    have htP : t ≤ P := Int.le_of_dvd hP hd
    have hq : 0 < P / t := Int.ediv_pos_of_pos_of_dvd hP (by omega) hd
    walk_at "pl"
    refine ⟨by walk_at "cs", by walk_at "cs", ?_⟩
    by_cases c : (ns.length : Int) % (P / t) = 0
    · rw [if_neg (by simpa using c)]
      refine ⟨ns, rfl, hl, fun n hn => ?_⟩
      refine eLc_fm (mapB fun r => decide ((r + t) % P ∈ ns)) (ns.map D.int) (fun Q h => by walk_at "pl"; exact h) rfl (by rw [List.length_map]; omega) ?_ ?_
      · intro i d acc J hd2 hl2 hJ
        obtain ⟨v, rfl, _⟩ := ints_get hd2
        walk_at "pl"
        exact ⟨by walk_at "cs", hl2, hJ⟩
      rw [mapB_map]
      walk_at "pl"
      have e : (ns.map fun r => decide ((r + t) % P ∈ ns)).all id = decide (Closed P ns t) := by
        rw [Bool.eq_iff_iff]
        rw [decide_eq_true_iff]
        simp [Closed]
      rw [e]
      exact h
    · rw [if_pos (by simpa using c)]
      rw [decide_eq_false (fun w => c (closed_len hr ht hd w))] at h
      exact h
  · exact h.elim

local macro_rules | `(tactic| walk_at "go") => `(tactic| repeat' (first | assumption | with_reducible apply And.intro | walk_at "cs"))
local macro_rules | `(tactic| walk_at "ex") => `(tactic| simp only [List.cons.injEq, Sl.va.injEq, Sl.ow.injEq, Ow.lst.injEq, D.int.injEq, D.bl.injEq, D.str.injEq, D.lst.injEq, D.tup.injEq, true_and, and_true])
local macro_rules | `(tactic| walk_at "gn") => `(tactic| simp only [↓gN, ↓gsNil, ↓gsCons, ↓gT, ↓gSq, List.length_cons, List.length_nil, Nat.reduceAdd, true_and, List.set_cons_zero, List.set_cons_succ])
local macro_rules | `(tactic| walk_at "sp") => `(tactic| repeat' (first | split | with_reducible apply And.intro))
local macro_rules | `(tactic| walk_at "cs") => `(tactic| first | (unfold CMulP; omega) | (unfold CPowP; omega) | (unfold CModP; omega) | (unfold CDivP; omega))
local macro_rules | `(tactic| walk_at "pl") => `(tactic| simp only [↓sSeq, ↓sAsg, ↓sRet, ↓sRetN, ↓sIf, ↓sDrop, ↓sNext, ↓sExt, ↓eVar, ↓bVar, ↓bE, ↓eBin, ↓tE, chS_bl, chS_true, chS_false, wipeE_nil, wipeE_cons, ↓sNever, ↓aNil, ↓aCons, ↓aConsB, ↓eLst, ↓iSeq, ↓iR1, Option.isSome_some, lk_int, lk_str, ↓gN, ↓dI2, ↓dAdd, ↓eB, ↓cLen, ↓cTuple, natc0, natc1, natc2, List.findIdx?_cons, List.findIdx?_nil, intsOf_ints, boolsOf_bls, plAnyI, plAnyR, ↓Sl.val, ↓Ow.toD, ↓stE, ↓tYes', ↓PL.isNon, ↓eC, ↓dMul, ↓dDiv, ↓dGt, List.getElem?_cons_zero, List.getElem?_cons_succ, List.set_cons_zero, List.set_cons_succ, List.map_cons, List.map_nil, List.length_cons, List.length_nil, List.nil_append, List.cons_append, List.replicate_succ, List.replicate_zero, List.append_nil, atI0, atI1, atI2, atI3, atI4, cmpOk_int, cmpOk_bl, cmpOk_non, deq_int, deq_bl, true_and, and_true, Nat.reduceAdd, Nat.reduceSub, Nat.reduceLeDiff, Nat.reduceLT, Bool.not_eq_true', Bool.false_eq_true, if_false, if_true, decide_eq_true_eq, decide_eq_false_iff_not, Nat.zero_add, Nat.sub_zero, Nat.add_zero, Nat.sub_self, ixN31, ixN32, List.length_map, List.length_set, Int.reduceToNat, Int.reducePow, Int.reduceNeg, Int.reduceAdd, Int.reduceSub, Int.reduceMul, Int.reduceLT, Int.reduceLE, Int.reduceEq, Nat.reduceEqDiff, reduceCtorEq, List.mem_singleton, eq_self, not_true_eq_false, not_false_eq_true, or_true, true_or, cmpOk_lstA, cmpOk_tupA, ckA_lst, ckA_tup, ckAl_nil, ckAl_cons, ckAl_ints, ckAl_rangeL, ck_int, ck_bl, ck_non, ck_strI, cmpOk_str, deq_str, deq_tup, deq_lst, deqA_nil, deqA_cons, deqA_ints, Bool.and_true, Bool.true_and, Bool.and_false, Bool.false_and, decide_true, decide_false, Bool.not_true, Bool.not_false])
theorem ok_spread (T : TF K mg) : FnOk P w K mg base CX0 1 T.a_spread T.x_spread ["period", "residues", "longer"] (liP K p_spread) := by
  refine fn_P T.f_spread sc_spread (by intro ds M Q E h; unfold p_spread at h; split at h <;> first | rfl | exact h.elim) (fun cdv A outer s H E z hz hr => (qs_cons (qs_set (i := 3) sc_spread.nd rfl (by first | exact Or.inl rfl | exact Or.inr rfl) (qe_bin ob_div (qb_var 2) (qb_var 0)))
    (qs_cons (qs_if (qt_cmp ob_gt (qb_of (qe_bin ob_mul (qb_var 3) (qb_of (qe_callB cb_len (by rfl) T.m_len (by decide +kernel) (qab_cons (qb_var 1) qab_nil))))) (qb_of (qe_con (pe_glob (by rfl) T.g_RESIDUES_MOST T.r_RESIDUES_MOST) (fun _ => by first | exact Rp.int _ | exact Rp.str _ | exact T.d_RESIDUES_MOST _ (by first | assumption | rfl)))) (nomark _))
    (qs_end qs_never)
    qs_nil)
    (qs_cons (qs_set (i := 4) sc_spread.nd rfl (by first | exact Or.inl rfl | exact Or.inr rfl) (qe_lst qa_nil))
    (qs_cons (qs_for PassesOwn.never rfl (qi_range1 (by rfl) T.m_range (qa_cons (qe_var 3) qa_nil)) (qg_name (i := 5) sc_spread.nd rfl (by first | exact Or.inl rfl | exact Or.inr rfl))
    (qs_end (qs_extend (i := 4) rfl (by first | exact Or.inl rfl | exact Or.inr (Or.inl rfl) | exact Or.inr (Or.inr rfl)) (qe_lc rfl sc_spread.nd (own := [("r", 6)]) (qi_seq (h := (qe_var 1))) (blkOk_by (own := [("r", 6)]) (N := N_spread) (sc := defScope s_spread) (by decide +kernel)) (fun _ _ _ _ _ z hz => (qg_name (i := 6) sc_spread.nd rfl (by first | exact Or.inl rfl | exact Or.inr rfl))) (fun _ _ _ _ _ => an_t0) (fun _ _ _ _ _ z hz => (qe_bin ob_add (qb_of (qe_bin ob_mul (qb_var 5) (qb_var 0))) (qb_var 6)))))))
    (qs_end (qs_ret (qe_callTy cb_tuple (by rfl) T.m_tuple (by decide +kernel) (qab_cons (qb_var 4) qab_nil))))))))) ?_
  intro ds M Q0 h
  unfold p_spread at h
  split at h
  · skip
    obtain ⟨ns, rfl, hp, h⟩ := h
    rename_i p l
    obtain ⟨t, ht⟩ := Int.eq_ofNat_of_zero_le (Int.ediv_nonneg hp.2.2.1 (by omega) : 0 ≤ l / p)
    have h1 : l / p ≤ l := Int.ediv_le_self _ hp.2.2.1
    walk_at "pl"
    rw [ht] at h hp h1 ⊢
    rw [Int.toNat_natCast] at h
    refine ⟨by walk_at "cs", by walk_at "cs", ?_⟩
    rw [if_neg (by omega)]
    refine sFor_k fun N hN => ?_
    walk_at "pl"
    refine ⟨by omega, hN _ _ _ ?_⟩
    have hq : (t : Int) * ns.length = ((t * ns.length : Nat) : Int) := by push_cast; rfl
    rw [hq] at hp
    refine loop_i (fun i ρ M1 => M1 = M ∧ i ≤ t ∧ ∃ c, ρ = [.va (.int p), .va (.tup (ns.map D.int)), .va (.int l), .va (.int t), .ow (.lst ((spreadL p ns i).map D.int)), c, .un]) ⟨rfl, by omega, .un, by simp [spreadL]⟩ ?_ ?_
    · rintro J hJ i dd ρ M1 hd ⟨e, hi, c, rfl⟩
      subst e
      obtain ⟨rfl, hi⟩ := rangeL_get hd
      walk_at "gn"
      walk_at "pl"
      have hlen : ns.length ≤ 200000 := by
        have : 1 * ns.length ≤ t * ns.length := Nat.mul_le_mul_right _ (by omega)
        omega
      refine eLc_fm (mapI fun r => (i : Int) * p + r) (ns.map D.int) (fun Q h => by walk_at "pl"; exact h) rfl (by rw [List.length_map]; omega) ?_ ?_
      · intro i d acc J hd hl hJ
        obtain ⟨v, rfl, _⟩ := ints_get hd
        walk_at "pl"
        refine ⟨by walk_at "cs", hl, ?_⟩
        rw [Int.zero_add]
        exact hJ
      rw [mapI_map]
      walk_at "pl"
      refine ⟨?_, hJ _ _ _ ⟨rfl, by omega, .va (.int (0 + i)), ?_⟩⟩
      · rw [spreadL_len]
        have : i * ns.length ≤ t * ns.length := Nat.mul_le_mul_right _ (by omega)
        omega
      · walk_at "ex"
        rw [← List.map_append, spreadL_succ]
    · rintro ρ M1 ⟨e, hi, c, rfl⟩
      subst e
      walk_at "pl"
      rw [rangeL_len, Int.sub_zero, Int.toNat_natCast]
      exact h
  · exact h.elim

local macro_rules | `(tactic| walk_at "go") => `(tactic| repeat' (first | assumption | with_reducible apply And.intro | walk_at "cs"))
local macro_rules | `(tactic| walk_at "ex") => `(tactic| simp only [List.cons.injEq, Sl.va.injEq, Sl.ow.injEq, Ow.lst.injEq, D.int.injEq, D.bl.injEq, D.str.injEq, D.lst.injEq, D.tup.injEq, true_and, and_true])
local macro_rules | `(tactic| walk_at "gn") => `(tactic| simp only [↓gN, ↓gsNil, ↓gsCons, ↓gT, ↓gSq, List.length_cons, List.length_nil, Nat.reduceAdd, true_and, List.set_cons_zero, List.set_cons_succ])
local macro_rules | `(tactic| walk_at "sp") => `(tactic| repeat' (first | split | with_reducible apply And.intro))
local macro_rules | `(tactic| walk_at "cs") => `(tactic| first | (unfold CMulP; omega) | (unfold CPowP; omega) | (unfold CModP; omega) | (unfold CDivP; omega))
local macro_rules | `(tactic| walk_at "pl") => `(tactic| simp only [↓sRet, ↓sRetN, ↓sDrop, ↓sNext, chS_bl, chS_true, chS_false, wipeE_nil, wipeE_cons, Option.isSome_some, lk_int, lk_str, ↓sByCls, natc0, natc1, natc2, List.findIdx?_cons, List.findIdx?_nil, intsOf_ints, boolsOf_bls, plAnyI, plAnyR, ↓Sl.val, ↓Ow.toD, ↓stE, ↓PL.isNon, List.getElem?_cons_zero, List.getElem?_cons_succ, List.set_cons_zero, List.set_cons_succ, List.map_cons, List.map_nil, List.length_cons, List.length_nil, List.nil_append, List.cons_append, List.replicate_succ, List.replicate_zero, List.append_nil, atI0, atI1, atI2, atI3, atI4, cmpOk_int, cmpOk_bl, cmpOk_non, deq_int, deq_bl, true_and, and_true, Nat.reduceAdd, Nat.reduceSub, Nat.reduceLeDiff, Nat.reduceLT, Bool.not_eq_true', Bool.false_eq_true, if_false, if_true, decide_eq_true_eq, decide_eq_false_iff_not, Nat.zero_add, Nat.sub_zero, Nat.add_zero, Nat.sub_self, ixN31, ixN32, List.length_map, List.length_set, Int.reduceToNat, Int.reducePow, Int.reduceNeg, Int.reduceAdd, Int.reduceSub, Int.reduceMul, Int.reduceLT, Int.reduceLE, Int.reduceEq, Nat.reduceEqDiff, reduceCtorEq, List.mem_singleton, eq_self, not_true_eq_false, not_false_eq_true, or_true, true_or, cmpOk_lstA, cmpOk_tupA, ckA_lst, ckA_tup, ckAl_nil, ckAl_cons, ckAl_ints, ckAl_rangeL, ck_int, ck_bl, ck_non, ck_strI, cmpOk_str, deq_str, deq_tup, deq_lst, deqA_nil, deqA_cons, deqA_ints, Bool.and_true, Bool.true_and, Bool.and_false, Bool.false_and, decide_true, decide_false, Bool.not_true, Bool.not_false])
theorem ok_by_class (T : TF K mg) : FnOk P w K mg base CX0 1 T.a_by_class T.x_by_class ["residues", "common"] (liP K p_by_class) := by
  refine fn_P T.f_by_class sc_by_class (by intro ds M Q E h; unfold p_by_class at h; split at h <;> first | rfl | exact h.elim) (fun cdv A outer s H E z hz hr => (pss_w (pss_cons (ps_set (i := 2) sc_by_class.nd rfl (by first | exact Or.inl rfl | exact Or.inr rfl) pe_dnewK) (pss_cons (ps_for PassesOwn.never rfl (pi_seq (pe_var (i := 0) rfl (by first | exact Or.inl rfl | exact Or.inr (Or.inl rfl) | exact Or.inr (Or.inr rfl)))) (pg_name (i := 3) sc_by_class.nd rfl (by first | exact Or.inl rfl | exact Or.inr rfl))
    (pss_one (ps_expr (pe_bm PySem.F.plainAttrs_list PySem.F.slot_list_append PySem.F.type_list_append mt_append (pe_dsetd (pe_var (i := 2) rfl (by first | exact Or.inl rfl | exact Or.inr (Or.inl rfl) | exact Or.inr (Or.inr rfl))) (pe_op op_mod (pe_var (i := 3) rfl (by first | exact Or.inl rfl | exact Or.inr (Or.inl rfl) | exact Or.inr (Or.inr rfl))) (pe_var (i := 1) rfl (by first | exact Or.inl rfl | exact Or.inr (Or.inl rfl) | exact Or.inr (Or.inr rfl)))) (pe_lst pa_nil) ⟨rfl, rfl, rfl, rfl⟩) (pa_cons (pe_var (i := 3) rfl (by first | exact Or.inl rfl | exact Or.inr (Or.inl rfl) | exact Or.inr (Or.inr rfl))) pa_nil))))) (pss_one (ps_ret (pe_lock (i := 2) rfl (by first | exact Or.inl rfl | exact Or.inr (Or.inl rfl) | exact Or.inr (Or.inr rfl))))))) (fun D σ H h => byCls_w hz h))) ?_
  intro ds M Q0 h
  unfold p_by_class at h
  split at h
  · skip
    exact h
  · exact h.elim

local macro_rules | `(tactic| walk_at "go") => `(tactic| repeat' (first | assumption | with_reducible apply And.intro | walk_at "cs"))
local macro_rules | `(tactic| walk_at "ex") => `(tactic| simp only [List.cons.injEq, Sl.va.injEq, Sl.ow.injEq, Ow.lst.injEq, D.int.injEq, D.bl.injEq, D.str.injEq, D.lst.injEq, D.tup.injEq, true_and, and_true])
local macro_rules | `(tactic| walk_at "gn") => `(tactic| simp only [↓gN, ↓gsNil, ↓gsCons, ↓gT, ↓gSq, List.length_cons, List.length_nil, Nat.reduceAdd, true_and, List.set_cons_zero, List.set_cons_succ])
local macro_rules | `(tactic| walk_at "sp") => `(tactic| repeat' (first | split | with_reducible apply And.intro))
local macro_rules | `(tactic| walk_at "cs") => `(tactic| first | (unfold CMulP; omega) | (unfold CPowP; omega) | (unfold CModP; omega) | (unfold CDivP; omega))
local macro_rules | `(tactic| walk_at "pl") => `(tactic| simp only [↓sSeq, ↓sAsg, ↓sRet, ↓sRetN, ↓sIf, ↓sDrop, ↓sNext, ↓sApp, ↓eVar, ↓bVar, ↓eMov, ↓bE, ↓eBin, ↓tE, chS_bl, chS_true, chS_false, wipeE_nil, wipeE_cons, ↓aNil, ↓aCons, ↓aConsB, ↓eTup, ↓eLst, ↓iEnum1, Option.isSome_some, lk_int, lk_str, ↓gN, ↓gsNil, ↓gsCons, ↓dI2, ↓dAdd, ↓dIx, ↓eB, ↓cLen, ↓gSq, natc0, natc1, natc2, List.findIdx?_cons, List.findIdx?_nil, intsOf_ints, boolsOf_bls, plAnyI, plAnyR, ↓Sl.val, ↓Ow.toD, ↓stE, ↓PL.isNon, ↓eC, ↓bC, ↓dLt, List.getElem?_cons_zero, List.getElem?_cons_succ, List.set_cons_zero, List.set_cons_succ, List.map_cons, List.map_nil, List.length_cons, List.length_nil, List.nil_append, List.cons_append, List.replicate_succ, List.replicate_zero, List.append_nil, atI0, atI1, atI2, atI3, atI4, cmpOk_int, cmpOk_bl, cmpOk_non, deq_int, deq_bl, true_and, and_true, Nat.reduceAdd, Nat.reduceSub, Nat.reduceLeDiff, Nat.reduceLT, Bool.not_eq_true', Bool.false_eq_true, if_false, if_true, decide_eq_true_eq, decide_eq_false_iff_not, Nat.zero_add, Nat.sub_zero, Nat.add_zero, Nat.sub_self, ixN31, ixN32, List.length_map, List.length_set, Int.reduceToNat, Int.reducePow, Int.reduceNeg, Int.reduceAdd, Int.reduceSub, Int.reduceMul, Int.reduceLT, Int.reduceLE, Int.reduceEq, Nat.reduceEqDiff, reduceCtorEq, List.mem_singleton, eq_self, not_true_eq_false, not_false_eq_true, or_true, true_or, cmpOk_lstA, cmpOk_tupA, ckA_lst, ckA_tup, ckAl_nil, ckAl_cons, ckAl_ints, ckAl_rangeL, ck_int, ck_bl, ck_non, ck_strI, cmpOk_str, deq_str, deq_tup, deq_lst, deqA_nil, deqA_cons, deqA_ints, Bool.and_true, Bool.true_and, Bool.and_false, Bool.false_and, decide_true, decide_false, Bool.not_true, Bool.not_false])
theorem ok_windows (T : TF K mg) : FnOk P w K mg base CX0 1 T.a_windows T.x_windows ["pattern"] (liP K p_windows) := by
  refine fn_P T.f_windows sc_windows (by intro ds M Q E h; unfold p_windows at h; split at h <;> first | rfl | exact h.elim) (fun cdv A outer s H E z hz hr => (qs_cons (qs_set (i := 1) sc_windows.nd rfl (by first | exact Or.inl rfl | exact Or.inr rfl) (qe_lst qa_nil))
    (qs_cons (qs_for PassesOwn.never rfl (qi_enumerate (by rfl) T.m_enumerate (qa_cons (qe_var 0) qa_nil)) (qg_seq (n := 2) rfl (qgs_cons (qg_name (i := 2) sc_windows.nd rfl (by first | exact Or.inl rfl | exact Or.inr rfl)) (qgs_cons (qg_seq (n := 3) rfl (qgs_cons (qg_name (i := 3) sc_windows.nd rfl (by first | exact Or.inl rfl | exact Or.inr rfl)) (qgs_cons (qg_name (i := 4) sc_windows.nd rfl (by first | exact Or.inl rfl | exact Or.inr rfl)) (qgs_cons (qg_name (i := 5) sc_windows.nd rfl (by first | exact Or.inl rfl | exact Or.inr rfl)) qgs_nil)))) qgs_nil)))
    (qs_cons (qs_set (i := 6) sc_windows.nd rfl (by first | exact Or.inl rfl | exact Or.inr rfl) qe_non)
    (qs_cons (qs_if (qt_cmp ob_lt (qb_of (qe_bin ob_add (qb_var 2) qb_int)) (qb_of (qe_callB cb_len (by rfl) T.m_len (by decide +kernel) (qab_cons (qb_var 0) qab_nil))) (nomark _))
    (qs_end (qs_set (i := 6) sc_windows.nd rfl (by first | exact Or.inl rfl | exact Or.inr rfl) (qe_ix (qb_of (qe_ix (qb_var 0) (qb_of (qe_bin ob_add (qb_var 2) qb_int)))) qb_int)))
    qs_nil)
    (qs_end (qs_append (i := 1) rfl (by first | exact Or.inl rfl | exact Or.inr (Or.inl rfl) | exact Or.inr (Or.inr rfl)) (qe_tup (qa_cons (qe_var 3) (qa_cons (qe_var 6) (qa_cons (qe_tup (qa_cons (qe_var 4) (qa_cons (qe_var 5) qa_nil))) qa_nil)))))))))
    (qs_end (qs_ret (qe_mov 1)))))) ?_
  intro ds M Q0 h
  unfold p_windows at h
  split at h
  · skip
    obtain ⟨ps, rfl, hl, h⟩ := h
    refine sSeq_i fun N1 h1 => ?_
    walk_at "pl"
    refine h1 _ _ ?_
    clear h1
    refine sSeq_i fun N1 h1 => ?_
    refine sFor_k fun N hN => ?_
    walk_at "pl"
    refine hN _ _ _ ?_
    clear hN
    refine loop_i (fun i ρ M1 => M1 = M ∧ i ≤ ps.length ∧ ∃ a b c d e : Sl, ρ = [.va (.tup (ps.map pcD)), .ow (.lst ((winD ps).take i)), a, b, c, d, e]) ⟨rfl, Nat.zero_le _, .un, .un, .un, .un, .un, by simp⟩ ?_ ?_
    · rintro J hJ i dd ρ M1 hd ⟨e, hi, a, b, c, d, e2, rfl⟩
      subst e
      obtain ⟨x, hx, rfl⟩ := enumD_get hd
      rw [List.getElem?_map] at hx
      cases hp : ps[i]? with
      | none => rw [hp] at hx; cases hx
      | some p =>
        rw [hp] at hx
        cases hx
        obtain ⟨s, P, ns⟩ := p
        have hlt := (List.getElem?_eq_some_iff.mp hp).1
        rw [show pcD (s, P, ns) = .tup [.int s, .int P, .tup (ns.map D.int)] from rfl]
        have hw : (winD ps).take (i + 1) = (winD ps).take i ++ [.tup [.int s, (match ps[i + 1]? with | some q => .int q.1 | none => .non), .tup [.int P, .tup (ns.map D.int)]]] := by
          rw [List.take_add_one]
          congr 1
          unfold winD
          rw [List.getElem?_map, List.getElem?_range hlt]
          simp [winI, endI, List.getD, hp, kdD]
          try rfl
        have hwl : ((winD ps).take i).length < 16777216 := by
          rw [List.length_take]
          omega
        by_cases c1 : i + 1 < ps.length
        · obtain ⟨q, hq⟩ : ∃ q, ps[i + 1]? = some q := ⟨_, List.getElem?_eq_getElem c1⟩
          have hat : atI (ps.map pcD) ((i : Int) + 1) = some (pcD q) := atI_nn (by omega) (by rw [List.getElem?_map, show ((i : Int) + 1).toNat = i + 1 by omega, hq]; rfl)
          obtain ⟨s2, P2, ns2⟩ := q
          rw [show pcD (s2, P2, ns2) = .tup [.int s2, .int P2, .tup (ns2.map D.int)] from rfl] at hat
          simp only [↓sSeq, ↓sAsg, ↓sRet, ↓sRetN, ↓sIf, ↓sDrop, ↓sNext, ↓sApp, ↓eVar, ↓bVar, ↓eMov, ↓bE, ↓eBin, ↓tE, chS_bl, chS_true, chS_false, wipeE_nil, wipeE_cons, ↓aNil, ↓aCons, ↓aConsB, ↓eTup, ↓eLst, ↓iEnum1, Option.isSome_some, lk_int, lk_str, ↓gN, ↓gsNil, ↓gsCons, ↓dI2, ↓dAdd, ↓dIx, ↓eB, ↓cLen, ↓gSq, natc0, natc1, natc2, List.findIdx?_cons, List.findIdx?_nil, intsOf_ints, boolsOf_bls, plAnyI, plAnyR, ↓Sl.val, ↓Ow.toD, ↓stE, ↓PL.isNon, ↓eC, ↓bC, ↓dLt, List.getElem?_cons_zero, List.getElem?_cons_succ, List.set_cons_zero, List.set_cons_succ, List.map_cons, List.map_nil, List.length_cons, List.length_nil, List.nil_append, List.cons_append, List.replicate_succ, List.replicate_zero, List.append_nil, atI0, atI1, atI2, atI3, atI4, cmpOk_int, cmpOk_bl, cmpOk_non, deq_int, deq_bl, true_and, and_true, Nat.reduceAdd, Nat.reduceSub, Nat.reduceLeDiff, Nat.reduceLT, Bool.not_eq_true', Bool.false_eq_true, if_false, if_true, decide_eq_true_eq, decide_eq_false_iff_not, Nat.zero_add, Nat.sub_zero, Nat.add_zero, Nat.sub_self, ixN31, ixN32, List.length_map, List.length_set, Int.reduceToNat, Int.reducePow, Int.reduceNeg, Int.reduceAdd, Int.reduceSub, Int.reduceMul, Int.reduceLT, Int.reduceLE, Int.reduceEq, Nat.reduceEqDiff, reduceCtorEq, List.mem_singleton, eq_self, not_true_eq_false, not_false_eq_true, or_true, true_or, cmpOk_lstA, cmpOk_tupA, ckA_lst, ckA_tup, ckAl_nil, ckAl_cons, ckAl_ints, ckAl_rangeL, ck_int, ck_bl, ck_non, ck_strI, cmpOk_str, deq_str, deq_tup, deq_lst, deqA_nil, deqA_cons, deqA_ints, Bool.and_true, Bool.true_and, Bool.and_false, Bool.false_and, decide_true, decide_false, Bool.not_true, Bool.not_false, hat]
          rw [if_pos (by omega)]
          rw [hq] at hw
          dsimp only at hw
          rw [← hw]
          exact ⟨hwl, hJ _ _ _ ⟨rfl, by omega, _, _, _, _, _, rfl⟩⟩
        · walk_at "pl"
          rw [if_neg (by omega)]
          rw [List.getElem?_eq_none (by omega)] at hw
          dsimp only at hw
          rw [← hw]
          exact ⟨hwl, hJ _ _ _ ⟨rfl, by omega, _, _, _, _, _, rfl⟩⟩
    · rintro ρ M1 ⟨e, hi, a, b, c, d, e2, rfl⟩
      subst e
      refine h1 _ _ ?_
      walk_at "pl"
      rw [enumD_len, List.length_map] at *
      rw [List.take_of_length_le (by simp [winD])]
      exact h
  · exact h.elim

local macro_rules | `(tactic| walk_at "go") => `(tactic| repeat' (first | assumption | with_reducible apply And.intro | walk_at "cs"))
local macro_rules | `(tactic| walk_at "ex") => `(tactic| simp only [List.cons.injEq, Sl.va.injEq, Sl.ow.injEq, Ow.lst.injEq, D.int.injEq, D.bl.injEq, D.str.injEq, D.lst.injEq, D.tup.injEq, true_and, and_true])
local macro_rules | `(tactic| walk_at "gn") => `(tactic| simp only [↓gN, ↓gsNil, ↓gsCons, ↓gT, ↓gSq, List.length_cons, List.length_nil, Nat.reduceAdd, true_and, List.set_cons_zero, List.set_cons_succ])
local macro_rules | `(tactic| walk_at "sp") => `(tactic| repeat' (first | split | with_reducible apply And.intro))
local macro_rules | `(tactic| walk_at "cs") => `(tactic| first | (unfold CMulP; omega) | (unfold CPowP; omega) | (unfold CModP; omega) | (unfold CDivP; omega))
local macro_rules | `(tactic| walk_at "pl") => `(tactic| simp only [↓sSeq, ↓sAsg, ↓sRet, ↓sRetN, ↓sIf, ↓sDrop, ↓sAug, ↓sNext, ↓sApp, ↓eVar, ↓bVar, ↓eMov, ↓bE, ↓eBin, ↓tE, chS_bl, chS_true, chS_false, wipeE_nil, wipeE_cons, ↓qAnd, ↓aNil, ↓aCons, ↓aConsB, ↓eTup, ↓eLst, ↓iSeq, ↓iEnum1, ↓eSortSet, Option.isSome_some, lk_int, lk_str, ↓gN, ↓gsNil, ↓gsCons, ↓dI2, ↓dAdd, ↓dIx, ↓oNone, ↓oSome, ↓eSl, ↓eB, ↓cLen, ↓gSq, natc0, natc1, natc2, List.findIdx?_cons, List.findIdx?_nil, intsOf_ints, boolsOf_bls, plAnyI, plAnyR, ↓Sl.val, ↓Ow.toD, ↓stE, ↓tYes', ↓PL.isNon, ↓eC, ↓bC, ↓dLt, ↓dLe, ↓dAddI, List.getElem?_cons_zero, List.getElem?_cons_succ, List.set_cons_zero, List.set_cons_succ, List.map_cons, List.map_nil, List.length_cons, List.length_nil, List.nil_append, List.cons_append, List.replicate_succ, List.replicate_zero, List.append_nil, atI0, atI1, atI2, atI3, atI4, cmpOk_int, cmpOk_bl, cmpOk_non, deq_int, deq_bl, true_and, and_true, Nat.reduceAdd, Nat.reduceSub, Nat.reduceLeDiff, Nat.reduceLT, Bool.not_eq_true', Bool.false_eq_true, if_false, if_true, decide_eq_true_eq, decide_eq_false_iff_not, Nat.zero_add, Nat.sub_zero, Nat.add_zero, Nat.sub_self, ixN31, ixN32, List.length_map, List.length_set, Int.reduceToNat, Int.reducePow, Int.reduceNeg, Int.reduceAdd, Int.reduceSub, Int.reduceMul, Int.reduceLT, Int.reduceLE, Int.reduceEq, Nat.reduceEqDiff, reduceCtorEq, List.mem_singleton, eq_self, not_true_eq_false, not_false_eq_true, or_true, true_or, cmpOk_lstA, cmpOk_tupA, ckA_lst, ckA_tup, ckAl_nil, ckAl_cons, ckAl_ints, ckAl_rangeL, ck_int, ck_bl, ck_non, ck_strI, cmpOk_str, deq_str, deq_tup, deq_lst, deqA_nil, deqA_cons, deqA_ints, Bool.and_true, Bool.true_and, Bool.and_false, Bool.false_and, decide_true, decide_false, Bool.not_true, Bool.not_false])
theorem ok_overlaps (T : TF K mg) : FnOk P w K mg base CX0 1 T.a_overlaps T.x_overlaps ["first", "second"] (liP K p_overlaps) := by
  refine fn_P T.f_overlaps sc_overlaps (by intro ds M Q E h; unfold p_overlaps at h; split at h <;> first | rfl | exact h.elim) (fun cdv A outer s H E z hz hr => (qs_cons (qs_set (i := 2) sc_overlaps.nd rfl (by first | exact Or.inl rfl | exact Or.inr rfl) (qe_sortSet rfl (by rfl) T.m_sorted (by rfl) T.m_set (qb_of (qe_bin ob_add (qb_of (qe_lc rfl sc_overlaps.nd (own := [("piece", 9)]) (qi_seq (h := (qe_var 0))) (blkOk_by (own := [("piece", 9)]) (N := N_overlaps) (sc := defScope s_overlaps) (by decide +kernel)) (fun _ _ _ _ _ z hz => (qg_name (i := 9) sc_overlaps.nd rfl (by first | exact Or.inl rfl | exact Or.inr rfl))) (fun _ _ _ _ _ => an_t0) (fun _ _ _ _ _ z hz => (qe_ix (qb_var 9) qb_int)))) (qb_of (qe_lc rfl sc_overlaps.nd (own := [("piece", 9)]) (qi_seq (h := (qe_var 1))) (blkOk_by (own := [("piece", 9)]) (N := N_overlaps) (sc := defScope s_overlaps) (by decide +kernel)) (fun _ _ _ _ _ z hz => (qg_name (i := 9) sc_overlaps.nd rfl (by first | exact Or.inl rfl | exact Or.inr rfl))) (fun _ _ _ _ _ => an_t0) (fun _ _ _ _ _ z hz => (qe_ix (qb_var 9) qb_int))))))))
    (qs_cons (qs_set (i := 3) sc_overlaps.nd rfl (by first | exact Or.inl rfl | exact Or.inr rfl) (qe_lst qa_nil))
    (qs_cons (qs_set (i := 4) sc_overlaps.nd rfl (by first | exact Or.inl rfl | exact Or.inr rfl) qe_int)
    (qs_cons (qs_set (i := 5) sc_overlaps.nd rfl (by first | exact Or.inl rfl | exact Or.inr rfl) qe_int)
    (qs_cons (qs_for PassesOwn.never rfl (qi_enumerate (by rfl) T.m_enumerate (qa_cons (qe_var 2) qa_nil)) (qg_seq (n := 2) rfl (qgs_cons (qg_name (i := 6) sc_overlaps.nd rfl (by first | exact Or.inl rfl | exact Or.inr rfl)) (qgs_cons (qg_name (i := 7) sc_overlaps.nd rfl (by first | exact Or.inl rfl | exact Or.inr rfl)) qgs_nil)))
    (qs_cons (qs_if (PW.pt (qw_and (qt_cmp ob_lt (qb_of (qe_bin ob_add (qb_var 4) qb_int)) (qb_of (qe_callB cb_len (by rfl) T.m_len (by decide +kernel) (qab_cons (qb_var 0) qab_nil))) (nomark _)) (qw_and1 (qt_cmp ob_le (qb_of (qe_ix (qb_of (qe_ix (qb_var 0) (qb_of (qe_bin ob_add (qb_var 4) qb_int)))) qb_int)) (qb_var 7) (nomark _)))))
    (qs_end (qs_aug (i := 4) sc_overlaps.nd rfl (by first | exact Or.inl rfl | exact Or.inr rfl) qb_int ib_add))
    qs_nil)
    (qs_cons (qs_if (PW.pt (qw_and (qt_cmp ob_lt (qb_of (qe_bin ob_add (qb_var 5) qb_int)) (qb_of (qe_callB cb_len (by rfl) T.m_len (by decide +kernel) (qab_cons (qb_var 1) qab_nil))) (nomark _)) (qw_and1 (qt_cmp ob_le (qb_of (qe_ix (qb_of (qe_ix (qb_var 1) (qb_of (qe_bin ob_add (qb_var 5) qb_int)))) qb_int)) (qb_var 7) (nomark _)))))
    (qs_end (qs_aug (i := 5) sc_overlaps.nd rfl (by first | exact Or.inl rfl | exact Or.inr rfl) qb_int ib_add))
    qs_nil)
    (qs_cons (qs_set (i := 8) sc_overlaps.nd rfl (by first | exact Or.inl rfl | exact Or.inr rfl) qe_non)
    (qs_cons (qs_if (qt_cmp ob_lt (qb_of (qe_bin ob_add (qb_var 6) qb_int)) (qb_of (qe_callB cb_len (by rfl) T.m_len (by decide +kernel) (qab_cons (qb_var 2) qab_nil))) (nomark _))
    (qs_end (qs_set (i := 8) sc_overlaps.nd rfl (by first | exact Or.inl rfl | exact Or.inr rfl) (qe_ix (qb_var 2) (qb_of (qe_bin ob_add (qb_var 6) qb_int)))))
    qs_nil)
    (qs_end (qs_append (i := 3) rfl (by first | exact Or.inl rfl | exact Or.inr (Or.inl rfl) | exact Or.inr (Or.inr rfl)) (qe_tup (qa_cons (qe_var 7) (qa_cons (qe_var 8) (qa_cons (qe_slice (qb_of (qe_ix (qb_var 0) (qb_var 4))) (qo_some qb_int) qo_none) (qa_cons (qe_slice (qb_of (qe_ix (qb_var 1) (qb_var 5))) (qo_some qb_int) qo_none) qa_nil))))))))))))
    (qs_end (qs_ret (qe_mov 3))))))))) ?_
  intro ds M Q0 h
  unfold p_overlaps at h
  split at h
  · skip
    obtain ⟨ps, qs, rfl, rfl, ⟨hp, hq, hl⟩, h⟩ := h
    refine sSeq_i fun N1 h1 => ?_
    walk_at "pl"
    refine eLc_fm stD0 (ps.map pcD) (fun Q h => by walk_at "pl"; exact h) rfl (by rw [List.length_map]; omega) ?_ ?_
    · intro i d acc J hd hl2 hJ
      obtain ⟨⟨s, P, ns⟩, _, rfl⟩ := map_get hd
      simp only [↓sSeq, ↓sAsg, ↓sRet, ↓sRetN, ↓sIf, ↓sDrop, ↓sAug, ↓sNext, ↓sApp, ↓eVar, ↓bVar, ↓eMov, ↓bE, ↓eBin, ↓tE, chS_bl, chS_true, chS_false, wipeE_nil, wipeE_cons, ↓qAnd, ↓aNil, ↓aCons, ↓aConsB, ↓eTup, ↓eLst, ↓iSeq, ↓iEnum1, ↓eSortSet, Option.isSome_some, lk_int, lk_str, ↓gN, ↓gsNil, ↓gsCons, ↓dI2, ↓dAdd, ↓dIx, ↓oNone, ↓oSome, ↓eSl, ↓eB, ↓cLen, ↓gSq, natc0, natc1, natc2, List.findIdx?_cons, List.findIdx?_nil, intsOf_ints, boolsOf_bls, plAnyI, plAnyR, ↓Sl.val, ↓Ow.toD, ↓stE, ↓tYes', ↓PL.isNon, ↓eC, ↓bC, ↓dLt, ↓dLe, ↓dAddI, List.getElem?_cons_zero, List.getElem?_cons_succ, List.set_cons_zero, List.set_cons_succ, List.map_cons, List.map_nil, List.length_cons, List.length_nil, List.nil_append, List.cons_append, List.replicate_succ, List.replicate_zero, List.append_nil, atI0, atI1, atI2, atI3, atI4, cmpOk_int, cmpOk_bl, cmpOk_non, deq_int, deq_bl, true_and, and_true, Nat.reduceAdd, Nat.reduceSub, Nat.reduceLeDiff, Nat.reduceLT, Bool.not_eq_true', Bool.false_eq_true, if_false, if_true, decide_eq_true_eq, decide_eq_false_iff_not, Nat.zero_add, Nat.sub_zero, Nat.add_zero, Nat.sub_self, ixN31, ixN32, List.length_map, List.length_set, Int.reduceToNat, Int.reducePow, Int.reduceNeg, Int.reduceAdd, Int.reduceSub, Int.reduceMul, Int.reduceLT, Int.reduceLE, Int.reduceEq, Nat.reduceEqDiff, reduceCtorEq, List.mem_singleton, eq_self, not_true_eq_false, not_false_eq_true, or_true, true_or, cmpOk_lstA, cmpOk_tupA, ckA_lst, ckA_tup, ckAl_nil, ckAl_cons, ckAl_ints, ckAl_rangeL, ck_int, ck_bl, ck_non, ck_strI, cmpOk_str, deq_str, deq_tup, deq_lst, deqA_nil, deqA_cons, deqA_ints, Bool.and_true, Bool.true_and, Bool.and_false, Bool.false_and, decide_true, decide_false, Bool.not_true, Bool.not_false, pcD_eq]
      exact ⟨hl2, hJ⟩
    rw [stD0_map]
    walk_at "pl"
    refine eLc_fm stD0 (qs.map pcD) (fun Q h => by walk_at "pl"; exact h) rfl (by rw [List.length_map]; omega) ?_ ?_
    · intro i d acc J hd hl2 hJ
      obtain ⟨⟨s, P, ns⟩, _, rfl⟩ := map_get hd
      simp only [↓sSeq, ↓sAsg, ↓sRet, ↓sRetN, ↓sIf, ↓sDrop, ↓sAug, ↓sNext, ↓sApp, ↓eVar, ↓bVar, ↓eMov, ↓bE, ↓eBin, ↓tE, chS_bl, chS_true, chS_false, wipeE_nil, wipeE_cons, ↓qAnd, ↓aNil, ↓aCons, ↓aConsB, ↓eTup, ↓eLst, ↓iSeq, ↓iEnum1, ↓eSortSet, Option.isSome_some, lk_int, lk_str, ↓gN, ↓gsNil, ↓gsCons, ↓dI2, ↓dAdd, ↓dIx, ↓oNone, ↓oSome, ↓eSl, ↓eB, ↓cLen, ↓gSq, natc0, natc1, natc2, List.findIdx?_cons, List.findIdx?_nil, intsOf_ints, boolsOf_bls, plAnyI, plAnyR, ↓Sl.val, ↓Ow.toD, ↓stE, ↓tYes', ↓PL.isNon, ↓eC, ↓bC, ↓dLt, ↓dLe, ↓dAddI, List.getElem?_cons_zero, List.getElem?_cons_succ, List.set_cons_zero, List.set_cons_succ, List.map_cons, List.map_nil, List.length_cons, List.length_nil, List.nil_append, List.cons_append, List.replicate_succ, List.replicate_zero, List.append_nil, atI0, atI1, atI2, atI3, atI4, cmpOk_int, cmpOk_bl, cmpOk_non, deq_int, deq_bl, true_and, and_true, Nat.reduceAdd, Nat.reduceSub, Nat.reduceLeDiff, Nat.reduceLT, Bool.not_eq_true', Bool.false_eq_true, if_false, if_true, decide_eq_true_eq, decide_eq_false_iff_not, Nat.zero_add, Nat.sub_zero, Nat.add_zero, Nat.sub_self, ixN31, ixN32, List.length_map, List.length_set, Int.reduceToNat, Int.reducePow, Int.reduceNeg, Int.reduceAdd, Int.reduceSub, Int.reduceMul, Int.reduceLT, Int.reduceLE, Int.reduceEq, Nat.reduceEqDiff, reduceCtorEq, List.mem_singleton, eq_self, not_true_eq_false, not_false_eq_true, or_true, true_or, cmpOk_lstA, cmpOk_tupA, ckA_lst, ckA_tup, ckAl_nil, ckAl_cons, ckAl_ints, ckAl_rangeL, ck_int, ck_bl, ck_non, ck_strI, cmpOk_str, deq_str, deq_tup, deq_lst, deqA_nil, deqA_cons, deqA_ints, Bool.and_true, Bool.true_and, Bool.and_false, Bool.false_and, decide_true, decide_false, Bool.not_true, Bool.not_false, pcD_eq]
      exact ⟨hl2, hJ⟩
    rw [stD0_map]
    walk_at "pl"
    refine ⟨by omega, ps.map (·.1) ++ qs.map (·.1), .inl (by rw [List.map_append]), by rw [List.length_append, List.length_map, List.length_map]; omega, fun st s1 s2 => h1 _ _ ?_⟩
    clear h1
    have hst : Starts ps qs st := ⟨s1, fun s => by rw [s2, List.mem_append]⟩
    have hst2 : Starts qs ps st := ⟨s1, fun s => by rw [hst.2]; exact Or.comm⟩
    have hsp : ∀ p ∈ ps, p.1 ∈ st := fun p hp => (hst.2 _).mpr (.inl (List.mem_map.mpr ⟨p, hp, rfl⟩))
    have hsq : ∀ p ∈ qs, p.1 ∈ st := fun p hp => (hst.2 _).mpr (.inr (List.mem_map.mpr ⟨p, hp, rfl⟩))
    have hstl : st.length < 4000 := by
      have := len_of_sub (as := st) (s1.imp fun {a b} h => by omega) fun x hx => (s2 x).mp hx
      rw [List.length_append, List.length_map, List.length_map] at this
      omega
    have h := h st hst
    refine sSeq_i fun N1 h1 => ?_
    walk_at "pl"
    refine h1 _ _ ?_
    clear h1
    refine sSeq_i fun N1 h1 => ?_
    walk_at "pl"
    refine h1 _ _ ?_
    clear h1
    refine sSeq_i fun N1 h1 => ?_
    walk_at "pl"
    refine h1 _ _ ?_
    clear h1
    refine sSeq_i fun N1 h1 => ?_
    refine sFor_k fun N hN => ?_
    walk_at "pl"
    refine hN _ _ _ ?_
    clear hN
    refine loop_i (fun k ρ M1 => M1 = M ∧ ∃ (i j : Nat) (a b c : Sl), AtI ps st k i ∧ AtI qs st k j ∧ ρ = [.va (.tup (ps.map pcD)), .va (.tup (qs.map pcD)), .va (.lst (st.map D.int)), .ow (.lst ((List.range k).map (ovD ps qs st))), .va (.int i), .va (.int j), a, b, c, .un]) ⟨rfl, 0, 0, .un, .un, .un, AtI.zero hp, AtI.zero hq, rfl⟩ ?_ ?_
    · rintro J hJ k dd ρ M1 hd ⟨rfl, i, j, a, b, c, hi, hj, rfl⟩
      obtain ⟨x, hx, rfl⟩ := enumD_get hd
      obtain ⟨s, hs, rfl⟩ := map_get hx
      have hkl := (List.getElem?_eq_some_iff.mp hs).1
      obtain ⟨p, hpi, _⟩ := id hi
      obtain ⟨q, hqj, _⟩ := id hj
      have hil := (List.getElem?_eq_some_iff.mp hpi).1
      have hjl := (List.getElem?_eq_some_iff.mp hqj).1
      walk_at "gn"
      rw [Nat.zero_add]
      refine sSeq_i fun N2 h2 => ?_
      have h3 : ∀ i' : Nat, AtI ps st (k + 1) i' → (∀ p, ps[i']? = some p → kndAt ps s = p.2) → N2 [.va (.tup (ps.map pcD)), .va (.tup (qs.map pcD)), .va (.lst (st.map D.int)), .ow (.lst ((List.range k).map (ovD ps qs st))), .va (.int i'), .va (.int j), .va (.int (k : Int)), .va (.int s), c, .un] M1 := by
        intro i' hi' hki
        refine h2 _ _ ?_
        clear h2
        refine sSeq_i fun N2 h2 => ?_
        have h4 : ∀ j' : Nat, AtI qs st (k + 1) j' → (∀ p, qs[j']? = some p → kndAt qs s = p.2) → N2 [.va (.tup (ps.map pcD)), .va (.tup (qs.map pcD)), .va (.lst (st.map D.int)), .ow (.lst ((List.range k).map (ovD ps qs st))), .va (.int i'), .va (.int j'), .va (.int (k : Int)), .va (.int s), c, .un] M1 := by
          intro j' hj' hkj
          refine h2 _ _ ?_
          clear h2
          obtain ⟨p', hp', _⟩ := id hi'
          obtain ⟨q', hq', _⟩ := id hj'
          have e1 := hki p' hp'
          have e2 := hkj q' hq'
          have a1 : atI (ps.map pcD) (i' : Int) = some (pcD p') := at_map (by omega) (by rw [Int.toNat_natCast]; exact hp')
          have a2 : atI (qs.map pcD) (j' : Int) = some (pcD q') := at_map (by omega) (by rw [Int.toNat_natCast]; exact hq')
          obtain ⟨s', P', ns'⟩ := p'
          obtain ⟨s2', P2', ns2'⟩ := q'
          rw [pcD_eq] at a1 a2
          have hov : ovD ps qs st k = .tup [.int s, endD st k, .tup [.int P', .tup (ns'.map D.int)], .tup [.int P2', .tup (ns2'.map D.int)]] := by
            unfold ovD
            rw [List.getD_eq_getElem?_getD, hs]
            simp only [Option.getD_some]
            rw [e1, e2]
            rfl
          refine sSeq_i fun N2 h2 => ?_
          walk_at "pl"
          refine h2 _ _ ?_
          clear h2
          refine sSeq_i fun N2 h2 => ?_
          have h5 : N2 [.va (.tup (ps.map pcD)), .va (.tup (qs.map pcD)), .va (.lst (st.map D.int)), .ow (.lst ((List.range k).map (ovD ps qs st))), .va (.int i'), .va (.int j'), .va (.int (k : Int)), .va (.int s), .va (endD st k), .un] M1 := by
            refine h2 _ _ ?_
            clear h2
            simp only [↓sSeq, ↓sAsg, ↓sRet, ↓sRetN, ↓sIf, ↓sDrop, ↓sAug, ↓sNext, ↓sApp, ↓eVar, ↓bVar, ↓eMov, ↓bE, ↓eBin, ↓tE, chS_bl, chS_true, chS_false, wipeE_nil, wipeE_cons, ↓qAnd, ↓aNil, ↓aCons, ↓aConsB, ↓eTup, ↓eLst, ↓iSeq, ↓iEnum1, ↓eSortSet, Option.isSome_some, lk_int, lk_str, ↓gN, ↓gsNil, ↓gsCons, ↓dI2, ↓dAdd, ↓dIx, ↓oNone, ↓oSome, ↓eSl, ↓eB, ↓cLen, ↓gSq, natc0, natc1, natc2, List.findIdx?_cons, List.findIdx?_nil, intsOf_ints, boolsOf_bls, plAnyI, plAnyR, ↓Sl.val, ↓Ow.toD, ↓stE, ↓tYes', ↓PL.isNon, ↓eC, ↓bC, ↓dLt, ↓dLe, ↓dAddI, List.getElem?_cons_zero, List.getElem?_cons_succ, List.set_cons_zero, List.set_cons_succ, List.map_cons, List.map_nil, List.length_cons, List.length_nil, List.nil_append, List.cons_append, List.replicate_succ, List.replicate_zero, List.append_nil, atI0, atI1, atI2, atI3, atI4, cmpOk_int, cmpOk_bl, cmpOk_non, deq_int, deq_bl, true_and, and_true, Nat.reduceAdd, Nat.reduceSub, Nat.reduceLeDiff, Nat.reduceLT, Bool.not_eq_true', Bool.false_eq_true, if_false, if_true, decide_eq_true_eq, decide_eq_false_iff_not, Nat.zero_add, Nat.sub_zero, Nat.add_zero, Nat.sub_self, ixN31, ixN32, List.length_map, List.length_set, Int.reduceToNat, Int.reducePow, Int.reduceNeg, Int.reduceAdd, Int.reduceSub, Int.reduceMul, Int.reduceLT, Int.reduceLE, Int.reduceEq, Nat.reduceEqDiff, reduceCtorEq, List.mem_singleton, eq_self, not_true_eq_false, not_false_eq_true, or_true, true_or, cmpOk_lstA, cmpOk_tupA, ckA_lst, ckA_tup, ckAl_nil, ckAl_cons, ckAl_ints, ckAl_rangeL, ck_int, ck_bl, ck_non, ck_strI, cmpOk_str, deq_str, deq_tup, deq_lst, deqA_nil, deqA_cons, deqA_ints, Bool.and_true, Bool.true_and, Bool.and_false, Bool.false_and, decide_true, decide_false, Bool.not_true, Bool.not_false, a1, a2, cutL1]
            refine ⟨by rw [List.length_range]; omega, hJ _ _ _ ⟨rfl, i', j', .va (.int k), .va (.int s), .va (endD st k), hi', hj', ?_⟩⟩
            rw [List.range_succ, List.map_append, List.map_singleton, hov]
          clear h2
          walk_at "pl"
          by_cases c1 : k + 1 < st.length
          · rw [if_pos (by omega)]
            have a3 : atI (st.map D.int) ((k : Int) + 1) = some (.int st[k + 1]) := at_map (by omega) (by rw [show ((k : Int) + 1).toNat = k + 1 by omega]; exact List.getElem?_eq_getElem c1)
            have e3 : endD st k = .int st[k + 1] := by unfold endD; rw [List.getElem?_eq_getElem c1]; rfl
            rw [e3] at h5
            simp only [↓sSeq, ↓sAsg, ↓sRet, ↓sRetN, ↓sIf, ↓sDrop, ↓sAug, ↓sNext, ↓sApp, ↓eVar, ↓bVar, ↓eMov, ↓bE, ↓eBin, ↓tE, chS_bl, chS_true, chS_false, wipeE_nil, wipeE_cons, ↓qAnd, ↓aNil, ↓aCons, ↓aConsB, ↓eTup, ↓eLst, ↓iSeq, ↓iEnum1, ↓eSortSet, Option.isSome_some, lk_int, lk_str, ↓gN, ↓gsNil, ↓gsCons, ↓dI2, ↓dAdd, ↓dIx, ↓oNone, ↓oSome, ↓eSl, ↓eB, ↓cLen, ↓gSq, natc0, natc1, natc2, List.findIdx?_cons, List.findIdx?_nil, intsOf_ints, boolsOf_bls, plAnyI, plAnyR, ↓Sl.val, ↓Ow.toD, ↓stE, ↓tYes', ↓PL.isNon, ↓eC, ↓bC, ↓dLt, ↓dLe, ↓dAddI, List.getElem?_cons_zero, List.getElem?_cons_succ, List.set_cons_zero, List.set_cons_succ, List.map_cons, List.map_nil, List.length_cons, List.length_nil, List.nil_append, List.cons_append, List.replicate_succ, List.replicate_zero, List.append_nil, atI0, atI1, atI2, atI3, atI4, cmpOk_int, cmpOk_bl, cmpOk_non, deq_int, deq_bl, true_and, and_true, Nat.reduceAdd, Nat.reduceSub, Nat.reduceLeDiff, Nat.reduceLT, Bool.not_eq_true', Bool.false_eq_true, if_false, if_true, decide_eq_true_eq, decide_eq_false_iff_not, Nat.zero_add, Nat.sub_zero, Nat.add_zero, Nat.sub_self, ixN31, ixN32, List.length_map, List.length_set, Int.reduceToNat, Int.reducePow, Int.reduceNeg, Int.reduceAdd, Int.reduceSub, Int.reduceMul, Int.reduceLT, Int.reduceLE, Int.reduceEq, Nat.reduceEqDiff, reduceCtorEq, List.mem_singleton, eq_self, not_true_eq_false, not_false_eq_true, or_true, true_or, cmpOk_lstA, cmpOk_tupA, ckA_lst, ckA_tup, ckAl_nil, ckAl_cons, ckAl_ints, ckAl_rangeL, ck_int, ck_bl, ck_non, ck_strI, cmpOk_str, deq_str, deq_tup, deq_lst, deqA_nil, deqA_cons, deqA_ints, Bool.and_true, Bool.true_and, Bool.and_false, Bool.false_and, decide_true, decide_false, Bool.not_true, Bool.not_false, a3]
            exact h5
          · rw [if_neg (by omega)]
            have e3 : endD st k = .non := by unfold endD; rw [List.getElem?_eq_none (by omega)]; rfl
            rw [e3] at h5
            exact h5
        clear h2
        obtain ⟨g1, g2⟩ := hj.step hq hp hst2 hsq hs
        refine sIf_k fun N3 h5 => ?_
        walk_at "pl"
        by_cases c1 : j + 1 < qs.length
        · rw [if_pos (by omega)]
          obtain ⟨q', hq'⟩ : ∃ q', qs[j + 1]? = some q' := ⟨_, List.getElem?_eq_getElem c1⟩
          have a1 : atI (qs.map pcD) ((j : Int) + 1) = some (pcD q') := at_map (by omega) (by rw [show ((j : Int) + 1).toNat = j + 1 by omega]; exact hq')
          obtain ⟨s', P', ns'⟩ := q'
          rw [pcD_eq] at a1
          simp only [↓sSeq, ↓sAsg, ↓sRet, ↓sRetN, ↓sIf, ↓sDrop, ↓sAug, ↓sNext, ↓sApp, ↓eVar, ↓bVar, ↓eMov, ↓bE, ↓eBin, ↓tE, chS_bl, chS_true, chS_false, wipeE_nil, wipeE_cons, ↓qAnd, ↓aNil, ↓aCons, ↓aConsB, ↓eTup, ↓eLst, ↓iSeq, ↓iEnum1, ↓eSortSet, Option.isSome_some, lk_int, lk_str, ↓gN, ↓gsNil, ↓gsCons, ↓dI2, ↓dAdd, ↓dIx, ↓oNone, ↓oSome, ↓eSl, ↓eB, ↓cLen, ↓gSq, natc0, natc1, natc2, List.findIdx?_cons, List.findIdx?_nil, intsOf_ints, boolsOf_bls, plAnyI, plAnyR, ↓Sl.val, ↓Ow.toD, ↓stE, ↓tYes', ↓PL.isNon, ↓eC, ↓bC, ↓dLt, ↓dLe, ↓dAddI, List.getElem?_cons_zero, List.getElem?_cons_succ, List.set_cons_zero, List.set_cons_succ, List.map_cons, List.map_nil, List.length_cons, List.length_nil, List.nil_append, List.cons_append, List.replicate_succ, List.replicate_zero, List.append_nil, atI0, atI1, atI2, atI3, atI4, cmpOk_int, cmpOk_bl, cmpOk_non, deq_int, deq_bl, true_and, and_true, Nat.reduceAdd, Nat.reduceSub, Nat.reduceLeDiff, Nat.reduceLT, Bool.not_eq_true', Bool.false_eq_true, if_false, if_true, decide_eq_true_eq, decide_eq_false_iff_not, Nat.zero_add, Nat.sub_zero, Nat.add_zero, Nat.sub_self, ixN31, ixN32, List.length_map, List.length_set, Int.reduceToNat, Int.reducePow, Int.reduceNeg, Int.reduceAdd, Int.reduceSub, Int.reduceMul, Int.reduceLT, Int.reduceLE, Int.reduceEq, Nat.reduceEqDiff, reduceCtorEq, List.mem_singleton, eq_self, not_true_eq_false, not_false_eq_true, or_true, true_or, cmpOk_lstA, cmpOk_tupA, ckA_lst, ckA_tup, ckAl_nil, ckAl_cons, ckAl_ints, ckAl_rangeL, ck_int, ck_bl, ck_non, ck_strI, cmpOk_str, deq_str, deq_tup, deq_lst, deqA_nil, deqA_cons, deqA_ints, Bool.and_true, Bool.true_and, Bool.and_false, Bool.false_and, decide_true, decide_false, Bool.not_true, Bool.not_false, a1]
          refine h5 _ _ _ ?_
          clear h5
          by_cases c2 : s' ≤ s
          · rw [decide_eq_true c2, if_pos rfl]
            obtain ⟨w1, w2⟩ := g1 _ hq' c2
            walk_at "pl"
            have := h4 (j + 1) w1 fun p hp => by rw [hq'] at hp; cases hp; exact w2
            simpa using this
          · rw [decide_eq_false c2, if_neg Bool.false_ne_true]
            obtain ⟨w1, w2⟩ := g2 fun q'' hq'' => by rw [hq'] at hq''; cases hq''; show s < s'; omega
            walk_at "pl"
            exact h4 j w1 w2
        · rw [if_neg (by omega)]
          refine h5 _ _ _ ?_
          clear h5
          rw [if_neg Bool.false_ne_true]
          obtain ⟨w1, w2⟩ := g2 fun q'' hq'' => by rw [List.getElem?_eq_none (by omega)] at hq''; cases hq''
          walk_at "pl"
          exact h4 j w1 w2
      clear h2
      obtain ⟨g1, g2⟩ := hi.step hp hq hst hsp hs
      refine sIf_k fun N3 h5 => ?_
      walk_at "pl"
      by_cases c1 : i + 1 < ps.length
      · rw [if_pos (by omega)]
        obtain ⟨q', hq'⟩ : ∃ q', ps[i + 1]? = some q' := ⟨_, List.getElem?_eq_getElem c1⟩
        have a1 : atI (ps.map pcD) ((i : Int) + 1) = some (pcD q') := at_map (by omega) (by rw [show ((i : Int) + 1).toNat = i + 1 by omega]; exact hq')
        obtain ⟨s', P', ns'⟩ := q'
        rw [pcD_eq] at a1
        simp only [↓sSeq, ↓sAsg, ↓sRet, ↓sRetN, ↓sIf, ↓sDrop, ↓sAug, ↓sNext, ↓sApp, ↓eVar, ↓bVar, ↓eMov, ↓bE, ↓eBin, ↓tE, chS_bl, chS_true, chS_false, wipeE_nil, wipeE_cons, ↓qAnd, ↓aNil, ↓aCons, ↓aConsB, ↓eTup, ↓eLst, ↓iSeq, ↓iEnum1, ↓eSortSet, Option.isSome_some, lk_int, lk_str, ↓gN, ↓gsNil, ↓gsCons, ↓dI2, ↓dAdd, ↓dIx, ↓oNone, ↓oSome, ↓eSl, ↓eB, ↓cLen, ↓gSq, natc0, natc1, natc2, List.findIdx?_cons, List.findIdx?_nil, intsOf_ints, boolsOf_bls, plAnyI, plAnyR, ↓Sl.val, ↓Ow.toD, ↓stE, ↓tYes', ↓PL.isNon, ↓eC, ↓bC, ↓dLt, ↓dLe, ↓dAddI, List.getElem?_cons_zero, List.getElem?_cons_succ, List.set_cons_zero, List.set_cons_succ, List.map_cons, List.map_nil, List.length_cons, List.length_nil, List.nil_append, List.cons_append, List.replicate_succ, List.replicate_zero, List.append_nil, atI0, atI1, atI2, atI3, atI4, cmpOk_int, cmpOk_bl, cmpOk_non, deq_int, deq_bl, true_and, and_true, Nat.reduceAdd, Nat.reduceSub, Nat.reduceLeDiff, Nat.reduceLT, Bool.not_eq_true', Bool.false_eq_true, if_false, if_true, decide_eq_true_eq, decide_eq_false_iff_not, Nat.zero_add, Nat.sub_zero, Nat.add_zero, Nat.sub_self, ixN31, ixN32, List.length_map, List.length_set, Int.reduceToNat, Int.reducePow, Int.reduceNeg, Int.reduceAdd, Int.reduceSub, Int.reduceMul, Int.reduceLT, Int.reduceLE, Int.reduceEq, Nat.reduceEqDiff, reduceCtorEq, List.mem_singleton, eq_self, not_true_eq_false, not_false_eq_true, or_true, true_or, cmpOk_lstA, cmpOk_tupA, ckA_lst, ckA_tup, ckAl_nil, ckAl_cons, ckAl_ints, ckAl_rangeL, ck_int, ck_bl, ck_non, ck_strI, cmpOk_str, deq_str, deq_tup, deq_lst, deqA_nil, deqA_cons, deqA_ints, Bool.and_true, Bool.true_and, Bool.and_false, Bool.false_and, decide_true, decide_false, Bool.not_true, Bool.not_false, a1]
        refine h5 _ _ _ ?_
        clear h5
        by_cases c2 : s' ≤ s
        · rw [decide_eq_true c2, if_pos rfl]
          obtain ⟨w1, w2⟩ := g1 _ hq' c2
          walk_at "pl"
          have := h3 (i + 1) w1 fun p hp => by rw [hq'] at hp; cases hp; exact w2
          simpa using this
        · rw [decide_eq_false c2, if_neg Bool.false_ne_true]
          obtain ⟨w1, w2⟩ := g2 fun q'' hq'' => by rw [hq'] at hq''; cases hq''; show s < s'; omega
          walk_at "pl"
          exact h3 i w1 w2
      · rw [if_neg (by omega)]
        refine h5 _ _ _ ?_
        clear h5
        rw [if_neg Bool.false_ne_true]
        obtain ⟨w1, w2⟩ := g2 fun q'' hq'' => by rw [List.getElem?_eq_none (by omega)] at hq''; cases hq''
        walk_at "pl"
        exact h3 i w1 w2
    · rintro ρ M1 ⟨rfl, i, j, a, b, c, hi, hj, rfl⟩
      rw [enumD_len, List.length_map]
      refine h1 _ _ ?_
      clear h1
      walk_at "pl"
      exact h
  · exact h.elim

local macro_rules | `(tactic| walk_at "go") => `(tactic| repeat' (first | assumption | with_reducible apply And.intro | walk_at "cs"))
local macro_rules | `(tactic| walk_at "ex") => `(tactic| simp only [List.cons.injEq, Sl.va.injEq, Sl.ow.injEq, Ow.lst.injEq, D.int.injEq, D.bl.injEq, D.str.injEq, D.lst.injEq, D.tup.injEq, true_and, and_true])
local macro_rules | `(tactic| walk_at "gn") => `(tactic| simp only [↓gN, ↓gsNil, ↓gsCons, ↓gT, ↓gSq, List.length_cons, List.length_nil, Nat.reduceAdd, true_and, List.set_cons_zero, List.set_cons_succ])
local macro_rules | `(tactic| walk_at "sp") => `(tactic| repeat' (first | split | with_reducible apply And.intro))
local macro_rules | `(tactic| walk_at "cs") => `(tactic| first | (unfold CMulP; omega) | (unfold CPowP; omega) | (unfold CModP; omega) | (unfold CDivP; omega))
local macro_rules | `(tactic| walk_at "pl") => `(tactic| simp only [↓sSeq, ↓sRet, ↓sRetN, ↓sIf, ↓sDrop, ↓sNext, ↓eVar, ↓bVar, ↓bE, ↓eBin, ↓tE, chS_bl, chS_true, chS_false, wipeE_nil, wipeE_cons, ↓aNil, ↓aCons, ↓eTup, Option.isSome_some, lk_int, lk_str, ↓dIn, ↓dInX, natc0, natc1, natc2, List.findIdx?_cons, List.findIdx?_nil, intsOf_ints, boolsOf_bls, plAnyI, plAnyR, ↓Sl.val, ↓Ow.toD, ↓stE, ↓PL.isNon, ↓eC, List.getElem?_cons_zero, List.getElem?_cons_succ, List.set_cons_zero, List.set_cons_succ, List.map_cons, List.map_nil, List.length_cons, List.length_nil, List.nil_append, List.cons_append, List.replicate_succ, List.replicate_zero, List.append_nil, atI0, atI1, atI2, atI3, atI4, cmpOk_int, cmpOk_bl, cmpOk_non, deq_int, deq_bl, true_and, and_true, Nat.reduceAdd, Nat.reduceSub, Nat.reduceLeDiff, Nat.reduceLT, Bool.not_eq_true', Bool.false_eq_true, if_false, if_true, decide_eq_true_eq, decide_eq_false_iff_not, Nat.zero_add, Nat.sub_zero, Nat.add_zero, Nat.sub_self, ixN31, ixN32, List.length_map, List.length_set, Int.reduceToNat, Int.reducePow, Int.reduceNeg, Int.reduceAdd, Int.reduceSub, Int.reduceMul, Int.reduceLT, Int.reduceLE, Int.reduceEq, Nat.reduceEqDiff, reduceCtorEq, List.mem_singleton, eq_self, not_true_eq_false, not_false_eq_true, or_true, true_or, cmpOk_lstA, cmpOk_tupA, ckA_lst, ckA_tup, ckAl_nil, ckAl_cons, ckAl_ints, ckAl_rangeL, ck_int, ck_bl, ck_non, ck_strI, cmpOk_str, deq_str, deq_tup, deq_lst, deqA_nil, deqA_cons, deqA_ints, Bool.and_true, Bool.true_and, Bool.and_false, Bool.false_and, decide_true, decide_false, Bool.not_true, Bool.not_false])
theorem ok_unit_of (T : TF K mg) : FnOk P w K mg base CX0 1 T.a_unit_of T.x_unit_of ["kind"] (liP K p_unit_of) := by
  refine fn_P T.f_unit_of sc_unit_of (by intro ds M Q E h; unfold p_unit_of at h; split at h <;> first | rfl | exact h.elim) (fun cdv A outer s H E z hz hr => (qs_cons (qs_if (qt_cmp (ob_inX (hu65 hr)) (qb_var 0) (qb_of (qe_tup (qa_cons qe_str (qa_cons qe_str (qa_cons qe_str qa_nil))))) (by with_unfolding_all rfl))
    (qs_end (qs_ret qe_str))
    qs_nil)
    (qs_cons (qs_if (qt_cmp (ob_inX (hu65 hr)) (qb_var 0) (qb_of (qe_tup (qa_cons qe_str (qa_cons qe_str (qa_cons qe_str qa_nil))))) (by with_unfolding_all rfl))
    (qs_end (qs_ret qe_str))
    qs_nil)
    (qs_end (qs_ret (qe_var 0)))))) ?_
  intro ds M Q0 h
  unfold p_unit_of at h
  split at h
  · skip
    obtain ⟨hk, h⟩ := h
    have hs : PyData.strOk sDay = true ∧ PyData.strOk sWeek = true := by decide +kernel
    rcases hk with rfl | rfl
    · walk_at "pl"
      refine ⟨by decide +kernel, ?_⟩
      rw [if_neg (by decide +kernel)]
      refine ⟨by decide +kernel, ?_⟩
      rw [if_neg (by decide +kernel)]
      exact h
    · walk_at "pl"
      refine ⟨by decide +kernel, ?_⟩
      rw [if_neg (by decide +kernel)]
      refine ⟨by decide +kernel, ?_⟩
      rw [if_neg (by decide +kernel)]
      exact h
  · exact h.elim

local macro_rules | `(tactic| walk_at "go") => `(tactic| repeat' (first | assumption | with_reducible apply And.intro | walk_at "cs"))
local macro_rules | `(tactic| walk_at "ex") => `(tactic| simp only [List.cons.injEq, Sl.va.injEq, Sl.ow.injEq, Ow.lst.injEq, D.int.injEq, D.bl.injEq, D.str.injEq, D.lst.injEq, D.tup.injEq, true_and, and_true])
local macro_rules | `(tactic| walk_at "gn") => `(tactic| simp only [↓gN, ↓gsNil, ↓gsCons, ↓gT, ↓gSq, List.length_cons, List.length_nil, Nat.reduceAdd, true_and, List.set_cons_zero, List.set_cons_succ])
local macro_rules | `(tactic| walk_at "sp") => `(tactic| repeat' (first | split | with_reducible apply And.intro))
local macro_rules | `(tactic| walk_at "cs") => `(tactic| first | (unfold CMulP; omega) | (unfold CPowP; omega) | (unfold CModP; omega) | (unfold CDivP; omega))
local macro_rules | `(tactic| walk_at "pl") => `(tactic| simp only [↓sSeq, ↓sRet, ↓sRetN, ↓sIf, ↓sDrop, ↓sNext, ↓bVar, ↓bE, ↓eBin, ↓tE, chS_bl, chS_true, chS_false, wipeE_nil, wipeE_cons, ↓eUn, ↓qOr, ↓aNil, ↓aCons, ↓aConsB, ↓iR1, Option.isSome_some, lk_int, lk_str, ↓gN, ↓dI2, ↓dAdd, ↓dEq, ↓dIx, ↓eB, ↓cLen, ↓cAll, natc0, natc1, natc2, List.findIdx?_cons, List.findIdx?_nil, intsOf_ints, boolsOf_bls, plAnyI, plAnyR, ↓Sl.val, ↓Ow.toD, ↓stE, ↓tYes', ↓PL.isNon, ↓eC, ↓bC, ↓dSub, ↓dLt, ↓dGt, List.getElem?_cons_zero, List.getElem?_cons_succ, List.set_cons_zero, List.set_cons_succ, List.map_cons, List.map_nil, List.length_cons, List.length_nil, List.nil_append, List.cons_append, List.replicate_succ, List.replicate_zero, List.append_nil, atI0, atI1, atI2, atI3, atI4, cmpOk_int, cmpOk_bl, cmpOk_non, deq_int, deq_bl, true_and, and_true, Nat.reduceAdd, Nat.reduceSub, Nat.reduceLeDiff, Nat.reduceLT, Bool.not_eq_true', Bool.false_eq_true, if_false, if_true, decide_eq_true_eq, decide_eq_false_iff_not, Nat.zero_add, Nat.sub_zero, Nat.add_zero, Nat.sub_self, ixN31, ixN32, List.length_map, List.length_set, Int.reduceToNat, Int.reducePow, Int.reduceNeg, Int.reduceAdd, Int.reduceSub, Int.reduceMul, Int.reduceLT, Int.reduceLE, Int.reduceEq, Nat.reduceEqDiff, reduceCtorEq, List.mem_singleton, eq_self, not_true_eq_false, not_false_eq_true, or_true, true_or, cmpOk_lstA, cmpOk_tupA, ckA_lst, ckA_tup, ckAl_nil, ckAl_cons, ckAl_ints, ckAl_rangeL, ck_int, ck_bl, ck_non, ck_strI, cmpOk_str, deq_str, deq_tup, deq_lst, deqA_nil, deqA_cons, deqA_ints, Bool.and_true, Bool.true_and, Bool.and_false, Bool.false_and, decide_true, decide_false, Bool.not_true, Bool.not_false])
theorem ok_ascending (T : TF K mg) : FnOk P w K mg base CX0 1 T.a_ascending T.x_ascending ["numbers", "least", "most"] (liP K p_ascending) := by
  refine fn_P T.f_ascending sc_ascending (by intro ds M Q E h; unfold p_ascending at h; split at h <;> first | rfl | exact h.elim) (fun cdv A outer s H E z hz hr => (qs_cons (qs_if (PW.pt (qw_or (qt_cmp (ob_eq (hu64 hr)) (qb_of (qe_callB cb_len (by rfl) T.m_len (by decide +kernel) (qab_cons (qb_var 0) qab_nil))) qb_int (nomark _)) (qw_or (qt_cmp ob_lt (qb_of (qe_ix (qb_var 0) qb_int)) (qb_var 1) (nomark _)) (qw_or1 (qt_cmp ob_gt (qb_of (qe_ix (qb_var 0) (qb_of (qe_un ub_neg qb_int)))) (qb_var 2) (nomark _))))))
    (qs_end (qs_ret qe_bl))
    qs_nil)
    (qs_end (qs_ret (qe_callB (cb_all rfl) (by rfl) T.m_all (by decide +kernel) (qab_cons (qb_of (qe_lc rfl sc_ascending.nd (own := [("k", 3)]) (qi_range1 (by rfl) T.m_range (qa_cons (qe_bin ob_sub (qb_of (qe_callB cb_len (by rfl) T.m_len (by decide +kernel) (qab_cons (qb_var 0) qab_nil))) qb_int) qa_nil)) (blkOk_by (own := [("k", 3)]) (N := N_ascending) (sc := defScope s_ascending) (by decide +kernel)) (fun _ _ _ _ _ z hz => (qg_name (i := 3) sc_ascending.nd rfl (by first | exact Or.inl rfl | exact Or.inr rfl))) (fun _ _ _ _ _ => an_t0) (fun _ _ _ _ _ z hz => (qe_cmp ob_lt (qb_of (qe_ix (qb_var 0) (qb_var 3))) (qb_of (qe_ix (qb_var 0) (qb_of (qe_bin ob_add (qb_var 3) qb_int)))) (nomark _))))) qab_nil)))))) ?_
  intro ds M Q0 h
  unfold p_ascending at h
  split at h
  · skip
    obtain ⟨ns, rfl, ⟨ha, h0, hl, hb⟩, h⟩ := h
    rename_i least most
    obtain ⟨v, hv, hv2⟩ := at_head h0
    have hvm : v ∈ ns := List.mem_of_mem_head? (by rw [hv]; rfl)
    obtain ⟨ys, y, rfl⟩ := snoc_of h0
    have hym := hb y (by simp)
    have hvm := hb v hvm
    have hat : atI ((ys ++ [y]).map D.int) (-1) = some (.int y) := by rw [List.map_append, List.map_singleton]; exact atI_snoc
    simp only [↓sSeq, ↓sRet, ↓sRetN, ↓sIf, ↓sDrop, ↓sNext, ↓bVar, ↓bE, ↓eBin, ↓tE, chS_bl, chS_true, chS_false, wipeE_nil, wipeE_cons, ↓eUn, ↓qOr, ↓aNil, ↓aCons, ↓aConsB, ↓iR1, Option.isSome_some, lk_int, lk_str, ↓gN, ↓dI2, ↓dAdd, ↓dEq, ↓dIx, ↓eB, ↓cLen, ↓cAll, natc0, natc1, natc2, List.findIdx?_cons, List.findIdx?_nil, intsOf_ints, boolsOf_bls, plAnyI, plAnyR, ↓Sl.val, ↓Ow.toD, ↓stE, ↓tYes', ↓PL.isNon, ↓eC, ↓bC, ↓dSub, ↓dLt, ↓dGt, List.getElem?_cons_zero, List.getElem?_cons_succ, List.set_cons_zero, List.set_cons_succ, List.map_cons, List.map_nil, List.length_cons, List.length_nil, List.nil_append, List.cons_append, List.replicate_succ, List.replicate_zero, List.append_nil, atI0, atI1, atI2, atI3, atI4, cmpOk_int, cmpOk_bl, cmpOk_non, deq_int, deq_bl, true_and, and_true, Nat.reduceAdd, Nat.reduceSub, Nat.reduceLeDiff, Nat.reduceLT, Bool.not_eq_true', Bool.false_eq_true, if_false, if_true, decide_eq_true_eq, decide_eq_false_iff_not, Nat.zero_add, Nat.sub_zero, Nat.add_zero, Nat.sub_self, ixN31, ixN32, List.length_map, List.length_set, Int.reduceToNat, Int.reducePow, Int.reduceNeg, Int.reduceAdd, Int.reduceSub, Int.reduceMul, Int.reduceLT, Int.reduceLE, Int.reduceEq, Nat.reduceEqDiff, reduceCtorEq, List.mem_singleton, eq_self, not_true_eq_false, not_false_eq_true, or_true, true_or, cmpOk_lstA, cmpOk_tupA, ckA_lst, ckA_tup, ckAl_nil, ckAl_cons, ckAl_ints, ckAl_rangeL, ck_int, ck_bl, ck_non, ck_strI, cmpOk_str, deq_str, deq_tup, deq_lst, deqA_nil, deqA_cons, deqA_ints, Bool.and_true, Bool.true_and, Bool.and_false, Bool.false_and, decide_true, decide_false, Bool.not_true, Bool.not_false, hat, hv2]
    have hlen : (((ys ++ [y]).length : Nat) : Int) ≠ 0 := by simp; omega
    rw [if_neg hlen, if_neg (by omega), if_neg (by omega)]
    refine eLc_fm (rngF fun k => .bl true) (rangeL 0 (((ys ++ [y]).length : Int) - 1)) (fun Q h => by walk_at "pl"; exact ⟨⟨by omega, by omega⟩, h⟩) rfl (by rw [rangeL_len]; omega) ?_ ?_
    · intro i d acc J hd hl hJ
      obtain ⟨rfl, hi⟩ := rangeL_get hd
      obtain ⟨a, ea⟩ : ∃ a, (ys ++ [y])[i]? = some a := ⟨_, List.getElem?_eq_getElem (by omega)⟩
      obtain ⟨b, eb⟩ : ∃ b, (ys ++ [y])[i + 1]? = some b := ⟨_, List.getElem?_eq_getElem (by omega)⟩
      have hlt := Asc.get ha (show i < i + 1 by omega) ea eb
      have h1 : atI ((ys ++ [y]).map D.int) ((0 : Int) + i) = some (.int a) := at_map (by omega) (by rw [show ((0 : Int) + i).toNat = i by omega]; exact ea)
      have h2 : atI ((ys ++ [y]).map D.int) ((0 : Int) + i + 1) = some (.int b) := at_map (by omega) (by rw [show ((0 : Int) + i + 1).toNat = i + 1 by omega]; exact eb)
      simp only [↓sSeq, ↓sRet, ↓sRetN, ↓sIf, ↓sDrop, ↓sNext, ↓bVar, ↓bE, ↓eBin, ↓tE, chS_bl, chS_true, chS_false, wipeE_nil, wipeE_cons, ↓eUn, ↓qOr, ↓aNil, ↓aCons, ↓aConsB, ↓iR1, Option.isSome_some, lk_int, lk_str, ↓gN, ↓dI2, ↓dAdd, ↓dEq, ↓dIx, ↓eB, ↓cLen, ↓cAll, natc0, natc1, natc2, List.findIdx?_cons, List.findIdx?_nil, intsOf_ints, boolsOf_bls, plAnyI, plAnyR, ↓Sl.val, ↓Ow.toD, ↓stE, ↓tYes', ↓PL.isNon, ↓eC, ↓bC, ↓dSub, ↓dLt, ↓dGt, List.getElem?_cons_zero, List.getElem?_cons_succ, List.set_cons_zero, List.set_cons_succ, List.map_cons, List.map_nil, List.length_cons, List.length_nil, List.nil_append, List.cons_append, List.replicate_succ, List.replicate_zero, List.append_nil, atI0, atI1, atI2, atI3, atI4, cmpOk_int, cmpOk_bl, cmpOk_non, deq_int, deq_bl, true_and, and_true, Nat.reduceAdd, Nat.reduceSub, Nat.reduceLeDiff, Nat.reduceLT, Bool.not_eq_true', Bool.false_eq_true, if_false, if_true, decide_eq_true_eq, decide_eq_false_iff_not, Nat.zero_add, Nat.sub_zero, Nat.add_zero, Nat.sub_self, ixN31, ixN32, List.length_map, List.length_set, Int.reduceToNat, Int.reducePow, Int.reduceNeg, Int.reduceAdd, Int.reduceSub, Int.reduceMul, Int.reduceLT, Int.reduceLE, Int.reduceEq, Nat.reduceEqDiff, reduceCtorEq, List.mem_singleton, eq_self, not_true_eq_false, not_false_eq_true, or_true, true_or, cmpOk_lstA, cmpOk_tupA, ckA_lst, ckA_tup, ckAl_nil, ckAl_cons, ckAl_ints, ckAl_rangeL, ck_int, ck_bl, ck_non, ck_strI, cmpOk_str, deq_str, deq_tup, deq_lst, deqA_nil, deqA_cons, deqA_ints, Bool.and_true, Bool.true_and, Bool.and_false, Bool.false_and, decide_true, decide_false, Bool.not_true, Bool.not_false, h1, h2]
      rw [decide_eq_true hlt]
      exact ⟨hl, hJ⟩
    · rw [rngF_map, show (List.range (((ys ++ [y]).length : Int) - 1).toNat).map (fun _ => D.bl true) = ((List.range (((ys ++ [y]).length : Int) - 1).toNat).map fun _ => true).map D.bl by rw [List.map_map]; rfl]
      walk_at "pl"
      rw [show ((List.range (((ys ++ [y]).length : Int) - 1).toNat).map fun _ => true).all id = true by simp]
      exact h
  · exact h.elim

theorem ok__law_draw (T : TF K mg) : FnOk P w K mg base CX0 1 T.a__law_draw T.x__law_draw ["tape", "many"] (liP K pDraw) := by
  refine fn_draw T.f__law_draw sc__law_draw rfl (fun cdv A outer s H E z hz hr => (qs_cons (qs_if (qt_cmp ob_lt (qb_of (qe_ixM (qb_var 0) qb_int)) (qb_var 1) (nomark _))
    (qs_cons (qs_set (i := 2) sc__law_draw.nd rfl (by first | exact Or.inl rfl | exact Or.inr rfl) (qe_ixM (qb_var 0) qb_int))
    (qs_cons (qs_set (i := 3) sc__law_draw.nd rfl (by first | exact Or.inl rfl | exact Or.inr rfl) (qe_ixM (qb_var 0) qb_int))
    (qs_cons (qs_set (i := 4) sc__law_draw.nd rfl (by first | exact Or.inl rfl | exact Or.inr rfl) qe_int)
    (qs_cons (qs_if (qt_cmp ob_lt (qb_var 3) (qb_of (qe_callB cb_len (by rfl) T.m_len (by decide +kernel) (qab_cons (qb_var 2) qab_nil))) (nomark _))
    (qs_end (qs_set (i := 4) sc__law_draw.nd rfl (by first | exact Or.inl rfl | exact Or.inr rfl) (qe_ix (qb_var 2) (qb_var 3))))
    qs_nil)
    (qs_cons (qs_if (qt_cmp ob_lt (qb_var 4) qb_int (nomark _))
    (qs_end (qs_set (i := 4) sc__law_draw.nd rfl (by first | exact Or.inl rfl | exact Or.inr rfl) (qe_bin ob_sub (qb_of (qe_bin ob_mul (qb_of (qe_un ub_neg qb_int)) (qb_var 4))) qb_int)))
    qs_nil)
    (qs_cons (qs_if (qt_cmp ob_lt (qb_var 4) (qb_of (qe_bin ob_pow qb_int qb_int)) (nomark _))
    (qs_cons (qs_set (i := 4) sc__law_draw.nd rfl (by first | exact Or.inl rfl | exact Or.inr rfl) (qe_bin ob_mod (qb_of (qe_callTy cb_int (by rfl) T.m_int (by decide +kernel) (qab_cons (qb_of (qe_bin ob_add (qb_of (qe_bin ob_add (qb_of (qe_bin ob_mul (qb_var 4) qb_int)) (qb_of (qe_bin ob_mul (qb_var 3) qb_int)))) qb_int)) qab_nil))) qb_int))
    (qs_end (qs_set (i := 4) sc__law_draw.nd rfl (by first | exact Or.inl rfl | exact Or.inr rfl) (qe_bin ob_mod (qb_of (qe_callTy cb_int (by rfl) T.m_int (by decide +kernel) (qab_cons (qb_of (qe_bin ob_add (qb_of (qe_bin ob_add (qb_of (qe_bin ob_mul (qb_var 4) qb_int)) (qb_of (qe_bin ob_mul (qb_var 3) qb_int)))) qb_int)) qab_nil))) qb_int))))
    qs_nil)
    (qs_cons (qs_setM (qe_bin ob_add (qb_var 3) qb_int) (qb_var 0) qb_int)
    (qs_end (qs_setM (qe_var 4) (qb_var 0) qb_int)))))))))
    qs_nil)
    (qs_cons (qs_set (i := 5) sc__law_draw.nd rfl (by first | exact Or.inl rfl | exact Or.inr rfl) (qe_bin ob_mod (qb_of (qe_callTy cb_int (by rfl) T.m_int (by decide +kernel) (qab_cons (qb_of (qe_ixM (qb_var 0) qb_int)) qab_nil))) (qb_var 1)))
    (qs_cons (qs_setM (qe_bin ob_div (qb_of (qe_ixM (qb_var 0) qb_int)) (qb_var 1)) (qb_var 0) qb_int)
    (qs_end (qs_ret (qe_var 5))))))) ?_
  intro T n M ns c x Q0 hM hc hx hn hn2 hQ
  have hL : ∀ o, (mput M T o).lookup T = some o := fun o => lookup_mput ⟨_, lookup_mem hM, rfl⟩
  by_cases hb : c < (ns.length : Int)
  · obtain ⟨v, hv⟩ : ∃ v, atI (ns.map D.int) c = some (.int v) := by
      have h2 : c.toNat < ns.length := by omega
      refine ⟨ns[c.toNat], ?_⟩
      rw [atI_nn hc]
      simp [h2]
    simp only [↓sSeq, ↓sAsg, ↓sRet, ↓sRetN, ↓sIf, ↓sDrop, ↓sNext, ↓eVar, ↓bVar, ↓bE, ↓eBin, ↓tE, chS_bl, chS_true, chS_false, wipeE_nil, wipeE_cons, ↓eUn, ↓aNil, ↓aConsB, Option.isSome_some, lk_int, lk_str, ↓dI2, ↓dAdd, ↓dIx, ↓eB, ↓cLen, ↓cInt, natc0, natc1, natc2, List.findIdx?_cons, List.findIdx?_nil, intsOf_ints, boolsOf_bls, plAnyI, plAnyR, ↓Sl.val, ↓Ow.toD, ↓stE, ↓eIxM, ↓sSetM, ↓PL.isNon, ↓eC, ↓bC, ↓dSub, ↓dMul, ↓dDiv, ↓dMod, ↓dPow, ↓dLt, List.getElem?_cons_zero, List.getElem?_cons_succ, List.set_cons_zero, List.set_cons_succ, List.map_cons, List.map_nil, List.length_cons, List.length_nil, List.nil_append, List.cons_append, List.replicate_succ, List.replicate_zero, List.append_nil, atI0, atI1, atI2, atI3, atI4, cmpOk_int, cmpOk_bl, cmpOk_non, deq_int, deq_bl, true_and, and_true, Nat.reduceAdd, Nat.reduceSub, Nat.reduceLeDiff, Nat.reduceLT, Bool.not_eq_true', Bool.false_eq_true, if_false, if_true, decide_eq_true_eq, decide_eq_false_iff_not, Nat.zero_add, Nat.sub_zero, Nat.add_zero, Nat.sub_self, ixN31, ixN32, List.length_map, List.length_set, Int.reduceToNat, Int.reducePow, Int.reduceNeg, Int.reduceAdd, Int.reduceSub, Int.reduceMul, Int.reduceLT, Int.reduceLE, Int.reduceEq, Nat.reduceEqDiff, reduceCtorEq, List.mem_singleton, eq_self, not_true_eq_false, not_false_eq_true, or_true, true_or, cmpOk_lstA, cmpOk_tupA, ckA_lst, ckA_tup, ckAl_nil, ckAl_cons, ckAl_ints, ckAl_rangeL, ck_int, ck_bl, ck_non, ck_strI, cmpOk_str, deq_str, deq_tup, deq_lst, deqA_nil, deqA_cons, deqA_ints, Bool.and_true, Bool.true_and, Bool.and_false, Bool.false_and, decide_true, decide_false, Bool.not_true, Bool.not_false, hM, hL, mput_mput, hv]
    walk_at "sp"
    all_goals first
      | walk_at "cs"
      | exact hQ _ _ _ (em0 hn) (em1 hn) (by omega) (ed0 hn (by omega))
  · simp only [↓sSeq, ↓sAsg, ↓sRet, ↓sRetN, ↓sIf, ↓sDrop, ↓sNext, ↓eVar, ↓bVar, ↓bE, ↓eBin, ↓tE, chS_bl, chS_true, chS_false, wipeE_nil, wipeE_cons, ↓eUn, ↓aNil, ↓aConsB, Option.isSome_some, lk_int, lk_str, ↓dI2, ↓dAdd, ↓dIx, ↓eB, ↓cLen, ↓cInt, natc0, natc1, natc2, List.findIdx?_cons, List.findIdx?_nil, intsOf_ints, boolsOf_bls, plAnyI, plAnyR, ↓Sl.val, ↓Ow.toD, ↓stE, ↓eIxM, ↓sSetM, ↓PL.isNon, ↓eC, ↓bC, ↓dSub, ↓dMul, ↓dDiv, ↓dMod, ↓dPow, ↓dLt, List.getElem?_cons_zero, List.getElem?_cons_succ, List.set_cons_zero, List.set_cons_succ, List.map_cons, List.map_nil, List.length_cons, List.length_nil, List.nil_append, List.cons_append, List.replicate_succ, List.replicate_zero, List.append_nil, atI0, atI1, atI2, atI3, atI4, cmpOk_int, cmpOk_bl, cmpOk_non, deq_int, deq_bl, true_and, and_true, Nat.reduceAdd, Nat.reduceSub, Nat.reduceLeDiff, Nat.reduceLT, Bool.not_eq_true', Bool.false_eq_true, if_false, if_true, decide_eq_true_eq, decide_eq_false_iff_not, Nat.zero_add, Nat.sub_zero, Nat.add_zero, Nat.sub_self, ixN31, ixN32, List.length_map, List.length_set, Int.reduceToNat, Int.reducePow, Int.reduceNeg, Int.reduceAdd, Int.reduceSub, Int.reduceMul, Int.reduceLT, Int.reduceLE, Int.reduceEq, Nat.reduceEqDiff, reduceCtorEq, List.mem_singleton, eq_self, not_true_eq_false, not_false_eq_true, or_true, true_or, cmpOk_lstA, cmpOk_tupA, ckA_lst, ckA_tup, ckAl_nil, ckAl_cons, ckAl_ints, ckAl_rangeL, ck_int, ck_bl, ck_non, ck_strI, cmpOk_str, deq_str, deq_tup, deq_lst, deqA_nil, deqA_cons, deqA_ints, Bool.and_true, Bool.true_and, Bool.and_false, Bool.false_and, decide_true, decide_false, Bool.not_true, Bool.not_false, hM, hL, mput_mput]
    walk_at "sp"
    all_goals first
      | walk_at "cs"
      | exact hQ _ _ _ (em0 hn) (em1 hn) (by omega) (ed0 hn (by omega))

theorem ok__law_tape (T : TF K mg) : FnOk P w K mg base CX0 1 T.a__law_tape T.x__law_tape ["script"] (spTape K) := by
  refine T.f__law_tape.ok sc__law_tape (fun vs H Q E ⟨a, ns, e, _⟩ => by rw [e]; rfl) (fun cdv A outer s H vs Q E hr ⟨a, ns, e, hS, q⟩ => ⟨_, PSs.nox (pss_one (ps_ret (pe_lst (pa_cons (pe_callTy call_list_of (by rfl) T.m_list (by decide +kernel) (pa_cons (pv 0) pa_nil)) (pa_cons pe_int (pa_cons pe_int pa_nil)))))), ?_⟩)
  subst e
  refine ⟨.ref a, rfl, a, _, rfl, .inl hS, fun c hc => ⟨by show 3 ≤ sizeLine; decide, fun p hp => ?_⟩⟩
  have hpc : p ≠ c := fun e => by rw [e, upd_same] at hp; cases hp
  have hp0 : H p = none := by rw [upd_ne hpc] at hp; exact hp
  exact q _ c p (fun b o e => by rw [upd_ne (ne_of_none e hp0), upd_ne (ne_of_none e hc)]; exact e) hc hp0 hpc (by rw [upd_ne hpc.symm, upd_same]) upd_same
local macro_rules | `(tactic| walk_at "go") => `(tactic| repeat' (first | assumption | with_reducible apply And.intro | walk_at "cs"))
local macro_rules | `(tactic| walk_at "ex") => `(tactic| simp only [List.cons.injEq, Sl.va.injEq, Sl.ow.injEq, Ow.lst.injEq, D.int.injEq, D.bl.injEq, D.str.injEq, D.lst.injEq, D.tup.injEq, true_and, and_true])
local macro_rules | `(tactic| walk_at "gn") => `(tactic| simp only [↓gN, ↓gsNil, ↓gsCons, ↓gT, ↓gSq, List.length_cons, List.length_nil, Nat.reduceAdd, true_and, List.set_cons_zero, List.set_cons_succ])
local macro_rules | `(tactic| walk_at "sp") => `(tactic| repeat' (first | split | with_reducible apply And.intro))
local macro_rules | `(tactic| walk_at "cs") => `(tactic| first | (unfold CMulP; omega) | (unfold CPowP; omega) | (unfold CModP; omega) | (unfold CDivP; omega))
local macro_rules | `(tactic| walk_at "pl") => `(tactic| simp only [↓sRet, ↓sRetN, ↓sDrop, ↓sNext, ↓bVar, ↓eBin, chS_bl, chS_true, chS_false, wipeE_nil, wipeE_cons, ↓eAnd_eq, Option.isSome_some, lk_int, lk_str, ↓dEq, natc0, natc1, natc2, List.findIdx?_cons, List.findIdx?_nil, intsOf_ints, boolsOf_bls, plAnyI, plAnyR, ↓eIsi, ↓Sl.val, ↓Ow.toD, ↓stE, ↓PL.isNon, List.getElem?_cons_zero, List.getElem?_cons_succ, List.set_cons_zero, List.set_cons_succ, List.map_cons, List.map_nil, List.length_cons, List.length_nil, List.nil_append, List.cons_append, List.replicate_succ, List.replicate_zero, List.append_nil, atI0, atI1, atI2, atI3, atI4, cmpOk_int, cmpOk_bl, cmpOk_non, deq_int, deq_bl, true_and, and_true, Nat.reduceAdd, Nat.reduceSub, Nat.reduceLeDiff, Nat.reduceLT, Bool.not_eq_true', Bool.false_eq_true, if_false, if_true, decide_eq_true_eq, decide_eq_false_iff_not, Nat.zero_add, Nat.sub_zero, Nat.add_zero, Nat.sub_self, isi_non_bool, isi_non_int, isi_non_str, isi_non_list, isi_non_tuple, isi_bl_bool, isi_bl_int, isi_bl_str, isi_bl_list, isi_bl_tuple, isi_int_bool, isi_int_int, isi_int_str, isi_int_list, isi_int_tuple, isi_str_bool, isi_str_int, isi_str_str, isi_str_list, isi_str_tuple, isi_lst_bool, isi_lst_int, isi_lst_str, isi_lst_list, isi_lst_tuple, isi_tup_bool, isi_tup_int, isi_tup_str, isi_tup_list, isi_tup_tuple, ixN31, ixN32, List.length_map, List.length_set, Int.reduceToNat, Int.reducePow, Int.reduceNeg, Int.reduceAdd, Int.reduceSub, Int.reduceMul, Int.reduceLT, Int.reduceLE, Int.reduceEq, Nat.reduceEqDiff, reduceCtorEq, List.mem_singleton, eq_self, not_true_eq_false, not_false_eq_true, or_true, true_or, cmpOk_lstA, cmpOk_tupA, ckA_lst, ckA_tup, ckAl_nil, ckAl_cons, ckAl_ints, ckAl_rangeL, ck_int, ck_bl, ck_non, ck_strI, cmpOk_str, deq_str, deq_tup, deq_lst, deqA_nil, deqA_cons, deqA_ints, Bool.and_true, Bool.true_and, Bool.and_false, Bool.false_and, decide_true, decide_false, Bool.not_true, Bool.not_false])
theorem ok__law_same (T : TF K mg) : FnOk P w K mg base CX0 1 T.a__law_same T.x__law_same ["told", "due"] (liP K p__law_same) := by
  refine fn_P T.f__law_same sc__law_same (by intro ds M Q E h; unfold p__law_same at h; split at h <;> first | rfl | exact h.elim) (fun cdv A outer s H E z hz hr => (qs_end (qs_ret (qe_and (qe_isi (N := "bool") (by rfl) T.m_isinstance (by rfl) T.m_bool (by decide +kernel) (qb_var 0)) (qe_one (qe_cmp (ob_eq (hu64 hr)) (qb_var 0) (qb_var 1) (nomark _))))))) ?_
  intro ds M Q0 h
  unfold p__law_same at h
  split at h
  · skip
    walk_at "pl"
    exact h
  · exact h.elim

local macro_rules | `(tactic| walk_at "go") => `(tactic| repeat' (first | assumption | with_reducible apply And.intro | walk_at "cs"))
local macro_rules | `(tactic| walk_at "ex") => `(tactic| simp only [List.cons.injEq, Sl.va.injEq, Sl.ow.injEq, Ow.lst.injEq, D.int.injEq, D.bl.injEq, D.str.injEq, D.lst.injEq, D.tup.injEq, true_and, and_true])
local macro_rules | `(tactic| walk_at "gn") => `(tactic| simp only [↓gN, ↓gsNil, ↓gsCons, ↓gT, ↓gSq, List.length_cons, List.length_nil, Nat.reduceAdd, true_and, List.set_cons_zero, List.set_cons_succ])
local macro_rules | `(tactic| walk_at "sp") => `(tactic| repeat' (first | split | with_reducible apply And.intro))
local macro_rules | `(tactic| walk_at "cs") => `(tactic| first | (unfold CMulP; omega) | (unfold CPowP; omega) | (unfold CModP; omega) | (unfold CDivP; omega))
local macro_rules | `(tactic| walk_at "pl") => `(tactic| simp only [↓sRet, ↓sRetN, ↓sDrop, ↓sNext, ↓bVar, ↓bE, ↓eBin, chS_bl, chS_true, chS_false, wipeE_nil, wipeE_cons, Option.isSome_some, lk_int, lk_str, ↓dI2, natc0, natc1, natc2, List.findIdx?_cons, List.findIdx?_nil, intsOf_ints, boolsOf_bls, plAnyI, plAnyR, ↓Sl.val, ↓Ow.toD, ↓stE, ↓PL.isNon, ↓dSub, ↓dMul, ↓dDiv, List.getElem?_cons_zero, List.getElem?_cons_succ, List.set_cons_zero, List.set_cons_succ, List.map_cons, List.map_nil, List.length_cons, List.length_nil, List.nil_append, List.cons_append, List.replicate_succ, List.replicate_zero, List.append_nil, atI0, atI1, atI2, atI3, atI4, cmpOk_int, cmpOk_bl, cmpOk_non, deq_int, deq_bl, true_and, and_true, Nat.reduceAdd, Nat.reduceSub, Nat.reduceLeDiff, Nat.reduceLT, Bool.not_eq_true', Bool.false_eq_true, if_false, if_true, decide_eq_true_eq, decide_eq_false_iff_not, Nat.zero_add, Nat.sub_zero, Nat.add_zero, Nat.sub_self, ixN31, ixN32, List.length_map, List.length_set, Int.reduceToNat, Int.reducePow, Int.reduceNeg, Int.reduceAdd, Int.reduceSub, Int.reduceMul, Int.reduceLT, Int.reduceLE, Int.reduceEq, Nat.reduceEqDiff, reduceCtorEq, List.mem_singleton, eq_self, not_true_eq_false, not_false_eq_true, or_true, true_or, cmpOk_lstA, cmpOk_tupA, ckA_lst, ckA_tup, ckAl_nil, ckAl_cons, ckAl_ints, ckAl_rangeL, ck_int, ck_bl, ck_non, ck_strI, cmpOk_str, deq_str, deq_tup, deq_lst, deqA_nil, deqA_cons, deqA_ints, Bool.and_true, Bool.true_and, Bool.and_false, Bool.false_and, decide_true, decide_false, Bool.not_true, Bool.not_false])
theorem ok__law_mod (T : TF K mg) : FnOk P w K mg base CX0 1 T.a__law_mod T.x__law_mod ["a", "n"] (liP K p__law_mod) := by
  refine fn_P T.f__law_mod sc__law_mod (by intro ds M Q E h; unfold p__law_mod at h; split at h <;> first | rfl | exact h.elim) (fun cdv A outer s H E z hz hr => (qs_end (qs_ret (qe_bin ob_sub (qb_var 0) (qb_of (qe_bin ob_mul (qb_of (qe_bin ob_div (qb_var 0) (qb_var 1))) (qb_var 1))))))) ?_
  intro ds M Q0 h
  unfold p__law_mod at h
  split at h
  · skip
    obtain ⟨hn, h⟩ := h
    rename_i a n
    walk_at "pl"
    have e : a - a / n * n = a % n := by have := Int.emod_def a n; rw [Int.mul_comm] at this; omega
    rw [e]
    exact ⟨by walk_at "cs", by walk_at "cs", h⟩
  · exact h.elim

local macro_rules | `(tactic| walk_at "go") => `(tactic| repeat' (first | assumption | with_reducible apply And.intro | walk_at "cs"))
local macro_rules | `(tactic| walk_at "ex") => `(tactic| simp only [List.cons.injEq, Sl.va.injEq, Sl.ow.injEq, Ow.lst.injEq, D.int.injEq, D.bl.injEq, D.str.injEq, D.lst.injEq, D.tup.injEq, true_and, and_true])
local macro_rules | `(tactic| walk_at "gn") => `(tactic| simp only [↓gN, ↓gsNil, ↓gsCons, ↓gT, ↓gSq, List.length_cons, List.length_nil, Nat.reduceAdd, true_and, List.set_cons_zero, List.set_cons_succ])
local macro_rules | `(tactic| walk_at "sp") => `(tactic| repeat' (first | split | with_reducible apply And.intro))
local macro_rules | `(tactic| walk_at "cs") => `(tactic| first | (unfold CMulP; omega) | (unfold CPowP; omega) | (unfold CModP; omega) | (unfold CDivP; omega))
local macro_rules | `(tactic| walk_at "pl") => `(tactic| simp only [↓sSeq, ↓sRet, ↓sRetN, ↓sIf, ↓sDrop, ↓sNext, ↓eVar, ↓bVar, ↓bE, ↓eBin, ↓tE, chS_bl, chS_true, chS_false, wipeE_nil, wipeE_cons, ↓qAnd, ↓aNil, ↓aCons, ↓iSeq, ↓iR1, Option.isSome_some, lk_int, lk_str, ↓gN, ↓dIx, ↓dIn, ↓dInX, natc0, natc1, natc2, List.findIdx?_cons, List.findIdx?_nil, intsOf_ints, boolsOf_bls, plAnyI, plAnyR, ↓Sl.val, ↓Ow.toD, ↓stE, ↓tYes', ↓PL.isNon, ↓eC, ↓bC, List.getElem?_cons_zero, List.getElem?_cons_succ, List.set_cons_zero, List.set_cons_succ, List.map_cons, List.map_nil, List.length_cons, List.length_nil, List.nil_append, List.cons_append, List.replicate_succ, List.replicate_zero, List.append_nil, atI0, atI1, atI2, atI3, atI4, cmpOk_int, cmpOk_bl, cmpOk_non, deq_int, deq_bl, true_and, and_true, Nat.reduceAdd, Nat.reduceSub, Nat.reduceLeDiff, Nat.reduceLT, Bool.not_eq_true', Bool.false_eq_true, if_false, if_true, decide_eq_true_eq, decide_eq_false_iff_not, Nat.zero_add, Nat.sub_zero, Nat.add_zero, Nat.sub_self, ixN31, ixN32, List.length_map, List.length_set, Int.reduceToNat, Int.reducePow, Int.reduceNeg, Int.reduceAdd, Int.reduceSub, Int.reduceMul, Int.reduceLT, Int.reduceLE, Int.reduceEq, Nat.reduceEqDiff, reduceCtorEq, List.mem_singleton, eq_self, not_true_eq_false, not_false_eq_true, or_true, true_or, cmpOk_lstA, cmpOk_tupA, ckA_lst, ckA_tup, ckAl_nil, ckAl_cons, ckAl_ints, ckAl_rangeL, ck_int, ck_bl, ck_non, ck_strI, cmpOk_str, deq_str, deq_tup, deq_lst, deqA_nil, deqA_cons, deqA_ints, Bool.and_true, Bool.true_and, Bool.and_false, Bool.false_and, decide_true, decide_false, Bool.not_true, Bool.not_false])
theorem ok__law_lost (T : TF K mg) : FnOk P w K mg base CX0 1 T.a__law_lost T.x__law_lost ["flags", "k", "places", "end"] (liP K p__law_lost) := by
  refine fn_P T.f__law_lost sc__law_lost (by intro ds M Q E h; unfold p__law_lost at h; split at h <;> first | rfl | exact h.elim) (fun cdv A outer s H E z hz hr => (qs_cons (qs_for PassesOwn.never rfl (qi_range1 (by rfl) T.m_range (qa_cons (qe_var 3) qa_nil)) (qg_name (i := 4) sc__law_lost.nd rfl (by first | exact Or.inl rfl | exact Or.inr rfl))
    (qs_end (qs_if (PW.pt (qw_and (qt_val (qe_ix (qb_of (qe_ix (qb_var 0) (qb_var 1))) (qb_var 4))) (qw_and1 (qt_cmp (ob_notInX (hu65 hr)) qb_bl (qb_of (qe_lc rfl sc__law_lost.nd (own := [("place", 5)]) (qi_seq (h := (qe_var 2))) (blkOk_by (own := [("place", 5)]) (N := N__law_lost) (sc := defScope s__law_lost) (by decide +kernel)) (fun _ _ _ _ _ z hz => (qg_name (i := 5) sc__law_lost.nd rfl (by first | exact Or.inl rfl | exact Or.inr rfl))) (fun _ _ _ _ _ => an_t0) (fun _ _ _ _ _ z hz => (qe_ix (qb_of (qe_ix (qb_var 0) (qb_var 5))) (qb_var 4))))) (by with_unfolding_all rfl)))))
    (qs_end (qs_ret qe_bl))
    qs_nil)))
    (qs_end (qs_ret qe_bl)))) ?_
  intro ds M Q0 h
  unfold p__law_lost at h
  split at h
  · skip
    obtain ⟨rs, i, K, rfl, rfl, rfl, ⟨hi, hK, hKl, he0, he1⟩, h⟩ := h
    refine sSeq_i fun N1 h1 => ?_
    walk_at "pl"
    rename_i e
    refine sFor_k fun N hN => ?_
    walk_at "pl"
    refine ⟨by omega, hN _ _ _ ?_⟩
    clear hN
    refine loop_i (fun j ρ M1 => M1 = M ∧ ∃ a : Sl, (∀ d : Int, 0 ≤ d → d < j → ¬ (rulB (rs.getD i default) d = true ∧ ∀ p ∈ K, rulB (rs.getD p default) d = false)) ∧ ρ = [.va (.lst (rs.map (flagD e))), .va (.int (i : Int)), .va (.lst (K.map fun p : Nat => D.int p)), .va (.int e), a, .un]) ⟨rfl, _, fun d d0 d1 => by omega, rfl⟩ ?_ ?_
    · rintro J hJ j dd ρ M1 hd ⟨rfl, a, g1, rfl⟩
      obtain ⟨rfl, hj⟩ := rangeL_get hd
      walk_at "gn"
      refine sIf_k fun N3 h3 => ?_
      have hat : ∀ p : Nat, p < rs.length → atI (rs.map (flagD e)) (p : Int) = some (.lst ((rgI 0 e).map fun d => .bl (rulB (rs.getD p default) d))) := fun p hp => by
        refine at_map (by omega) ?_
        rw [Int.toNat_natCast, List.getD_eq_getElem?_getD, List.getElem?_eq_getElem hp]
        rfl
      have hat2 : ∀ g : Int → D, atI ((rgI 0 e).map g) (0 + (j : Int)) = some (g (0 + j)) := fun g => at_map (by omega) (by
        unfold rgI
        rw [List.getElem?_map, List.getElem?_range (by omega)]
        exact congrArg some (show (0 : Int) + (((0 + (j : Int)).toNat : Nat) : Int) = 0 + j by omega))
      have hnext : ∀ a : Sl, ¬ (rulB (rs.getD i default) (0 + j) = true ∧ ∀ p ∈ K, rulB (rs.getD p default) (0 + j) = false) → J (j + 1) [.va (.lst (rs.map (flagD e))), .va (.int (i : Int)), .va (.lst (K.map fun p : Nat => D.int p)), .va (.int e), .va (.int (0 + j)), .un] M1 := fun a hn => by
        refine hJ _ _ _ ⟨rfl, _, fun d d0 d1 => ?_, rfl⟩
        rcases Int.lt_or_le d j with w | w
        · exact g1 d d0 w
        · rw [show d = 0 + (j : Int) by omega]; exact hn
      simp only [↓sSeq, ↓sRet, ↓sRetN, ↓sIf, ↓sDrop, ↓sNext, ↓eVar, ↓bVar, ↓bE, ↓eBin, ↓tE, chS_bl, chS_true, chS_false, wipeE_nil, wipeE_cons, ↓qAnd, ↓aNil, ↓aCons, ↓iSeq, ↓iR1, Option.isSome_some, lk_int, lk_str, ↓gN, ↓dIx, ↓dIn, ↓dInX, natc0, natc1, natc2, List.findIdx?_cons, List.findIdx?_nil, intsOf_ints, boolsOf_bls, plAnyI, plAnyR, ↓Sl.val, ↓Ow.toD, ↓stE, ↓tYes', ↓PL.isNon, ↓eC, ↓bC, List.getElem?_cons_zero, List.getElem?_cons_succ, List.set_cons_zero, List.set_cons_succ, List.map_cons, List.map_nil, List.length_cons, List.length_nil, List.nil_append, List.cons_append, List.replicate_succ, List.replicate_zero, List.append_nil, atI0, atI1, atI2, atI3, atI4, cmpOk_int, cmpOk_bl, cmpOk_non, deq_int, deq_bl, true_and, and_true, Nat.reduceAdd, Nat.reduceSub, Nat.reduceLeDiff, Nat.reduceLT, Bool.not_eq_true', Bool.false_eq_true, if_false, if_true, decide_eq_true_eq, decide_eq_false_iff_not, Nat.zero_add, Nat.sub_zero, Nat.add_zero, Nat.sub_self, ixN31, ixN32, List.length_map, List.length_set, Int.reduceToNat, Int.reducePow, Int.reduceNeg, Int.reduceAdd, Int.reduceSub, Int.reduceMul, Int.reduceLT, Int.reduceLE, Int.reduceEq, Nat.reduceEqDiff, reduceCtorEq, List.mem_singleton, eq_self, not_true_eq_false, not_false_eq_true, or_true, true_or, cmpOk_lstA, cmpOk_tupA, ckA_lst, ckA_tup, ckAl_nil, ckAl_cons, ckAl_ints, ckAl_rangeL, ck_int, ck_bl, ck_non, ck_strI, cmpOk_str, deq_str, deq_tup, deq_lst, deqA_nil, deqA_cons, deqA_ints, Bool.and_true, Bool.true_and, Bool.and_false, Bool.false_and, decide_true, decide_false, Bool.not_true, Bool.not_false, hat i hi, hat2]
      split
      · rename_i hday
        refine eLc_fm (mapD fun d => match d with | .int p => .bl (rulB (rs.getD p.toNat default) (0 + j)) | d => d) (K.map fun p : Nat => D.int p) (fun Q h => h) rfl (by rw [List.length_map]; omega) ?_ ?_
        · intro q dd acc J2 hd2 hl2 hJ2
          obtain ⟨p, hp, rfl⟩ := map_get hd2
          have hpk := hK p (List.mem_of_getElem? hp)
          simp only [↓sSeq, ↓sRet, ↓sRetN, ↓sIf, ↓sDrop, ↓sNext, ↓eVar, ↓bVar, ↓bE, ↓eBin, ↓tE, chS_bl, chS_true, chS_false, wipeE_nil, wipeE_cons, ↓qAnd, ↓aNil, ↓aCons, ↓iSeq, ↓iR1, Option.isSome_some, lk_int, lk_str, ↓gN, ↓dIx, ↓dIn, ↓dInX, natc0, natc1, natc2, List.findIdx?_cons, List.findIdx?_nil, intsOf_ints, boolsOf_bls, plAnyI, plAnyR, ↓Sl.val, ↓Ow.toD, ↓stE, ↓tYes', ↓PL.isNon, ↓eC, ↓bC, List.getElem?_cons_zero, List.getElem?_cons_succ, List.set_cons_zero, List.set_cons_succ, List.map_cons, List.map_nil, List.length_cons, List.length_nil, List.nil_append, List.cons_append, List.replicate_succ, List.replicate_zero, List.append_nil, atI0, atI1, atI2, atI3, atI4, cmpOk_int, cmpOk_bl, cmpOk_non, deq_int, deq_bl, true_and, and_true, Nat.reduceAdd, Nat.reduceSub, Nat.reduceLeDiff, Nat.reduceLT, Bool.not_eq_true', Bool.false_eq_true, if_false, if_true, decide_eq_true_eq, decide_eq_false_iff_not, Nat.zero_add, Nat.sub_zero, Nat.add_zero, Nat.sub_self, ixN31, ixN32, List.length_map, List.length_set, Int.reduceToNat, Int.reducePow, Int.reduceNeg, Int.reduceAdd, Int.reduceSub, Int.reduceMul, Int.reduceLT, Int.reduceLE, Int.reduceEq, Nat.reduceEqDiff, reduceCtorEq, List.mem_singleton, eq_self, not_true_eq_false, not_false_eq_true, or_true, true_or, cmpOk_lstA, cmpOk_tupA, ckA_lst, ckA_tup, ckAl_nil, ckAl_cons, ckAl_ints, ckAl_rangeL, ck_int, ck_bl, ck_non, ck_strI, cmpOk_str, deq_str, deq_tup, deq_lst, deqA_nil, deqA_cons, deqA_ints, Bool.and_true, Bool.true_and, Bool.and_false, Bool.false_and, decide_true, decide_false, Bool.not_true, Bool.not_false, hat p hpk, hat2]
          exact ⟨hl2, hJ2⟩
        rw [mapD_map]
        walk_at "pl"
        have e2 : K.map (fun x : Nat => D.bl (rulB (rs.getD ((x : Int)).toNat default) (0 + j))) = (K.map fun x : Nat => rulB (rs.getD x default) (0 + j)).map D.bl := by rw [List.map_map]; rfl
        rw [e2]
        refine ⟨ckAl_bls, h3 _ _ _ ?_⟩
        clear h3
        rw [plAnyBl]
        by_cases c : true ∈ K.map fun x : Nat => rulB (rs.getD x default) (0 + j)
        · rw [decide_eq_true c, if_neg (by decide)]
          walk_at "pl"
          obtain ⟨p, p1, p2⟩ := List.mem_map.mp c
          exact hnext .un fun w => by have := w.2 p p1; rw [p2] at this; cases this
        · rw [decide_eq_false c, if_pos (by decide)]
          walk_at "pl"
          refine h true ⟨fun _ => ⟨0 + j, ⟨by omega, by omega⟩, hday, fun p hp => ?_⟩, fun _ => rfl⟩
          cases hv : rulB (rs.getD p default) (0 + j) with
          | false => rfl
          | true => exact absurd (List.mem_map.mpr ⟨p, hp, hv⟩) c
      · rename_i hday
        refine h3 _ _ _ ?_
        clear h3
        rw [if_neg (by decide)]
        walk_at "pl"
        exact hnext .un fun w => hday w.1
    · rintro ρ M1 ⟨rfl, a, g1, rfl⟩
      rw [rangeL_len] at g1
      refine h1 _ _ ?_
      clear h1
      walk_at "pl"
      refine h false ⟨fun w => (by cases w), ?_⟩
      rintro ⟨d, ⟨d0, d1⟩, d2⟩
      exact absurd d2 (g1 d d0 (by omega))
  · exact h.elim

local macro_rules | `(tactic| walk_at "go") => `(tactic| repeat' (first | assumption | with_reducible apply And.intro | walk_at "cs"))
local macro_rules | `(tactic| walk_at "ex") => `(tactic| simp only [List.cons.injEq, Sl.va.injEq, Sl.ow.injEq, Ow.lst.injEq, D.int.injEq, D.bl.injEq, D.str.injEq, D.lst.injEq, D.tup.injEq, true_and, and_true])
local macro_rules | `(tactic| walk_at "gn") => `(tactic| simp only [↓gN, ↓gsNil, ↓gsCons, ↓gT, ↓gSq, List.length_cons, List.length_nil, Nat.reduceAdd, true_and, List.set_cons_zero, List.set_cons_succ])
local macro_rules | `(tactic| walk_at "sp") => `(tactic| repeat' (first | split | with_reducible apply And.intro))
local macro_rules | `(tactic| walk_at "cs") => `(tactic| first | (unfold CMulP; omega) | (unfold CPowP; omega) | (unfold CModP; omega) | (unfold CDivP; omega))
local macro_rules | `(tactic| walk_at "pl") => `(tactic| simp only [↓sSeq, ↓sAsg, ↓sRet, ↓sRetN, ↓sIf, ↓sDrop, ↓sNext, ↓eVar, ↓bVar, ↓bE, ↓eBin, ↓tE, chS_bl, chS_true, chS_false, wipeE_nil, wipeE_cons, ↓aNil, ↓aCons, ↓aConsB, Option.isSome_some, lk_int, lk_str, ↓eCall, ↓dI2, ↓dAdd, ↓dNe, ↓eB, natc0, natc1, natc2, List.findIdx?_cons, List.findIdx?_nil, intsOf_ints, boolsOf_bls, plAnyI, plAnyR, ↓cGcd, ↓Sl.val, ↓Ow.toD, ↓stE, ↓PL.isNon, ↓eC, ↓bC, ↓dSub, ↓dMul, ↓dDiv, ↓dMod, List.getElem?_cons_zero, List.getElem?_cons_succ, List.set_cons_zero, List.set_cons_succ, List.map_cons, List.map_nil, List.length_cons, List.length_nil, List.nil_append, List.cons_append, List.replicate_succ, List.replicate_zero, List.append_nil, atI0, atI1, atI2, atI3, atI4, cmpOk_int, cmpOk_bl, cmpOk_non, deq_int, deq_bl, true_and, and_true, Nat.reduceAdd, Nat.reduceSub, Nat.reduceLeDiff, Nat.reduceLT, Bool.not_eq_true', Bool.false_eq_true, if_false, if_true, decide_eq_true_eq, decide_eq_false_iff_not, Nat.zero_add, Nat.sub_zero, Nat.add_zero, Nat.sub_self, ixN31, ixN32, List.length_map, List.length_set, Int.reduceToNat, Int.reducePow, Int.reduceNeg, Int.reduceAdd, Int.reduceSub, Int.reduceMul, Int.reduceLT, Int.reduceLE, Int.reduceEq, Nat.reduceEqDiff, reduceCtorEq, List.mem_singleton, eq_self, not_true_eq_false, not_false_eq_true, or_true, true_or, cmpOk_lstA, cmpOk_tupA, ckA_lst, ckA_tup, ckAl_nil, ckAl_cons, ckAl_ints, ckAl_rangeL, ck_int, ck_bl, ck_non, ck_strI, cmpOk_str, deq_str, deq_tup, deq_lst, deqA_nil, deqA_cons, deqA_ints, Bool.and_true, Bool.true_and, Bool.and_false, Bool.false_and, decide_true, decide_false, Bool.not_true, Bool.not_false, ↓p_inverse])
theorem ok_both (T : TF K mg) : FnOk P w K mg base CX0 2 T.a_both T.x_both ["a", "m", "b", "n"] (liP K p_both) := by
  refine fn_P T.f_both sc_both (by intro ds M Q E h; unfold p_both at h; split at h <;> first | rfl | exact h.elim) (fun cdv A outer s H E z hz hr => (qs_cons (qs_set (i := 4) sc_both.nd rfl (by first | exact Or.inl rfl | exact Or.inr rfl) (qe_callF cb_gcd (by rfl) T.g_gcd (qab_cons (qb_var 1) (qab_cons (qb_var 3) qab_nil))))
    (qs_cons (qs_if (qt_cmp (ob_ne (hu64 hr)) (qb_of (qe_bin ob_mod (qb_of (qe_bin ob_sub (qb_var 2) (qb_var 0))) (qb_var 4))) qb_int (nomark _))
    (qs_end (qs_ret qe_non))
    qs_nil)
    (qs_cons (qs_set (i := 5) sc_both.nd rfl (by first | exact Or.inl rfl | exact Or.inr rfl) (qe_bin ob_div (qb_var 3) (qb_var 4)))
    (qs_cons (qs_set (i := 6) sc_both.nd rfl (by first | exact Or.inl rfl | exact Or.inr rfl) (qe_bin ob_mod (qb_of (qe_bin ob_mul (qb_of (qe_bin ob_div (qb_of (qe_bin ob_sub (qb_var 2) (qb_var 0))) (qb_var 4))) (qb_of (qe_call (ok_inverse T) hr (by rfl) T.g_inverse T.f_inverse.kp T.b_inverse pass0 (qa_cons (qe_bin ob_div (qb_var 1) (qb_var 4)) (qa_cons (qe_var 5) qa_nil)))))) (qb_var 5)))
    (qs_end (qs_ret (qe_bin ob_mod (qb_of (qe_bin ob_add (qb_var 0) (qb_of (qe_bin ob_mul (qb_var 1) (qb_var 6))))) (qb_of (qe_bin ob_mul (qb_var 1) (qb_var 5))))))))))) ?_
  intro ds M Q0 h
  unfold p_both at h
  split at h
  · skip
    obtain ⟨⟨hm, hm2, hn, hn2⟩, h⟩ := h
    rename_i a m b n
    have hg := gcdI_pos (n := n) hm
    have hgl := gcdI_le (n := n) hm
    refine sSeq_i fun N1 h1 => ?_
    walk_at "pl"
    rw [show (((Nat.gcd m.natAbs n.natAbs : Nat) : Int)) = gcdI m n from rfl]
    refine h1 _ _ ?_
    clear h1
    refine sSeq_i fun N1 h1 => ?_
    walk_at "pl"
    refine ⟨by walk_at "cs", ?_⟩
    by_cases c : (b - a) % gcdI m n = 0
    · rw [if_neg (by simpa using c)]
      refine h1 _ _ ?_
      clear h1
      have hc : gcdI m n ∣ b - a := Int.dvd_of_emod_eq_zero c
      have hq : 0 < n / gcdI m n ∧ n / gcdI m n ≤ n := ⟨Int.ediv_pos_of_pos_of_dvd hn (by omega) gcdI_r, Int.ediv_le_self _ (by omega)⟩
      refine sSeq_i fun N1 h1 => ?_
      walk_at "pl"
      refine ⟨by walk_at "cs", h1 _ _ ?_⟩
      clear h1
      refine sSeq_i fun N1 h1 => ?_
      walk_at "pl"
      refine ⟨by walk_at "cs", by walk_at "cs", ⟨by omega, by omega⟩, fun y hy => ?_⟩
      have hy1 := hy.1
      have hy2 := hy.2.1
      refine ⟨by walk_at "cs", by walk_at "cs", h1 _ _ ?_⟩
      clear h1
      have hb := both_of hm hn hc hy
      have e0 := Int.emod_nonneg ((b - a) / gcdI m n * y) (show n / gcdI m n ≠ 0 by omega)
      have e1 := Int.emod_lt_of_pos ((b - a) / gcdI m n * y) hq.1
      have hL := Int.mul_pos hm hq.1
      walk_at "pl"
      exact ⟨by walk_at "cs", by walk_at "cs", by unfold CModP; exact hL, h _ hb⟩
    · rw [if_pos (by simpa using c)]
      exact h none fun w => c (Int.emod_eq_zero_of_dvd w)
  · exact h.elim

local macro_rules | `(tactic| walk_at "go") => `(tactic| repeat' (first | assumption | with_reducible apply And.intro | walk_at "cs"))
local macro_rules | `(tactic| walk_at "ex") => `(tactic| simp only [List.cons.injEq, Sl.va.injEq, Sl.ow.injEq, Ow.lst.injEq, D.int.injEq, D.bl.injEq, D.str.injEq, D.lst.injEq, D.tup.injEq, true_and, and_true])
local macro_rules | `(tactic| walk_at "gn") => `(tactic| simp only [↓gN, ↓gsNil, ↓gsCons, ↓gT, ↓gSq, List.length_cons, List.length_nil, Nat.reduceAdd, true_and, List.set_cons_zero, List.set_cons_succ])
local macro_rules | `(tactic| walk_at "sp") => `(tactic| repeat' (first | split | with_reducible apply And.intro))
local macro_rules | `(tactic| walk_at "cs") => `(tactic| first | (unfold CMulP; omega) | (unfold CPowP; omega) | (unfold CModP; omega) | (unfold CDivP; omega))
local macro_rules | `(tactic| walk_at "pl") => `(tactic| simp only [↓sSeq, ↓sAsg, ↓sRet, ↓sRetN, ↓sDrop, ↓sAug, ↓sNext, ↓eVar, ↓bVar, ↓bE, ↓eBin, ↓tE, chS_bl, chS_true, chS_false, wipeE_nil, wipeE_cons, ↓qAnd, ↓aNil, ↓aCons, ↓aConsB, ↓eTup, ↓iSeq, Option.isSome_some, lk_int, lk_str, ↓gN, ↓eCall, ↓dI2, ↓dEq, ↓eB, ↓cTuple, natc0, natc1, natc2, List.findIdx?_cons, List.findIdx?_nil, intsOf_ints, boolsOf_bls, plAnyI, plAnyR, ↓Sl.val, ↓Ow.toD, ↓stE, ↓PL.isNon, ↓bC, ↓dDiv, ↓dMod, ↓dLt, ↓dDivS, List.getElem?_cons_zero, List.getElem?_cons_succ, List.set_cons_zero, List.set_cons_succ, List.map_cons, List.map_nil, List.length_cons, List.length_nil, List.nil_append, List.cons_append, List.replicate_succ, List.replicate_zero, List.append_nil, atI0, atI1, atI2, atI3, atI4, cmpOk_int, cmpOk_bl, cmpOk_non, deq_int, deq_bl, true_and, and_true, Nat.reduceAdd, Nat.reduceSub, Nat.reduceLeDiff, Nat.reduceLT, Bool.not_eq_true', Bool.false_eq_true, if_false, if_true, decide_eq_true_eq, decide_eq_false_iff_not, Nat.zero_add, Nat.sub_zero, Nat.add_zero, Nat.sub_self, ixN31, ixN32, List.length_map, List.length_set, Int.reduceToNat, Int.reducePow, Int.reduceNeg, Int.reduceAdd, Int.reduceSub, Int.reduceMul, Int.reduceLT, Int.reduceLE, Int.reduceEq, Nat.reduceEqDiff, reduceCtorEq, List.mem_singleton, eq_self, not_true_eq_false, not_false_eq_true, or_true, true_or, cmpOk_lstA, cmpOk_tupA, ckA_lst, ckA_tup, ckAl_nil, ckAl_cons, ckAl_ints, ckAl_rangeL, ck_int, ck_bl, ck_non, ck_strI, cmpOk_str, deq_str, deq_tup, deq_lst, deqA_nil, deqA_cons, deqA_ints, Bool.and_true, Bool.true_and, Bool.and_false, Bool.false_and, decide_true, decide_false, Bool.not_true, Bool.not_false, ↓p_primes_of, ↓p_repeats])
theorem ok_shrunk (T : TF K mg) : FnOk P w K mg base CX0 2 T.a_shrunk T.x_shrunk ["period", "residues"] (liP K p_shrunk) := by
  refine fn_P T.f_shrunk sc_shrunk (by intro ds M Q E h; unfold p_shrunk at h; split at h <;> first | rfl | exact h.elim) (fun cdv A outer s H E z hz hr => (qs_cons (qs_for PassesOwn.never rfl (qi_seq (h := (qe_call (ok_primes_of T) hr (by rfl) T.g_primes_of T.f_primes_of.kp T.b_primes_of pass0 (qa_cons (qe_var 0) qa_nil)))) (qg_name (i := 2) sc_shrunk.nd rfl (by first | exact Or.inl rfl | exact Or.inr rfl))
    (qs_end (qs_while PassesOwn.never (PW.pt (qw_and (qt_cmp (ob_eq (hu64 hr)) (qb_of (qe_bin ob_mod (qb_var 0) (qb_var 2))) qb_int (nomark _)) (qw_and1 (qt_val (qe_call (ok_repeats T) hr (by rfl) T.g_repeats T.f_repeats.kp T.b_repeats pass0 (qa_cons (qe_var 0) (qa_cons (qe_var 1) (qa_cons (qe_bin ob_div (qb_var 0) (qb_var 2)) qa_nil))))))))
    (qs_cons (qs_aug (i := 0) sc_shrunk.nd rfl (by first | exact Or.inl rfl | exact Or.inr rfl) (qb_var 2) ib_div)
    (qs_end (qs_set (i := 1) sc_shrunk.nd rfl (by first | exact Or.inl rfl | exact Or.inr rfl) (qe_callTy cb_tuple (by rfl) T.m_tuple (by decide +kernel) (qab_cons (qb_of (qe_lc rfl sc_shrunk.nd (own := [("r", 3)]) (qi_seq (h := (qe_var 1))) (blkOk_by (own := [("r", 3)]) (N := N_shrunk) (sc := defScope s_shrunk) (by decide +kernel)) (fun _ _ _ _ _ z hz => (qg_name (i := 3) sc_shrunk.nd rfl (by first | exact Or.inl rfl | exact Or.inr rfl))) (fun _ _ _ _ _ => an_t1 fun z hz => (qt_cmp ob_lt (qb_var 3) (qb_var 0) (nomark _))) (fun _ _ _ _ _ z hz => (qe_var 3)))) qab_nil))))))))
    (qs_end (qs_ret (qe_tup (qa_cons (qe_var 0) (qa_cons (qe_var 1) qa_nil))))))) ?_
  intro ds M Q0 h
  unfold p_shrunk at h
  split at h
  · skip
    obtain ⟨ns0, rfl, ⟨hr, hb, hl⟩, h⟩ := h
    rename_i P0
    have hr : Res P0 ns0 := hr
    have hb : P0 < 1000000000 := hb
    have hl : ns0.length < 4000 := hl
    have hP0 := hr.1
    refine sSeq_i fun N1 h1 => ?_
    refine sFor_k fun N hN => ?_
    walk_at "pl"
    refine ⟨⟨by omega, by omega⟩, fun ps hps => hN _ _ _ ?_⟩
    refine loop_i (fun i ρ M1 => M1 = M ∧ ∃ (P : Int) (ns : List Int) (b : Sl), ρ = [.va (.int P), .va (.tup (ns.map D.int)), b, .un] ∧ Shr P0 ns0 (ps.take i) P ns) ⟨rfl, P0, ns0, .un, rfl, Shr.start hr⟩ ?_ ?_
    · rintro J hJ i dd ρ M1 hd ⟨e, P, ns, b, rfl, hs⟩
      subst e
      obtain ⟨p, rfl, hp⟩ := ints_get hd
      have hpp : IsPr p := ((hps.2 p).mp (List.mem_of_getElem? hp)).1
      have hp2 := hpp.1
      have hq : ∀ q ∈ ps.take i, 2 ≤ q := fun q hm => ((hps.2 q).mp (List.mem_of_mem_take hm)).1.1
      have hpl : p ≤ P0 := Int.le_of_dvd hP0 ((hps.2 p).mp (List.mem_of_getElem? hp)).2
      walk_at "gn"
      refine sWhile_i (fun m ρ M2 => M2 = M1 ∧ ∃ (P : Int) (ns : List Int), m = P.toNat ∧ ρ = [.va (.int P), .va (.tup (ns.map D.int)), .va (.int p), .un] ∧ Shr P0 ns0 (ps.take i) P ns) P.toNat ⟨rfl, P, ns, rfl, rfl, hs⟩ ?_
      clear hs
      rintro m J2 hJ2 ρ M2 ⟨e, P, ns, rfl, rfl, hs⟩
      subst e
      have hP := hs.res.1
      have hPl : P ≤ P0 := Int.le_of_dvd hP0 hs.dvd
      have hll := hs.len
      have nx : ¬ (p ∣ P ∧ Closed P ns (P / p)) → J (i + 1) [.va (.int P), .va (.tup (ns.map D.int)), .va (.int p), .un] M2 := fun w => by
        refine hJ _ _ _ ⟨rfl, P, ns, _, rfl, ?_⟩
        rw [List.take_add_one, hp]
        exact hs.next w
      walk_at "pl"
      refine ⟨by walk_at "cs", ?_⟩
      by_cases c1 : P % p = 0
      · rw [if_pos c1]
        have hd1 := Int.dvd_of_emod_eq_zero c1
        have hk1 : 0 < P / p := Int.ediv_pos_of_pos_of_dvd hP (by omega) hd1
        have hk2 : P / p ∣ P := Int.ediv_dvd_of_dvd hd1
        refine ⟨by walk_at "cs", ns, rfl, ⟨hs.res, by omega, hk2, by omega, by omega⟩, ?_⟩
        by_cases c2 : Closed P ns (P / p)
        · rw [if_pos (by simpa using c2)]
          obtain ⟨u1, u2, u3⟩ := hs.cut hp2 hd1 c2 hq
          refine ⟨⟨by omega, by omega⟩, ?_⟩
          refine eLc_fm (pickI fun r => r < P / p) (ns.map D.int) (fun Q h => by walk_at "pl"; exact h) rfl (by rw [List.length_map]; omega) ?_ ?_
          · intro i d acc J hd2 hl2 hJ
            obtain ⟨v, rfl, _⟩ := ints_get hd2
            walk_at "pl"
            exact pickI_J hl2 hJ
          rw [pickI_map]
          walk_at "pl"
          exact hJ2 (P / p).toNat _ _ (by omega) ⟨rfl, P / p, _, rfl, rfl, u3⟩
        · rw [if_neg (by simpa using c2)]
          exact nx fun w => c2 w.2
      · rw [if_neg c1]
        exact nx fun w => c1 (Int.emod_eq_zero_of_dvd w.1)
    · rintro ρ M1 ⟨e, P, ns, b, rfl, hs⟩
      subst e
      refine h1 _ _ ?_
      rw [List.length_map, List.take_length] at hs
      walk_at "pl"
      exact h P ns hs.res (Int.le_of_dvd hP0 hs.dvd) hs.same hs.len (hs.mini hps)
  · exact h.elim

local macro_rules | `(tactic| walk_at "go") => `(tactic| repeat' (first | assumption | with_reducible apply And.intro | walk_at "cs"))
local macro_rules | `(tactic| walk_at "ex") => `(tactic| simp only [List.cons.injEq, Sl.va.injEq, Sl.ow.injEq, Ow.lst.injEq, D.int.injEq, D.bl.injEq, D.str.injEq, D.lst.injEq, D.tup.injEq, true_and, and_true])
local macro_rules | `(tactic| walk_at "gn") => `(tactic| simp only [↓gN, ↓gsNil, ↓gsCons, ↓gT, ↓gSq, List.length_cons, List.length_nil, Nat.reduceAdd, true_and, List.set_cons_zero, List.set_cons_succ])
local macro_rules | `(tactic| walk_at "sp") => `(tactic| repeat' (first | split | with_reducible apply And.intro))
local macro_rules | `(tactic| walk_at "cs") => `(tactic| first | (unfold CMulP; omega) | (unfold CPowP; omega) | (unfold CModP; omega) | (unfold CDivP; omega))
local macro_rules | `(tactic| walk_at "pl") => `(tactic| simp only [↓sSeq, ↓sAsg, ↓sRet, ↓sRetN, ↓sDrop, ↓sNext, ↓eVar, ↓bVar, ↓bE, ↓eBin, chS_bl, chS_true, chS_false, wipeE_nil, wipeE_cons, ↓eAnd_eq, ↓aNil, ↓aCons, ↓aConsB, Option.isSome_some, lk_int, lk_str, ↓eCall, ↓dI2, ↓dEq, ↓dIx, ↓eB, ↓cLen, natc0, natc1, natc2, List.findIdx?_cons, List.findIdx?_nil, intsOf_ints, boolsOf_bls, plAnyI, plAnyR, ↓Sl.val, ↓Ow.toD, ↓stE, ↓PL.isNon, ↓dMod, ↓dLt, List.getElem?_cons_zero, List.getElem?_cons_succ, List.set_cons_zero, List.set_cons_succ, List.map_cons, List.map_nil, List.length_cons, List.length_nil, List.nil_append, List.cons_append, List.replicate_succ, List.replicate_zero, List.append_nil, atI0, atI1, atI2, atI3, atI4, cmpOk_int, cmpOk_bl, cmpOk_non, deq_int, deq_bl, true_and, and_true, Nat.reduceAdd, Nat.reduceSub, Nat.reduceLeDiff, Nat.reduceLT, Bool.not_eq_true', Bool.false_eq_true, if_false, if_true, decide_eq_true_eq, decide_eq_false_iff_not, Nat.zero_add, Nat.sub_zero, Nat.add_zero, Nat.sub_self, ixN31, ixN32, List.length_map, List.length_set, Int.reduceToNat, Int.reducePow, Int.reduceNeg, Int.reduceAdd, Int.reduceSub, Int.reduceMul, Int.reduceLT, Int.reduceLE, Int.reduceEq, Nat.reduceEqDiff, reduceCtorEq, List.mem_singleton, eq_self, not_true_eq_false, not_false_eq_true, or_true, true_or, cmpOk_lstA, cmpOk_tupA, ckA_lst, ckA_tup, ckAl_nil, ckAl_cons, ckAl_ints, ckAl_rangeL, ck_int, ck_bl, ck_non, ck_strI, cmpOk_str, deq_str, deq_tup, deq_lst, deqA_nil, deqA_cons, deqA_ints, Bool.and_true, Bool.true_and, Bool.and_false, Bool.false_and, decide_true, decide_false, Bool.not_true, Bool.not_false, ↓p_place_in])
theorem ok_has (T : TF K mg) : FnOk P w K mg base CX0 2 T.a_has T.x_has ["period", "residues", "d"] (liP K p_has) := by
  refine fn_P T.f_has sc_has (by intro ds M Q E h; unfold p_has at h; split at h <;> first | rfl | exact h.elim) (fun cdv A outer s H E z hz hr => (qs_cons (qs_set (i := 3) sc_has.nd rfl (by first | exact Or.inl rfl | exact Or.inr rfl) (qe_bin ob_mod (qb_var 2) (qb_var 0)))
    (qs_cons (qs_set (i := 4) sc_has.nd rfl (by first | exact Or.inl rfl | exact Or.inr rfl) (qe_call (ok_place_in T) hr (by rfl) T.g_place_in T.f_place_in.kp T.b_place_in pass0 (qa_cons (qe_var 1) (qa_cons (qe_var 3) qa_nil))))
    (qs_end (qs_ret (qe_and (qe_cmp ob_lt (qb_var 4) (qb_of (qe_callB cb_len (by rfl) T.m_len (by decide +kernel) (qab_cons (qb_var 1) qab_nil))) (nomark _)) (qe_one (qe_cmp (ob_eq (hu64 hr)) (qb_of (qe_ix (qb_var 1) (qb_var 4))) (qb_var 3) (nomark _))))))))) ?_
  intro ds M Q0 h
  unfold p_has at h
  split at h
  · skip
    obtain ⟨ns, rfl, ha, hp, h⟩ := h
    rename_i p d
    walk_at "pl"
    refine ⟨hp, ns, rfl, ha, ?_⟩
    have hb := cntL_le (ns := ns) (r := d % p)
    by_cases c : cntL ns (d % p) < ns.length
    · rw [if_pos (by simpa using c)]
      obtain ⟨v, hv, hv2⟩ := at_ints (ns := ns) (i := cntL ns (d % p)) (by omega) c
      simp only [hv2]
      simp only [↓sSeq, ↓sAsg, ↓sRet, ↓sRetN, ↓sDrop, ↓sNext, ↓eVar, ↓bVar, ↓bE, ↓eBin, chS_bl, chS_true, chS_false, wipeE_nil, wipeE_cons, ↓eAnd_eq, ↓aNil, ↓aCons, ↓aConsB, Option.isSome_some, lk_int, lk_str, ↓eCall, ↓dI2, ↓dEq, ↓dIx, ↓eB, ↓cLen, natc0, natc1, natc2, List.findIdx?_cons, List.findIdx?_nil, intsOf_ints, boolsOf_bls, plAnyI, plAnyR, ↓Sl.val, ↓Ow.toD, ↓stE, ↓PL.isNon, ↓dMod, ↓dLt, List.getElem?_cons_zero, List.getElem?_cons_succ, List.set_cons_zero, List.set_cons_succ, List.map_cons, List.map_nil, List.length_cons, List.length_nil, List.nil_append, List.cons_append, List.replicate_succ, List.replicate_zero, List.append_nil, atI0, atI1, atI2, atI3, atI4, cmpOk_int, cmpOk_bl, cmpOk_non, deq_int, deq_bl, true_and, and_true, Nat.reduceAdd, Nat.reduceSub, Nat.reduceLeDiff, Nat.reduceLT, Bool.not_eq_true', Bool.false_eq_true, if_false, if_true, decide_eq_true_eq, decide_eq_false_iff_not, Nat.zero_add, Nat.sub_zero, Nat.add_zero, Nat.sub_self, ixN31, ixN32, List.length_map, List.length_set, Int.reduceToNat, Int.reducePow, Int.reduceNeg, Int.reduceAdd, Int.reduceSub, Int.reduceMul, Int.reduceLT, Int.reduceLE, Int.reduceEq, Nat.reduceEqDiff, reduceCtorEq, List.mem_singleton, eq_self, not_true_eq_false, not_false_eq_true, or_true, true_or, cmpOk_lstA, cmpOk_tupA, ckA_lst, ckA_tup, ckAl_nil, ckAl_cons, ckAl_ints, ckAl_rangeL, ck_int, ck_bl, ck_non, ck_strI, cmpOk_str, deq_str, deq_tup, deq_lst, deqA_nil, deqA_cons, deqA_ints, Bool.and_true, Bool.true_and, Bool.and_false, Bool.false_and, decide_true, decide_false, Bool.not_true, Bool.not_false, ↓p_place_in]
      have e : decide (d % p ∈ ns) = decide (v = d % p) := by
        apply decide_eq_decide.mpr
        rw [cntL_mem ha]
        constructor
        · rintro ⟨k, e1, e2⟩
          rw [← e1, Int.toNat_natCast, e2] at hv
          exact (Option.some.inj hv).symm
        · intro e
          exact ⟨(cntL ns (d % p)).toNat, by omega, by rw [hv, e]⟩
      rw [e] at h
      exact h
    · rw [if_neg (by simpa using c)]
      have e : decide (d % p ∈ ns) = false := by
        apply decide_eq_false
        rw [cntL_mem ha]
        rintro ⟨k, e1, e2⟩
        obtain ⟨h3, _⟩ := List.getElem?_eq_some_iff.mp e2
        omega
      rw [e] at h
      exact h
  · exact h.elim

local macro_rules | `(tactic| walk_at "go") => `(tactic| repeat' (first | assumption | with_reducible apply And.intro | walk_at "cs"))
local macro_rules | `(tactic| walk_at "ex") => `(tactic| simp only [List.cons.injEq, Sl.va.injEq, Sl.ow.injEq, Ow.lst.injEq, D.int.injEq, D.bl.injEq, D.str.injEq, D.lst.injEq, D.tup.injEq, true_and, and_true])
local macro_rules | `(tactic| walk_at "gn") => `(tactic| simp only [↓gN, ↓gsNil, ↓gsCons, ↓gT, ↓gSq, List.length_cons, List.length_nil, Nat.reduceAdd, true_and, List.set_cons_zero, List.set_cons_succ])
local macro_rules | `(tactic| walk_at "sp") => `(tactic| repeat' (first | split | with_reducible apply And.intro))
local macro_rules | `(tactic| walk_at "cs") => `(tactic| first | (unfold CMulP; omega) | (unfold CPowP; omega) | (unfold CModP; omega) | (unfold CDivP; omega))
local macro_rules | `(tactic| walk_at "pl") => `(tactic| simp only [↓sRet, ↓sRetN, ↓sDrop, ↓sNext, ↓eVar, ↓bVar, ↓bE, ↓eBin, chS_bl, chS_true, chS_false, wipeE_nil, wipeE_cons, ↓aNil, ↓aCons, ↓aConsB, Option.isSome_some, lk_int, lk_str, ↓eCall, ↓dI2, ↓dAdd, ↓eB, ↓cLen, natc0, natc1, natc2, List.findIdx?_cons, List.findIdx?_nil, intsOf_ints, boolsOf_bls, plAnyI, plAnyR, ↓Sl.val, ↓Ow.toD, ↓stE, ↓PL.isNon, ↓dMul, ↓dDiv, ↓dMod, List.getElem?_cons_zero, List.getElem?_cons_succ, List.set_cons_zero, List.set_cons_succ, List.map_cons, List.map_nil, List.length_cons, List.length_nil, List.nil_append, List.cons_append, List.replicate_succ, List.replicate_zero, List.append_nil, atI0, atI1, atI2, atI3, atI4, cmpOk_int, cmpOk_bl, cmpOk_non, deq_int, deq_bl, true_and, and_true, Nat.reduceAdd, Nat.reduceSub, Nat.reduceLeDiff, Nat.reduceLT, Bool.not_eq_true', Bool.false_eq_true, if_false, if_true, decide_eq_true_eq, decide_eq_false_iff_not, Nat.zero_add, Nat.sub_zero, Nat.add_zero, Nat.sub_self, ixN31, ixN32, List.length_map, List.length_set, Int.reduceToNat, Int.reducePow, Int.reduceNeg, Int.reduceAdd, Int.reduceSub, Int.reduceMul, Int.reduceLT, Int.reduceLE, Int.reduceEq, Nat.reduceEqDiff, reduceCtorEq, List.mem_singleton, eq_self, not_true_eq_false, not_false_eq_true, or_true, true_or, cmpOk_lstA, cmpOk_tupA, ckA_lst, ckA_tup, ckAl_nil, ckAl_cons, ckAl_ints, ckAl_rangeL, ck_int, ck_bl, ck_non, ck_strI, cmpOk_str, deq_str, deq_tup, deq_lst, deqA_nil, deqA_cons, deqA_ints, Bool.and_true, Bool.true_and, Bool.and_false, Bool.false_and, decide_true, decide_false, Bool.not_true, Bool.not_false, ↓p_place_in])
theorem ok_many_below (T : TF K mg) : FnOk P w K mg base CX0 2 T.a_many_below T.x_many_below ["period", "residues", "d"] (liP K p_many_below) := by
  refine fn_P T.f_many_below sc_many_below (by intro ds M Q E h; unfold p_many_below at h; split at h <;> first | rfl | exact h.elim) (fun cdv A outer s H E z hz hr => (qs_end (qs_ret (qe_bin ob_add (qb_of (qe_bin ob_mul (qb_of (qe_bin ob_div (qb_var 2) (qb_var 0))) (qb_of (qe_callB cb_len (by rfl) T.m_len (by decide +kernel) (qab_cons (qb_var 1) qab_nil))))) (qb_of (qe_call (ok_place_in T) hr (by rfl) T.g_place_in T.f_place_in.kp T.b_place_in pass0 (qa_cons (qe_var 1) (qa_cons (qe_bin ob_mod (qb_var 2) (qb_var 0)) qa_nil)))))))) ?_
  intro ds M Q0 h
  unfold p_many_below at h
  split at h
  · skip
    obtain ⟨ns, rfl, ha, hp, h⟩ := h
    walk_at "pl"
    exact ⟨by walk_at "cs", by walk_at "cs", by walk_at "cs", ns, rfl, ha, h⟩
  · exact h.elim

local macro_rules | `(tactic| walk_at "go") => `(tactic| repeat' (first | assumption | with_reducible apply And.intro | walk_at "cs"))
local macro_rules | `(tactic| walk_at "ex") => `(tactic| simp only [List.cons.injEq, Sl.va.injEq, Sl.ow.injEq, Ow.lst.injEq, D.int.injEq, D.bl.injEq, D.str.injEq, D.lst.injEq, D.tup.injEq, true_and, and_true])
local macro_rules | `(tactic| walk_at "gn") => `(tactic| simp only [↓gN, ↓gsNil, ↓gsCons, ↓gT, ↓gSq, List.length_cons, List.length_nil, Nat.reduceAdd, true_and, List.set_cons_zero, List.set_cons_succ])
local macro_rules | `(tactic| walk_at "sp") => `(tactic| repeat' (first | split | with_reducible apply And.intro))
local macro_rules | `(tactic| walk_at "cs") => `(tactic| first | (unfold CMulP; omega) | (unfold CPowP; omega) | (unfold CModP; omega) | (unfold CDivP; omega))
local macro_rules | `(tactic| walk_at "pl") => `(tactic| simp only [↓sSeq, ↓sAsg, ↓sRet, ↓sRetN, ↓sIf, ↓sDrop, ↓sNext, ↓eVar, ↓bVar, ↓bE, ↓eBin, ↓tE, chS_bl, chS_true, chS_false, wipeE_nil, wipeE_cons, ↓aNil, ↓aCons, ↓aConsB, Option.isSome_some, lk_int, lk_str, ↓eCall, ↓dI2, ↓dAdd, ↓dIx, ↓eB, ↓cLen, natc0, natc1, natc2, List.findIdx?_cons, List.findIdx?_nil, intsOf_ints, boolsOf_bls, plAnyI, plAnyR, ↓Sl.val, ↓Ow.toD, ↓stE, ↓PL.isNon, ↓bC, ↓dSub, ↓dMod, ↓dLt, List.getElem?_cons_zero, List.getElem?_cons_succ, List.set_cons_zero, List.set_cons_succ, List.map_cons, List.map_nil, List.length_cons, List.length_nil, List.nil_append, List.cons_append, List.replicate_succ, List.replicate_zero, List.append_nil, atI0, atI1, atI2, atI3, atI4, cmpOk_int, cmpOk_bl, cmpOk_non, deq_int, deq_bl, true_and, and_true, Nat.reduceAdd, Nat.reduceSub, Nat.reduceLeDiff, Nat.reduceLT, Bool.not_eq_true', Bool.false_eq_true, if_false, if_true, decide_eq_true_eq, decide_eq_false_iff_not, Nat.zero_add, Nat.sub_zero, Nat.add_zero, Nat.sub_self, ixN31, ixN32, List.length_map, List.length_set, Int.reduceToNat, Int.reducePow, Int.reduceNeg, Int.reduceAdd, Int.reduceSub, Int.reduceMul, Int.reduceLT, Int.reduceLE, Int.reduceEq, Nat.reduceEqDiff, reduceCtorEq, List.mem_singleton, eq_self, not_true_eq_false, not_false_eq_true, or_true, true_or, cmpOk_lstA, cmpOk_tupA, ckA_lst, ckA_tup, ckAl_nil, ckAl_cons, ckAl_ints, ckAl_rangeL, ck_int, ck_bl, ck_non, ck_strI, cmpOk_str, deq_str, deq_tup, deq_lst, deqA_nil, deqA_cons, deqA_ints, Bool.and_true, Bool.true_and, Bool.and_false, Bool.false_and, decide_true, decide_false, Bool.not_true, Bool.not_false, ↓p_place_in])
theorem ok_first_from (T : TF K mg) : FnOk P w K mg base CX0 2 T.a_first_from T.x_first_from ["period", "residues", "d"] (liP K p_first_from) := by
  refine fn_P T.f_first_from sc_first_from (by intro ds M Q E h; unfold p_first_from at h; split at h <;> first | rfl | exact h.elim) (fun cdv A outer s H E z hz hr => (qs_cons (qs_set (i := 3) sc_first_from.nd rfl (by first | exact Or.inl rfl | exact Or.inr rfl) (qe_bin ob_sub (qb_var 2) (qb_of (qe_bin ob_mod (qb_var 2) (qb_var 0)))))
    (qs_cons (qs_set (i := 4) sc_first_from.nd rfl (by first | exact Or.inl rfl | exact Or.inr rfl) (qe_call (ok_place_in T) hr (by rfl) T.g_place_in T.f_place_in.kp T.b_place_in pass0 (qa_cons (qe_var 1) (qa_cons (qe_bin ob_mod (qb_var 2) (qb_var 0)) qa_nil))))
    (qs_cons (qs_if (qt_cmp ob_lt (qb_var 4) (qb_of (qe_callB cb_len (by rfl) T.m_len (by decide +kernel) (qab_cons (qb_var 1) qab_nil))) (nomark _))
    (qs_end (qs_ret (qe_bin ob_add (qb_var 3) (qb_of (qe_ix (qb_var 1) (qb_var 4))))))
    qs_nil)
    (qs_end (qs_ret (qe_bin ob_add (qb_of (qe_bin ob_add (qb_var 3) (qb_var 0))) (qb_of (qe_ix (qb_var 1) qb_int))))))))) ?_
  intro ds M Q0 h
  unfold p_first_from at h
  split at h
  · skip
    obtain ⟨ns, rfl, ha, hp, h⟩ := h
    rename_i p d
    walk_at "pl"
    refine ⟨by walk_at "cs", by walk_at "cs", ns, rfl, ha, ?_⟩
    have hb := cntL_le (ns := ns) (r := d % p)
    unfold nextR at h
    by_cases c : cntL ns (d % p) < ns.length
    · rw [if_pos c] at h ⊢
      obtain ⟨v, hv, hv2⟩ := at_ints (ns := ns) (i := cntL ns (d % p)) (by omega) c
      simp only [hv2]
      rw [List.getD_eq_getElem?_getD, hv] at h
      exact h
    · rw [if_neg c] at h ⊢
      obtain ⟨v, hv, hv2⟩ := at_ints (ns := ns) (i := 0) (by omega) (by omega)
      simp only [hv2]
      rw [List.getD_eq_getElem?_getD, show ns[0]? = some v from hv] at h
      exact h
  · exact h.elim

local macro_rules | `(tactic| walk_at "go") => `(tactic| repeat' (first | assumption | with_reducible apply And.intro | walk_at "cs"))
local macro_rules | `(tactic| walk_at "ex") => `(tactic| simp only [List.cons.injEq, Sl.va.injEq, Sl.ow.injEq, Ow.lst.injEq, D.int.injEq, D.bl.injEq, D.str.injEq, D.lst.injEq, D.tup.injEq, true_and, and_true])
local macro_rules | `(tactic| walk_at "gn") => `(tactic| simp only [↓gN, ↓gsNil, ↓gsCons, ↓gT, ↓gSq, List.length_cons, List.length_nil, Nat.reduceAdd, true_and, List.set_cons_zero, List.set_cons_succ])
local macro_rules | `(tactic| walk_at "sp") => `(tactic| repeat' (first | split | with_reducible apply And.intro))
local macro_rules | `(tactic| walk_at "cs") => `(tactic| first | (unfold CMulP; omega) | (unfold CPowP; omega) | (unfold CModP; omega) | (unfold CDivP; omega))
local macro_rules | `(tactic| walk_at "pl") => `(tactic| simp only [↓sSeq, ↓sAsg, ↓sRet, ↓sRetN, ↓sIf, ↓sDrop, ↓sNext, ↓eVar, ↓bVar, ↓bE, ↓eBin, ↓tE, chS_bl, chS_true, chS_false, wipeE_nil, wipeE_cons, ↓sNever, ↓aNil, ↓aCons, ↓aConsB, Option.isSome_some, lk_int, lk_str, ↓eCall, ↓dEq, ↓eB, ↓cLen, natc0, natc1, natc2, List.findIdx?_cons, List.findIdx?_nil, intsOf_ints, boolsOf_bls, plAnyI, plAnyR, ↓Sl.val, ↓Ow.toD, ↓stE, ↓PL.isNon, ↓eC, ↓bC, List.getElem?_cons_zero, List.getElem?_cons_succ, List.set_cons_zero, List.set_cons_succ, List.map_cons, List.map_nil, List.length_cons, List.length_nil, List.nil_append, List.cons_append, List.replicate_succ, List.replicate_zero, List.append_nil, atI0, atI1, atI2, atI3, atI4, cmpOk_int, cmpOk_bl, cmpOk_non, deq_int, deq_bl, true_and, and_true, Nat.reduceAdd, Nat.reduceSub, Nat.reduceLeDiff, Nat.reduceLT, Bool.not_eq_true', Bool.false_eq_true, if_false, if_true, decide_eq_true_eq, decide_eq_false_iff_not, Nat.zero_add, Nat.sub_zero, Nat.add_zero, Nat.sub_self, ixN31, ixN32, List.length_map, List.length_set, Int.reduceToNat, Int.reducePow, Int.reduceNeg, Int.reduceAdd, Int.reduceSub, Int.reduceMul, Int.reduceLT, Int.reduceLE, Int.reduceEq, Nat.reduceEqDiff, reduceCtorEq, List.mem_singleton, eq_self, not_true_eq_false, not_false_eq_true, or_true, true_or, cmpOk_lstA, cmpOk_tupA, ckA_lst, ckA_tup, ckAl_nil, ckAl_cons, ckAl_ints, ckAl_rangeL, ck_int, ck_bl, ck_non, ck_strI, cmpOk_str, deq_str, deq_tup, deq_lst, deqA_nil, deqA_cons, deqA_ints, Bool.and_true, Bool.true_and, Bool.and_false, Bool.false_and, decide_true, decide_false, Bool.not_true, Bool.not_false, ↓p_ascending, ↓p_unit_of])
theorem ok_picks_fit (T : TF K mg) : FnOk P w K mg base CX0 2 T.a_picks_fit T.x_picks_fit ["kind", "picks"] (liP K p_picks_fit) := by
  refine fn_P T.f_picks_fit sc_picks_fit (by intro ds M Q E h; unfold p_picks_fit at h; split at h <;> first | rfl | exact h.elim) (fun cdv A outer s H E z hz hr => (qs_cons (qs_set (i := 2) sc_picks_fit.nd rfl (by first | exact Or.inl rfl | exact Or.inr rfl) (qe_call (ok_unit_of T) hr (by rfl) T.g_unit_of T.f_unit_of.kp T.b_unit_of pass0 (qa_cons (qe_var 0) qa_nil)))
    (qs_cons (qs_if (qt_cmp (ob_eq (hu64 hr)) (qb_var 2) qb_str (nomark _))
    (qs_end (qs_ret (qe_cmp (ob_eq (hu64 hr)) (qb_of (qe_callB cb_len (by rfl) T.m_len (by decide +kernel) (qab_cons (qb_var 1) qab_nil))) qb_int (nomark _))))
    qs_nil)
    (qs_cons (qs_if (qt_cmp (ob_eq (hu64 hr)) (qb_var 2) qb_str (nomark _))
    (qs_end (qs_ret (qe_call (ok_ascending T) hr (by rfl) T.g_ascending T.f_ascending.kp T.b_ascending pass0 (qa_cons (qe_var 1) (qa_cons qe_int (qa_cons qe_int qa_nil))))))
    qs_nil)
    (qs_cons (qs_if (qt_cmp (ob_eq (hu64 hr)) (qb_var 2) qb_str (nomark _))
    qss_never
    qs_nil)
    qss_never))))) ?_
  intro ds M Q0 h
  unfold p_picks_fit at h
  split at h
  · skip
    obtain ⟨r, rfl, rfl, hr, h⟩ := h
    have hp := hr.pk
    refine sSeq_i fun N1 h1 => ?_
    walk_at "pl"
    unfold kindS
    cases hw : r.wk with
    | false =>
      rw [hw, if_neg Bool.false_ne_true] at hp
      rw [if_neg Bool.false_ne_true, hp]
      refine ⟨.inl rfl, h1 _ _ ?_⟩
      walk_at "pl"
      refine ⟨by decide +kernel, ?_⟩
      rw [if_pos (show sDay = Str.ofString "day" from rfl)]
      exact h
    | true =>
      rw [hw, if_pos rfl] at hp
      rw [if_pos rfl]
      refine ⟨.inr rfl, h1 _ _ ?_⟩
      walk_at "pl"
      refine ⟨by decide +kernel, ?_⟩
      rw [if_neg (show ¬ sWeek = Str.ofString "day" from s_wd)]
      refine ⟨by decide +kernel, ?_⟩
      rw [if_pos (show sWeek = Str.ofString "week" from rfl)]
      obtain ⟨p1, p2, p3⟩ := hp
      refine ⟨r.pk, rfl, ⟨p1, p2, ?_, fun n hn => ?_⟩, h⟩
      · have := asc_len p1 p3 (by decide)
        omega
      · have := p3 n hn
        omega
  · exact h.elim

local macro_rules | `(tactic| walk_at "go") => `(tactic| repeat' (first | assumption | with_reducible apply And.intro | walk_at "cs"))
local macro_rules | `(tactic| walk_at "ex") => `(tactic| simp only [List.cons.injEq, Sl.va.injEq, Sl.ow.injEq, Ow.lst.injEq, D.int.injEq, D.bl.injEq, D.str.injEq, D.lst.injEq, D.tup.injEq, true_and, and_true])
local macro_rules | `(tactic| walk_at "gn") => `(tactic| simp only [↓gN, ↓gsNil, ↓gsCons, ↓gT, ↓gSq, List.length_cons, List.length_nil, Nat.reduceAdd, true_and, List.set_cons_zero, List.set_cons_succ])
local macro_rules | `(tactic| walk_at "sp") => `(tactic| repeat' (first | split | with_reducible apply And.intro))
local macro_rules | `(tactic| walk_at "cs") => `(tactic| first | (unfold CMulP; omega) | (unfold CPowP; omega) | (unfold CModP; omega) | (unfold CDivP; omega))
local macro_rules | `(tactic| walk_at "pl") => `(tactic| simp only [↓sSeq, ↓sAsg, ↓sRet, ↓sRetN, ↓sIf, ↓sDrop, ↓sNext, ↓sTgt, ↓eVar, ↓bVar, ↓bE, ↓eBin, ↓tE, chS_bl, chS_true, chS_false, wipeE_nil, wipeE_cons, ↓sNever, ↓aNil, ↓aCons, ↓aConsB, ↓eTup, ↓iSeq, Option.isSome_some, lk_int, lk_str, ↓gN, ↓gsNil, ↓gsCons, ↓eCall, ↓dI2, ↓dAdd, ↓dEq, ↓dIx, ↓eB, ↓cTuple, ↓cSorted, ↓gSq, natc0, natc1, natc2, List.findIdx?_cons, List.findIdx?_nil, intsOf_ints, boolsOf_bls, plAnyI, plAnyR, ↓Sl.val, ↓Ow.toD, ↓stE, ↓tYes', ↓PL.isNon, ↓bC, ↓dSub, ↓dMul, ↓dMod, List.getElem?_cons_zero, List.getElem?_cons_succ, List.set_cons_zero, List.set_cons_succ, List.map_cons, List.map_nil, List.length_cons, List.length_nil, List.nil_append, List.cons_append, List.replicate_succ, List.replicate_zero, List.append_nil, atI0, atI1, atI2, atI3, atI4, cmpOk_int, cmpOk_bl, cmpOk_non, deq_int, deq_bl, true_and, and_true, Nat.reduceAdd, Nat.reduceSub, Nat.reduceLeDiff, Nat.reduceLT, Bool.not_eq_true', Bool.false_eq_true, if_false, if_true, decide_eq_true_eq, decide_eq_false_iff_not, Nat.zero_add, Nat.sub_zero, Nat.add_zero, Nat.sub_self, ixN31, ixN32, List.length_map, List.length_set, Int.reduceToNat, Int.reducePow, Int.reduceNeg, Int.reduceAdd, Int.reduceSub, Int.reduceMul, Int.reduceLT, Int.reduceLE, Int.reduceEq, Nat.reduceEqDiff, reduceCtorEq, List.mem_singleton, eq_self, not_true_eq_false, not_false_eq_true, or_true, true_or, cmpOk_lstA, cmpOk_tupA, ckA_lst, ckA_tup, ckAl_nil, ckAl_cons, ckAl_ints, ckAl_rangeL, ck_int, ck_bl, ck_non, ck_strI, cmpOk_str, deq_str, deq_tup, deq_lst, deqA_nil, deqA_cons, deqA_ints, Bool.and_true, Bool.true_and, Bool.and_false, Bool.false_and, decide_true, decide_false, Bool.not_true, Bool.not_false, ↓p_unit_of])
theorem ok_turns_of (T : TF K mg) : FnOk P w K mg base CX0 2 T.a_turns_of T.x_turns_of ["rule"] (liP K p_turns_of) := by
  refine fn_P T.f_turns_of sc_turns_of (by intro ds M Q E h; unfold p_turns_of at h; split at h <;> first | rfl | exact h.elim) (fun cdv A outer s H E z hz hr => (qs_cons (qs_asg (qe_var 0) (qg_seq (n := 5) rfl (qgs_cons (qg_name (i := 1) sc_turns_of.nd rfl (by first | exact Or.inl rfl | exact Or.inr rfl)) (qgs_cons (qg_name (i := 2) sc_turns_of.nd rfl (by first | exact Or.inl rfl | exact Or.inr rfl)) (qgs_cons (qg_name (i := 3) sc_turns_of.nd rfl (by first | exact Or.inl rfl | exact Or.inr rfl)) (qgs_cons (qg_name (i := 4) sc_turns_of.nd rfl (by first | exact Or.inl rfl | exact Or.inr rfl)) (qgs_cons (qg_name (i := 5) sc_turns_of.nd rfl (by first | exact Or.inl rfl | exact Or.inr rfl)) qgs_nil)))))))
    (qs_cons (qs_set (i := 6) sc_turns_of.nd rfl (by first | exact Or.inl rfl | exact Or.inr rfl) (qe_call (ok_unit_of T) hr (by rfl) T.g_unit_of T.f_unit_of.kp T.b_unit_of pass0 (qa_cons (qe_var 1) qa_nil)))
    (qs_cons (qs_if (qt_cmp (ob_eq (hu64 hr)) (qb_var 6) qb_str (nomark _))
    (qs_end (qs_ret (qe_tup (qa_cons (qe_var 2) (qa_cons (qe_tup (qa_cons (qe_bin ob_mod (qb_var 4) (qb_var 2)) qa_nil)) qa_nil)))))
    qs_nil)
    (qs_cons (qs_if (qt_cmp (ob_eq (hu64 hr)) (qb_var 6) qb_str (nomark _))
    (qs_cons (qs_set (i := 7) sc_turns_of.nd rfl (by first | exact Or.inl rfl | exact Or.inr rfl) (qe_bin ob_sub (qb_var 4) (qb_of (qe_bin ob_mod (qb_var 4) qb_int))))
    (qs_end (qs_ret (qe_tup (qa_cons (qe_bin ob_mul qb_int (qb_var 2)) (qa_cons (qe_callTy cb_tuple (by rfl) T.m_tuple (by decide +kernel) (qab_cons (qb_of (qe_callB cb_sorted (by rfl) T.m_sorted (by decide +kernel) (qab_cons (qb_of (qe_lc rfl sc_turns_of.nd (own := [("weekday", 15)]) (qi_seq (h := (qe_var 3))) (blkOk_by (own := [("weekday", 15)]) (N := N_turns_of) (sc := defScope s_turns_of) (by decide +kernel)) (fun _ _ _ _ _ z hz => (qg_name (i := 15) sc_turns_of.nd rfl (by first | exact Or.inl rfl | exact Or.inr rfl))) (fun _ _ _ _ _ => an_t0) (fun _ _ _ _ _ z hz => (qe_bin ob_mod (qb_of (qe_bin ob_add (qb_var 7) (qb_var 15))) (qb_of (qe_bin ob_mul qb_int (qb_var 2))))))) qab_nil))) qab_nil)) qa_nil))))))
    qs_nil)
    (qs_cons (qs_if (qt_cmp (ob_eq (hu64 hr)) (qb_var 6) qb_str (nomark _))
    (qs_end (qs_set (i := 3) sc_turns_of.nd rfl (by first | exact Or.inl rfl | exact Or.inr rfl) (qe_ix (qb_var 3) qb_int)))
    qs_nil)
    qss_never)))))) ?_
  intro ds M Q0 h
  unfold p_turns_of at h
  split at h
  · skip
    obtain ⟨r, rfl, hr, h⟩ := h
    have hi := hr.iv
    have hs := hr.st
    have hp := hr.pk
    unfold rulD
    refine sSeq_i fun N1 h1 => ?_
    walk_at "pl"
    refine h1 _ _ ?_
    clear h1
    refine sSeq_i fun N1 h1 => ?_
    walk_at "pl"
    have hk : kindS r = sDay ∨ kindS r = sWeek := by unfold kindS; split <;> simp
    refine ⟨hk, h1 _ _ ?_⟩
    clear h1
    cases hw : r.wk with
    | false =>
      rw [hw, if_neg Bool.false_ne_true] at hp
      rw [show kindS r = sDay by unfold kindS; rw [hw]; rfl, hp]
      rw [show perR r = r.iv by unfold perR; rw [hw]; rfl] at h
      refine sSeq_i fun N1 h1 => ?_
      refine sIf_k fun N2 h2 => ?_
      walk_at "pl"
      refine ⟨by decide +kernel, h2 _ _ _ ?_⟩
      clear h2
      rw [decide_eq_true (show sDay = Str.ofString "day" from rfl), if_pos rfl]
      walk_at "pl"
      refine ⟨by walk_at "cs", ?_⟩
      have m0 := Int.emod_nonneg r.first (show r.iv ≠ 0 by omega)
      have m1 := Int.emod_lt_of_pos r.first (show 0 < r.iv by omega)
      refine h [r.first % r.iv] ⟨⟨by omega, by simp, by simpa using ⟨m0, m1⟩⟩, by show r.iv < _; omega, by simp⟩ (by simp) fun d => ?_
      unfold turnC
      rw [hw, if_neg Bool.false_ne_true, decide_eq_true_eq, List.mem_singleton]
      exact Int.emod_eq_emod_iff_emod_sub_eq_zero
    | true =>
      rw [hw, if_pos rfl] at hp
      rw [show kindS r = sWeek by unfold kindS; rw [hw]; rfl]
      rw [show perR r = 7 * r.iv by unfold perR; rw [hw]; rfl] at h
      refine sSeq_i fun N1 h1 => ?_
      refine sIf_k fun N2 h2 => ?_
      walk_at "pl"
      refine ⟨by decide +kernel, h2 _ _ _ ?_⟩
      clear h2
      rw [decide_eq_false (show ¬ sWeek = Str.ofString "day" from s_wd), if_neg Bool.false_ne_true]
      walk_at "pl"
      refine h1 _ _ ?_
      clear h1
      refine sSeq_i fun N1 h1 => ?_
      refine sIf_k fun N2 h2 => ?_
      walk_at "pl"
      refine ⟨by decide +kernel, h2 _ _ _ ?_⟩
      clear h2
      rw [decide_eq_true (show sWeek = Str.ofString "week" from rfl), if_pos rfl]
      refine sSeq_i fun N2 h2 => ?_
      walk_at "pl"
      refine ⟨by walk_at "cs", h2 _ _ ?_⟩
      clear h2
      walk_at "pl"
      refine ⟨by walk_at "cs", ?_⟩
      obtain ⟨p1, p2, p3⟩ := hp
      have hlen := asc_len p1 p3 (by decide)
      have hP : 0 < 7 * r.iv := by omega
      refine eLc_fm (mapI fun w => (r.first - r.first % 7 + w) % (7 * r.iv)) (r.pk.map D.int) (fun Q h => by walk_at "pl"; exact h) rfl (by rw [List.length_map]; omega) ?_ ?_
      · intro i d acc J hd hl hJ
        obtain ⟨v, rfl, hv⟩ := ints_get hd
        walk_at "pl"
        exact ⟨by walk_at "cs", by walk_at "cs", hl, hJ⟩
      · rw [mapI_map]
        walk_at "pl"
        intro ms m1 m2
        have hmem : ∀ x, x ∈ ms ↔ ∃ w ∈ r.pk, (r.first - r.first % 7 + w) % (7 * r.iv) = x := fun x => by rw [m1.mem_iff, List.mem_map]
        have e7 : r.first - r.first % 7 = 7 * (r.first / 7) := by omega
        have hnd : (r.pk.map fun w => (r.first - r.first % 7 + w) % (7 * r.iv)).Nodup := map_nodup (p1.imp fun {a b} h => by omega) fun x hx y hy e => by
          have hx2 := p3 x hx
          have hy2 := p3 y hy
          have h1 := emod_inj (x := r.first - r.first % 7 + x) (y := r.first - r.first % 7 + y) (s := r.first - r.first % 7) (L := 7 * r.iv) (by omega) (by omega) (by omega) (by omega) (Int.dvd_of_emod_eq_zero (by rw [Int.sub_emod, e, Int.sub_self, Int.zero_emod]))
          omega
        have hasc : Asc ms := by
          have hn := m1.nodup_iff.mpr hnd
          exact m2.imp₂ (fun a b h1 h2 => by omega) hn
        refine h ms ⟨⟨hP, hasc, fun x hx => ?_⟩, by show 7 * r.iv < _; omega, by rw [m1.length_eq, List.length_map]; omega⟩ (by rw [m1.length_eq, List.length_map]; exact p2) fun d => ?_
        · obtain ⟨w, _, rfl⟩ := (hmem x).mp hx
          exact ⟨Int.emod_nonneg _ (by omega), Int.emod_lt_of_pos _ hP⟩
        · rw [hmem]
          unfold turnC
          rw [hw, if_pos rfl, Bool.and_eq_true, decide_eq_true_eq, decide_eq_true_eq]
          constructor
          · rintro ⟨w, w1, w2⟩
            rw [e7] at w2
            obtain ⟨a, b⟩ := (week_mod (by omega) (p3 w w1).1 (p3 w w1).2).mp w2.symm
            rw [a]
            exact ⟨w1, b⟩
          · rintro ⟨a, b⟩
            refine ⟨d % 7, a, ?_⟩
            rw [e7]
            exact ((week_mod (by omega) (p3 _ a).1 (p3 _ a).2).mpr ⟨rfl, b⟩).symm
  · exact h.elim

local macro_rules | `(tactic| walk_at "go") => `(tactic| repeat' (first | assumption | with_reducible apply And.intro | walk_at "cs"))
local macro_rules | `(tactic| walk_at "ex") => `(tactic| simp only [List.cons.injEq, Sl.va.injEq, Sl.ow.injEq, Ow.lst.injEq, D.int.injEq, D.bl.injEq, D.str.injEq, D.lst.injEq, D.tup.injEq, true_and, and_true])
local macro_rules | `(tactic| walk_at "gn") => `(tactic| simp only [↓gN, ↓gsNil, ↓gsCons, ↓gT, ↓gSq, List.length_cons, List.length_nil, Nat.reduceAdd, true_and, List.set_cons_zero, List.set_cons_succ])
local macro_rules | `(tactic| walk_at "sp") => `(tactic| repeat' (first | split | with_reducible apply And.intro))
local macro_rules | `(tactic| walk_at "cs") => `(tactic| first | (unfold CMulP; omega) | (unfold CPowP; omega) | (unfold CModP; omega) | (unfold CDivP; omega))
local macro_rules | `(tactic| walk_at "pl") => `(tactic| simp only [↓sSeq, ↓sAsg, ↓sRet, ↓sRetN, ↓sIf, ↓sDrop, ↓sNext, ↓eVar, ↓bVar, ↓bE, ↓eBin, ↓tE, chS_bl, chS_true, chS_false, wipeE_nil, wipeE_cons, ↓aNil, ↓aCons, ↓aConsB, ↓eLst, ↓iR1, Option.isSome_some, lk_int, lk_str, ↓gN, ↓eCall, ↓dAdd, ↓dEq, ↓eB, ↓cLen, ↓cTuple, natc0, natc1, natc2, List.findIdx?_cons, List.findIdx?_nil, intsOf_ints, boolsOf_bls, plAnyI, plAnyR, ↓Sl.val, ↓Ow.toD, ↓stE, ↓PL.isNon, ↓eC, ↓bC, List.getElem?_cons_zero, List.getElem?_cons_succ, List.set_cons_zero, List.set_cons_succ, List.map_cons, List.map_nil, List.length_cons, List.length_nil, List.nil_append, List.cons_append, List.replicate_succ, List.replicate_zero, List.append_nil, atI0, atI1, atI2, atI3, atI4, cmpOk_int, cmpOk_bl, cmpOk_non, deq_int, deq_bl, true_and, and_true, Nat.reduceAdd, Nat.reduceSub, Nat.reduceLeDiff, Nat.reduceLT, Bool.not_eq_true', Bool.false_eq_true, if_false, if_true, decide_eq_true_eq, decide_eq_false_iff_not, Nat.zero_add, Nat.sub_zero, Nat.add_zero, Nat.sub_self, ixN31, ixN32, List.length_map, List.length_set, Int.reduceToNat, Int.reducePow, Int.reduceNeg, Int.reduceAdd, Int.reduceSub, Int.reduceMul, Int.reduceLT, Int.reduceLE, Int.reduceEq, Nat.reduceEqDiff, reduceCtorEq, List.mem_singleton, eq_self, not_true_eq_false, not_false_eq_true, or_true, true_or, cmpOk_lstA, cmpOk_tupA, ckA_lst, ckA_tup, ckAl_nil, ckAl_cons, ckAl_ints, ckAl_rangeL, ck_int, ck_bl, ck_non, ck_strI, cmpOk_str, deq_str, deq_tup, deq_lst, deqA_nil, deqA_cons, deqA_ints, Bool.and_true, Bool.true_and, Bool.and_false, Bool.false_and, decide_true, decide_false, Bool.not_true, Bool.not_false, ↓pDraw])
theorem ok__law_ascending (T : TF K mg) : FnOk P w K mg base CX0 2 T.a__law_ascending T.x__law_ascending ["tape", "least", "many"] (liP K p__law_ascending) := by
  refine fn_P T.f__law_ascending sc__law_ascending (by intro ds M Q E h; unfold p__law_ascending at h; split at h <;> first | rfl | exact h.elim) (fun cdv A outer s H E z hz hr => (qs_cons (qs_setLc (i := 3) rfl sc__law_ascending.nd rfl rfl (sw_true rfl rfl rfl (by decide +kernel)) (own := [("k", 4)]) (qi_range1 (by rfl) T.m_range (qa_cons (qe_var 2) qa_nil)) (blkOk_by (own := [("k", 4)]) (N := N__law_ascending) (sc := defScope s__law_ascending) (by decide +kernel)) (fun _ _ _ _ _ z hz => (qg_name (i := 4) sc__law_ascending.nd rfl (by first | exact Or.inl rfl | exact Or.inr rfl))) (fun _ _ _ _ _ => an_t1 fun z hz => (qt_cmp (ob_eq (hu64 hr)) (qb_of (qe_call (ok__law_draw T) hr (by rfl) T.g__law_draw T.f__law_draw.kp T.b__law_draw pass0 (qa_cons (qe_var 0) (qa_cons qe_int qa_nil)))) qb_int (nomark _))) (fun _ _ _ _ _ z hz => (qe_bin ob_add (qb_var 1) (qb_var 4))))
    (qs_cons (qs_if (qt_cmp (ob_eq (hu64 hr)) (qb_of (qe_callB cb_len (by rfl) T.m_len (by decide +kernel) (qab_cons (qb_var 3) qab_nil))) qb_int (nomark _))
    (qs_end (qs_set (i := 3) sc__law_ascending.nd rfl (by first | exact Or.inl rfl | exact Or.inr rfl) (qe_lst (qa_cons (qe_bin ob_add (qb_var 1) (qb_of (qe_call (ok__law_draw T) hr (by rfl) T.g__law_draw T.f__law_draw.kp T.b__law_draw pass0 (qa_cons (qe_var 0) (qa_cons (qe_var 2) qa_nil))))) qa_nil))))
    qs_nil)
    (qs_end (qs_ret (qe_callTy cb_tuple (by rfl) T.m_tuple (by decide +kernel) (qab_cons (qb_var 3) qab_nil))))))) ?_
  intro ds M Q0 h
  unfold p__law_ascending at h
  split at h
  · skip
    obtain ⟨⟨hT, h1m, h2m⟩, h⟩ := h
    rename_i T least many
    refine sSeq_i fun N1 h1 => ?_
    walk_at "pl"
    refine eLc_k fun N hN => ?_
    walk_at "pl"
    refine ⟨by omega, hN _ _ _ ?_⟩
    clear hN
    refine eLc_inv D.int (fun i ns => Asc ns ∧ ns.length ≤ i ∧ ∀ r ∈ ns, least ≤ r ∧ r < least + i) (rangeL 0 many) _ _ (fun Q h => h) rfl ⟨by simp, Nat.le_refl _, by simp⟩ ?_ ?_
    · rintro i d ns J hd ⟨ha, hl, hb⟩ hJ
      obtain ⟨rfl, hi⟩ := rangeL_get hd
      walk_at "pl"
      refine ⟨hT, fun v v0 v1 => ?_⟩
      by_cases c : v = 0
      · rw [if_pos c]
        refine ⟨by omega, ?_⟩
        have := hJ (ns ++ [least + i]) ⟨asc_snoc ha fun b hb2 => (hb b hb2).2, by simp; omega, fun r hr => ?_⟩
        · rw [List.map_append] at this
          rw [Int.zero_add]
          exact this
        · rcases List.mem_append.mp hr with w | w
          · have := hb r w; omega
          · rw [List.mem_singleton.mp w]; omega
      · rw [if_neg c]
        exact hJ ns ⟨ha, by omega, fun r hr => by have := hb r hr; omega⟩
    · rintro ns ⟨ha, hl, hb⟩
      rw [rangeL_len] at hl hb
      refine h1 _ _ ?_
      clear h1
      walk_at "pl"
      by_cases c : ns.length = 0
      · rw [if_pos (by omega)]
        refine ⟨⟨hT, by omega, by omega⟩, fun v v0 v1 => h [least + v] (by simp) (by simp) fun r hr => ?_⟩
        rw [List.mem_singleton.mp hr]; omega
      · rw [if_neg (by omega)]
        exact h ns ha (by omega) fun r hr => by have := hb r hr; omega
  · exact h.elim

local macro_rules | `(tactic| walk_at "go") => `(tactic| repeat' (first | assumption | with_reducible apply And.intro | walk_at "cs"))
local macro_rules | `(tactic| walk_at "ex") => `(tactic| simp only [List.cons.injEq, Sl.va.injEq, Sl.ow.injEq, Ow.lst.injEq, D.int.injEq, D.bl.injEq, D.str.injEq, D.lst.injEq, D.tup.injEq, true_and, and_true])
local macro_rules | `(tactic| walk_at "gn") => `(tactic| simp only [↓gN, ↓gsNil, ↓gsCons, ↓gT, ↓gSq, List.length_cons, List.length_nil, Nat.reduceAdd, true_and, List.set_cons_zero, List.set_cons_succ])
local macro_rules | `(tactic| walk_at "sp") => `(tactic| repeat' (first | split | with_reducible apply And.intro))
local macro_rules | `(tactic| walk_at "cs") => `(tactic| first | (unfold CMulP; omega) | (unfold CPowP; omega) | (unfold CModP; omega) | (unfold CDivP; omega))
local macro_rules | `(tactic| walk_at "pl") => `(tactic| simp only [↓sSeq, ↓sAsg, ↓sRet, ↓sRetN, ↓sIf, ↓sDrop, ↓sNext, ↓eVar, ↓bVar, ↓bE, ↓eBin, ↓tE, chS_bl, chS_true, chS_false, wipeE_nil, wipeE_cons, ↓aNil, ↓aCons, ↓eTup, Option.isSome_some, lk_int, lk_str, ↓eCall, ↓dAdd, ↓dEq, natc0, natc1, natc2, List.findIdx?_cons, List.findIdx?_nil, intsOf_ints, boolsOf_bls, plAnyI, plAnyR, ↓Sl.val, ↓Ow.toD, ↓stE, ↓PL.isNon, ↓eC, ↓bC, List.getElem?_cons_zero, List.getElem?_cons_succ, List.set_cons_zero, List.set_cons_succ, List.map_cons, List.map_nil, List.length_cons, List.length_nil, List.nil_append, List.cons_append, List.replicate_succ, List.replicate_zero, List.append_nil, atI0, atI1, atI2, atI3, atI4, cmpOk_int, cmpOk_bl, cmpOk_non, deq_int, deq_bl, true_and, and_true, Nat.reduceAdd, Nat.reduceSub, Nat.reduceLeDiff, Nat.reduceLT, Bool.not_eq_true', Bool.false_eq_true, if_false, if_true, decide_eq_true_eq, decide_eq_false_iff_not, Nat.zero_add, Nat.sub_zero, Nat.add_zero, Nat.sub_self, ixN31, ixN32, List.length_map, List.length_set, Int.reduceToNat, Int.reducePow, Int.reduceNeg, Int.reduceAdd, Int.reduceSub, Int.reduceMul, Int.reduceLT, Int.reduceLE, Int.reduceEq, Nat.reduceEqDiff, reduceCtorEq, List.mem_singleton, eq_self, not_true_eq_false, not_false_eq_true, or_true, true_or, cmpOk_lstA, cmpOk_tupA, ckA_lst, ckA_tup, ckAl_nil, ckAl_cons, ckAl_ints, ckAl_rangeL, ck_int, ck_bl, ck_non, ck_strI, cmpOk_str, deq_str, deq_tup, deq_lst, deqA_nil, deqA_cons, deqA_ints, Bool.and_true, Bool.true_and, Bool.and_false, Bool.false_and, decide_true, decide_false, Bool.not_true, Bool.not_false, ↓pDraw])
theorem ok__law_rule_end (T : TF K mg) : FnOk P w K mg base CX0 2 T.a__law_rule_end T.x__law_rule_end ["tape", "first"] (liP K p__law_rule_end) := by
  refine fn_P T.f__law_rule_end sc__law_rule_end (by intro ds M Q E h; unfold p__law_rule_end at h; split at h <;> first | rfl | exact h.elim) (fun cdv A outer s H E z hz hr => (qs_cons (qs_set (i := 2) sc__law_rule_end.nd rfl (by first | exact Or.inl rfl | exact Or.inr rfl) (qe_call (ok__law_draw T) hr (by rfl) T.g__law_draw T.f__law_draw.kp T.b__law_draw pass0 (qa_cons (qe_var 0) (qa_cons qe_int qa_nil))))
    (qs_cons (qs_if (qt_cmp (ob_eq (hu64 hr)) (qb_var 2) qb_int (nomark _))
    (qs_end (qs_ret (qe_tup (qa_cons qe_str (qa_cons (qe_bin ob_add (qb_var 1) (qb_of (qe_call (ok__law_draw T) hr (by rfl) T.g__law_draw T.f__law_draw.kp T.b__law_draw pass0 (qa_cons (qe_var 0) (qa_cons qe_int qa_nil))))) qa_nil)))))
    qs_nil)
    (qs_cons (qs_if (qt_cmp (ob_eq (hu64 hr)) (qb_var 2) qb_int (nomark _))
    (qs_end (qs_ret (qe_tup (qa_cons qe_str (qa_cons (qe_bin ob_add qb_int (qb_of (qe_call (ok__law_draw T) hr (by rfl) T.g__law_draw T.f__law_draw.kp T.b__law_draw pass0 (qa_cons (qe_var 0) (qa_cons qe_int qa_nil))))) qa_nil)))))
    qs_nil)
    (qs_end (qs_ret (qe_tup (qa_cons qe_str qa_nil)))))))) ?_
  intro ds M Q0 h
  unfold p__law_rule_end at h
  split at h
  · skip
    obtain ⟨hT, h⟩ := h
    rename_i T first
    refine sSeq_i fun N1 h1 => ?_
    walk_at "pl"
    refine ⟨hT, fun k k0 k1 => h1 _ _ ?_⟩
    clear h1
    refine sSeq_i fun N1 h1 => ?_
    refine sIf_k fun N2 h2 => ?_
    walk_at "pl"
    refine h2 _ _ _ ?_
    clear h2
    by_cases c : k = 2
    · rw [decide_eq_true c, if_pos rfl]
      walk_at "pl"
      refine ⟨hT, fun v v0 v1 => ?_⟩
      exact h (.till (first + v)) ⟨by omega, by omega⟩
    · rw [decide_eq_false c, if_neg Bool.false_ne_true]
      walk_at "pl"
      refine h1 _ _ ?_
      clear h1
      refine sSeq_i fun N1 h1 => ?_
      refine sIf_k fun N2 h2 => ?_
      walk_at "pl"
      refine h2 _ _ _ ?_
      clear h2
      by_cases c2 : k = 3
      · rw [decide_eq_true c2, if_pos rfl]
        walk_at "pl"
        refine ⟨hT, fun v v0 v1 => ?_⟩
        exact h (.count (1 + v)) ⟨by omega, by omega⟩
      · rw [decide_eq_false c2, if_neg Bool.false_ne_true]
        walk_at "pl"
        refine h1 _ _ ?_
        walk_at "pl"
        exact h .never trivial
  · exact h.elim

local macro_rules | `(tactic| walk_at "go") => `(tactic| repeat' (first | assumption | with_reducible apply And.intro | walk_at "cs"))
local macro_rules | `(tactic| walk_at "ex") => `(tactic| simp only [List.cons.injEq, Sl.va.injEq, Sl.ow.injEq, Ow.lst.injEq, D.int.injEq, D.bl.injEq, D.str.injEq, D.lst.injEq, D.tup.injEq, true_and, and_true])
local macro_rules | `(tactic| walk_at "gn") => `(tactic| simp only [↓gN, ↓gsNil, ↓gsCons, ↓gT, ↓gSq, List.length_cons, List.length_nil, Nat.reduceAdd, true_and, List.set_cons_zero, List.set_cons_succ])
local macro_rules | `(tactic| walk_at "sp") => `(tactic| repeat' (first | split | with_reducible apply And.intro))
local macro_rules | `(tactic| walk_at "cs") => `(tactic| first | (unfold CMulP; omega) | (unfold CPowP; omega) | (unfold CModP; omega) | (unfold CDivP; omega))
local macro_rules | `(tactic| walk_at "pl") => `(tactic| simp only [↓sSeq, ↓sAsg, ↓sRet, ↓sRetN, ↓sIf, ↓sDrop, ↓sNext, ↓sTgt, ↓eVar, ↓bVar, ↓bE, ↓eBin, ↓tE, chS_bl, chS_true, chS_false, wipeE_nil, wipeE_cons, ↓sNever, ↓aNil, ↓aCons, ↓iSeq, ↓iR2, Option.isSome_some, lk_int, lk_str, ↓gN, ↓gsNil, ↓gsCons, ↓eCall, ↓dI2, ↓dEq, ↓dIn, ↓dInX, ↓gSq, natc0, natc1, natc2, List.findIdx?_cons, List.findIdx?_nil, intsOf_ints, boolsOf_bls, plAnyI, plAnyR, ↓Sl.val, ↓Ow.toD, ↓stE, ↓PL.isNon, ↓eC, ↓bC, ↓dSub, ↓dDiv, List.getElem?_cons_zero, List.getElem?_cons_succ, List.set_cons_zero, List.set_cons_succ, List.map_cons, List.map_nil, List.length_cons, List.length_nil, List.nil_append, List.cons_append, List.replicate_succ, List.replicate_zero, List.append_nil, atI0, atI1, atI2, atI3, atI4, cmpOk_int, cmpOk_bl, cmpOk_non, deq_int, deq_bl, true_and, and_true, Nat.reduceAdd, Nat.reduceSub, Nat.reduceLeDiff, Nat.reduceLT, Bool.not_eq_true', Bool.false_eq_true, if_false, if_true, decide_eq_true_eq, decide_eq_false_iff_not, Nat.zero_add, Nat.sub_zero, Nat.add_zero, Nat.sub_self, ixN31, ixN32, List.length_map, List.length_set, Int.reduceToNat, Int.reducePow, Int.reduceNeg, Int.reduceAdd, Int.reduceSub, Int.reduceMul, Int.reduceLT, Int.reduceLE, Int.reduceEq, Nat.reduceEqDiff, reduceCtorEq, List.mem_singleton, eq_self, not_true_eq_false, not_false_eq_true, or_true, true_or, cmpOk_lstA, cmpOk_tupA, ckA_lst, ckA_tup, ckAl_nil, ckAl_cons, ckAl_ints, ckAl_rangeL, ck_int, ck_bl, ck_non, ck_strI, cmpOk_str, deq_str, deq_tup, deq_lst, deqA_nil, deqA_cons, deqA_ints, Bool.and_true, Bool.true_and, Bool.and_false, Bool.false_and, decide_true, decide_false, Bool.not_true, Bool.not_false, ↓p__law_mod])
theorem ok__law_turns (T : TF K mg) : FnOk P w K mg base CX0 2 T.a__law_turns T.x__law_turns ["rule", "begin", "end"] (liP K p__law_turns) := by
  refine fn_P T.f__law_turns sc__law_turns (by intro ds M Q E h; unfold p__law_turns at h; split at h <;> first | rfl | exact h.elim) (fun cdv A outer s H E z hz hr => (qs_cons (qs_asg (qe_var 0) (qg_seq (n := 5) rfl (qgs_cons (qg_name (i := 3) sc__law_turns.nd rfl (by first | exact Or.inl rfl | exact Or.inr rfl)) (qgs_cons (qg_name (i := 4) sc__law_turns.nd rfl (by first | exact Or.inl rfl | exact Or.inr rfl)) (qgs_cons (qg_name (i := 5) sc__law_turns.nd rfl (by first | exact Or.inl rfl | exact Or.inr rfl)) (qgs_cons (qg_name (i := 6) sc__law_turns.nd rfl (by first | exact Or.inl rfl | exact Or.inr rfl)) (qgs_cons (qg_name (i := 7) sc__law_turns.nd rfl (by first | exact Or.inl rfl | exact Or.inr rfl)) qgs_nil)))))))
    (qs_cons (qs_if (qt_cmp (ob_eq (hu64 hr)) (qb_var 3) qb_str (nomark _))
    (qs_end (qs_ret (qe_lc rfl sc__law_turns.nd (own := [("day", 12)]) (qi_range2 (by rfl) T.m_range (qa_cons (qe_var 1) (qa_cons (qe_var 2) qa_nil))) (blkOk_by (own := [("day", 12)]) (N := N__law_turns) (sc := defScope s__law_turns) (by decide +kernel)) (fun _ _ _ _ _ z hz => (qg_name (i := 12) sc__law_turns.nd rfl (by first | exact Or.inl rfl | exact Or.inr rfl))) (fun _ _ _ _ _ => an_t1 fun z hz => (qt_cmp (ob_eq (hu64 hr)) (qb_of (qe_call (ok__law_mod T) hr (by rfl) T.g__law_mod T.f__law_mod.kp T.b__law_mod pass0 (qa_cons (qe_bin ob_sub (qb_var 12) (qb_var 6)) (qa_cons (qe_var 4) qa_nil)))) qb_int (nomark _))) (fun _ _ _ _ _ z hz => (qe_var 12)))))
    qs_nil)
    (qs_cons (qs_if (qt_cmp (ob_eq (hu64 hr)) (qb_var 3) qb_str (nomark _))
    (qs_cons (qs_setLc (i := 8) rfl sc__law_turns.nd rfl rfl (sw_true rfl rfl rfl (by decide +kernel)) (own := [("day", 12)]) (qi_range2 (by rfl) T.m_range (qa_cons (qe_var 1) (qa_cons (qe_var 2) qa_nil))) (blkOk_by (own := [("day", 12)]) (N := N__law_turns) (sc := defScope s__law_turns) (by decide +kernel)) (fun _ _ _ _ _ z hz => (qg_name (i := 12) sc__law_turns.nd rfl (by first | exact Or.inl rfl | exact Or.inr rfl))) (fun _ _ _ _ _ => an_t1 fun z hz => (qt_cmp (ob_inX (hu65 hr)) (qb_of (qe_call (ok__law_mod T) hr (by rfl) T.g__law_mod T.f__law_mod.kp T.b__law_mod pass0 (qa_cons (qe_var 12) (qa_cons qe_int qa_nil)))) (qb_var 5) (by with_unfolding_all rfl))) (fun _ _ _ _ _ z hz => (qe_var 12)))
    (qs_end (qs_ret (qe_lc rfl sc__law_turns.nd (own := [("day", 12)]) (qi_seq (h := (qe_var 8))) (blkOk_by (own := [("day", 12)]) (N := N__law_turns) (sc := defScope s__law_turns) (by decide +kernel)) (fun _ _ _ _ _ z hz => (qg_name (i := 12) sc__law_turns.nd rfl (by first | exact Or.inl rfl | exact Or.inr rfl))) (fun _ _ _ _ _ => an_t1 fun z hz => (qt_cmp (ob_eq (hu64 hr)) (qb_of (qe_call (ok__law_mod T) hr (by rfl) T.g__law_mod T.f__law_mod.kp T.b__law_mod pass0 (qa_cons (qe_bin ob_sub (qb_of (qe_bin ob_div (qb_var 12) qb_int)) (qb_of (qe_bin ob_div (qb_var 6) qb_int))) (qa_cons (qe_var 4) qa_nil)))) qb_int (nomark _))) (fun _ _ _ _ _ z hz => (qe_var 12))))))
    qs_nil)
    qss_never)))) ?_
  intro ds M Q0 h
  unfold p__law_turns at h
  split at h
  · skip
    obtain ⟨r, rfl, hr, hb, h⟩ := h
    rename_i b e
    have hi := hr.iv
    have hs := hr.st
    have hp := hr.pk
    unfold rulD
    refine sSeq_i fun N1 h1 => ?_
    walk_at "pl"
    refine h1 _ _ ?_
    clear h1
    cases hw : r.wk with
    | false =>
      rw [hw, if_neg Bool.false_ne_true] at hp
      rw [show kindS r = sDay by unfold kindS; rw [hw]; rfl, hp]
      refine sSeq_i fun N1 h1 => ?_
      refine sIf_k fun N2 h2 => ?_
      walk_at "pl"
      refine ⟨by decide +kernel, h2 _ _ _ ?_⟩
      clear h2
      rw [decide_eq_true (show sDay = Str.ofString "day" from rfl), if_pos rfl]
      walk_at "pl"
      refine eLc_fm (pickI fun x => (x - r.first) % r.iv = 0) ((rgI b e).map D.int) (fun Q h => by walk_at "pl"; rw [rangeL_rgI]; exact ⟨⟨by omega, by omega, by omega, by omega⟩, h⟩) rfl (by rw [List.length_map, rgI_len]; omega) ?_ ?_
      · intro i d acc J hd hl hJ
        obtain ⟨v, rfl, hv⟩ := ints_get hd
        walk_at "pl"
        refine ⟨⟨by omega, by omega⟩, ?_⟩
        by_cases c : (v - r.first) % r.iv = 0
        · rw [if_pos c]
          rw [show pickI (fun x => (x - r.first) % r.iv = 0) (.int v) = some (.int v) from if_pos c] at hJ
          exact ⟨hl, hJ⟩
        · rw [if_neg c]
          rw [show pickI (fun x => (x - r.first) % r.iv = 0) (.int v) = none from if_neg c, Option.toList_none, List.append_nil] at hJ
          exact hJ
      · rw [pickI_map]
        have : (fun n => decide ((n - r.first) % r.iv = 0)) = turnC r := funext fun n => by unfold turnC; rw [hw]; rfl
        rw [this]
        exact h
    | true =>
      rw [hw, if_pos rfl] at hp
      rw [show kindS r = sWeek by unfold kindS; rw [hw]; rfl]
      refine sSeq_i fun N1 h1 => ?_
      refine sIf_k fun N2 h2 => ?_
      walk_at "pl"
      refine ⟨by decide +kernel, h2 _ _ _ ?_⟩
      clear h2
      rw [decide_eq_false (show ¬ sWeek = Str.ofString "day" from s_wd), if_neg Bool.false_ne_true]
      walk_at "pl"
      refine h1 _ _ ?_
      clear h1
      refine sSeq_i fun N1 h1 => ?_
      refine sIf_k fun N2 h2 => ?_
      walk_at "pl"
      refine ⟨by decide +kernel, h2 _ _ _ ?_⟩
      clear h2
      rw [decide_eq_true (show sWeek = Str.ofString "week" from rfl), if_pos rfl]
      refine sSeq_i fun N2 h2 => ?_
      walk_at "pl"
      refine eLc_fm (pickI fun x => x % 7 ∈ r.pk) ((rgI b e).map D.int) (fun Q h => by walk_at "pl"; rw [rangeL_rgI]; exact ⟨⟨by omega, by omega, by omega, by omega⟩, h⟩) rfl (by rw [List.length_map, rgI_len]; omega) ?_ ?_
      · intro i d acc J hd hl hJ
        obtain ⟨v, rfl, hv⟩ := ints_get hd
        walk_at "pl"
        by_cases c : v % 7 ∈ r.pk
        · rw [show pickI (fun x => x % 7 ∈ r.pk) (.int v) = some (.int v) from if_pos c] at hJ
          have hJ := And.intro hl hJ
          first | (rw [if_pos c]; exact hJ) | (simp only [c, decide_true, if_true]; exact hJ)
        · rw [show pickI (fun x => x % 7 ∈ r.pk) (.int v) = none from if_neg c, Option.toList_none, List.append_nil] at hJ
          first | (rw [if_neg c]; exact hJ) | (simp only [c, decide_false, Bool.false_eq_true, if_false]; exact hJ)
      rw [pickI_map]
      refine h2 _ _ ?_
      clear h2
      walk_at "pl"
      have hfl := List.length_filter_le (fun n => decide (n % 7 ∈ r.pk)) (rgI b e)
      rw [rgI_len] at hfl
      refine eLc_k fun N hN => ?_
      walk_at "pl"
      refine hN _ _ _ ?_
      clear hN
      refine eLc_fmj (pickI fun x => (x / 7 - r.first / 7) % r.iv = 0) (((rgI b e).filter fun n => decide (n % 7 ∈ r.pk)).map D.int) _ _ (fun Q h => h) rfl (by rw [List.length_map]; omega) ?_ ?_
      · intro i d acc J hd hl hJ
        obtain ⟨v, rfl, hv⟩ := ints_get hd
        walk_at "pl"
        by_cases c : (v / 7 - r.first / 7) % r.iv = 0
        · rw [show pickI (fun x => (x / 7 - r.first / 7) % r.iv = 0) (.int v) = some (.int v) from if_pos c] at hJ
          rw [if_pos c]
          exact ⟨by walk_at "cs", by walk_at "cs", ⟨by omega, by omega⟩, hl, hJ⟩
        · rw [show pickI (fun x => (x / 7 - r.first / 7) % r.iv = 0) (.int v) = none from if_neg c, Option.toList_none, List.append_nil] at hJ
          rw [if_neg c]
          exact ⟨by walk_at "cs", by walk_at "cs", ⟨by omega, by omega⟩, hJ⟩
      · rw [pickI_map, List.filter_filter]
        have : (fun a => decide ((a / 7 - r.first / 7) % r.iv = 0) && decide (a % 7 ∈ r.pk)) = turnC r := funext fun n => by unfold turnC; rw [hw, Bool.and_comm]; rfl
        rw [this]
        exact h
  · exact h.elim

local macro_rules | `(tactic| walk_at "go") => `(tactic| repeat' (first | assumption | with_reducible apply And.intro | walk_at "cs"))
local macro_rules | `(tactic| walk_at "ex") => `(tactic| simp only [List.cons.injEq, Sl.va.injEq, Sl.ow.injEq, Ow.lst.injEq, D.int.injEq, D.bl.injEq, D.str.injEq, D.lst.injEq, D.tup.injEq, true_and, and_true])
local macro_rules | `(tactic| walk_at "gn") => `(tactic| simp only [↓gN, ↓gsNil, ↓gsCons, ↓gT, ↓gSq, List.length_cons, List.length_nil, Nat.reduceAdd, true_and, List.set_cons_zero, List.set_cons_succ])
local macro_rules | `(tactic| walk_at "sp") => `(tactic| repeat' (first | split | with_reducible apply And.intro))
local macro_rules | `(tactic| walk_at "cs") => `(tactic| first | (unfold CMulP; omega) | (unfold CPowP; omega) | (unfold CModP; omega) | (unfold CDivP; omega))
local macro_rules | `(tactic| walk_at "pl") => `(tactic| simp only [↓sSeq, ↓sAsg, ↓sRet, ↓sRetN, ↓sIf, ↓sDrop, ↓sNext, ↓sTgt, ↓eVar, ↓bVar, ↓bE, ↓eBin, ↓tE, chS_bl, chS_true, chS_false, wipeE_nil, wipeE_cons, ↓qAnd, ↓aNil, ↓aCons, ↓aConsB, ↓eTup, Option.isSome_some, lk_int, lk_str, ↓gN, ↓gsNil, ↓gsCons, ↓eCall, ↓dI2, ↓dAdd, ↓dEq, ↓eB, ↓cInt, ↓gSq, natc0, natc1, natc2, List.findIdx?_cons, List.findIdx?_nil, intsOf_ints, boolsOf_bls, plAnyI, plAnyR, ↓Sl.val, ↓Ow.toD, ↓stE, ↓PL.isNon, ↓eC, ↓bC, ↓dMul, ↓dLe, List.getElem?_cons_zero, List.getElem?_cons_succ, List.set_cons_zero, List.set_cons_succ, List.map_cons, List.map_nil, List.length_cons, List.length_nil, List.nil_append, List.cons_append, List.replicate_succ, List.replicate_zero, List.append_nil, atI0, atI1, atI2, atI3, atI4, cmpOk_int, cmpOk_bl, cmpOk_non, deq_int, deq_bl, true_and, and_true, Nat.reduceAdd, Nat.reduceSub, Nat.reduceLeDiff, Nat.reduceLT, Bool.not_eq_true', Bool.false_eq_true, if_false, if_true, decide_eq_true_eq, decide_eq_false_iff_not, Nat.zero_add, Nat.sub_zero, Nat.add_zero, Nat.sub_self, ixN31, ixN32, List.length_map, List.length_set, Int.reduceToNat, Int.reducePow, Int.reduceNeg, Int.reduceAdd, Int.reduceSub, Int.reduceMul, Int.reduceLT, Int.reduceLE, Int.reduceEq, Nat.reduceEqDiff, reduceCtorEq, List.mem_singleton, eq_self, not_true_eq_false, not_false_eq_true, or_true, true_or, cmpOk_lstA, cmpOk_tupA, ckA_lst, ckA_tup, ckAl_nil, ckAl_cons, ckAl_ints, ckAl_rangeL, ck_int, ck_bl, ck_non, ck_strI, cmpOk_str, deq_str, deq_tup, deq_lst, deqA_nil, deqA_cons, deqA_ints, Bool.and_true, Bool.true_and, Bool.and_false, Bool.false_and, decide_true, decide_false, Bool.not_true, Bool.not_false, ↓pDraw])
theorem ok__law_twin (T : TF K mg) : FnOk P w K mg base CX0 2 T.a__law_twin T.x__law_twin ["tape", "rule"] (liP K p__law_twin) := by
  refine fn_P T.f__law_twin sc__law_twin (by intro ds M Q E h; unfold p__law_twin at h; split at h <;> first | rfl | exact h.elim) (fun cdv A outer s H E z hz hr => (qs_cons (qs_asg (qe_var 1) (qg_seq (n := 5) rfl (qgs_cons (qg_name (i := 2) sc__law_twin.nd rfl (by first | exact Or.inl rfl | exact Or.inr rfl)) (qgs_cons (qg_name (i := 3) sc__law_twin.nd rfl (by first | exact Or.inl rfl | exact Or.inr rfl)) (qgs_cons (qg_name (i := 4) sc__law_twin.nd rfl (by first | exact Or.inl rfl | exact Or.inr rfl)) (qgs_cons (qg_name (i := 5) sc__law_twin.nd rfl (by first | exact Or.inl rfl | exact Or.inr rfl)) (qgs_cons (qg_name (i := 6) sc__law_twin.nd rfl (by first | exact Or.inl rfl | exact Or.inr rfl)) qgs_nil)))))))
    (qs_cons (qs_set (i := 7) sc__law_twin.nd rfl (by first | exact Or.inl rfl | exact Or.inr rfl) (qe_call (ok__law_draw T) hr (by rfl) T.g__law_draw T.f__law_draw.kp T.b__law_draw pass0 (qa_cons (qe_var 0) (qa_cons qe_int qa_nil))))
    (qs_cons (qs_if (PW.pt (qw_and (qt_cmp (ob_eq (hu64 hr)) (qb_var 7) qb_int (nomark _)) (qw_and (qt_cmp (ob_eq (hu64 hr)) (qb_var 2) qb_str (nomark _)) (qw_and1 (qt_cmp (ob_eq (hu64 hr)) (qb_var 3) qb_int (nomark _))))))
    (qs_end (qs_ret (qe_tup (qa_cons qe_str (qa_cons qe_int (qa_cons (qe_tup (qa_cons qe_int (qa_cons qe_int (qa_cons qe_int (qa_cons qe_int (qa_cons qe_int (qa_cons qe_int (qa_cons qe_int qa_nil)))))))) (qa_cons (qe_var 5) (qa_cons (qe_var 6) qa_nil))))))))
    qs_nil)
    (qs_cons (qs_if (PW.pt (qw_and (qt_cmp (ob_eq (hu64 hr)) (qb_var 7) qb_int (nomark _)) (qw_and1 (qt_cmp ob_le (qb_var 3) qb_int (nomark _)))))
    (qs_end (qs_ret (qe_tup (qa_cons (qe_var 2) (qa_cons (qe_bin ob_mul (qb_var 3) qb_int) (qa_cons (qe_var 4) (qa_cons (qe_var 5) (qa_cons (qe_var 6) qa_nil))))))))
    qs_nil)
    (qs_cons (qs_if (qt_cmp (ob_eq (hu64 hr)) (qb_var 7) qb_int (nomark _))
    (qs_end (qs_ret (qe_tup (qa_cons (qe_var 2) (qa_cons (qe_var 3) (qa_cons (qe_var 4) (qa_cons (qe_bin ob_add (qb_of (qe_bin ob_add (qb_var 5) (qb_of (qe_bin ob_mul (qb_of (qe_bin ob_mul qb_int (qb_var 3))) (qb_of (qe_callTy cb_int (by rfl) T.m_int (by decide +kernel) (qab_cons (qb_of (qe_cmp (ob_eq (hu64 hr)) (qb_var 2) qb_str (nomark _))) qab_nil))))))) (qb_of (qe_bin ob_mul (qb_var 3) (qb_of (qe_callTy cb_int (by rfl) T.m_int (by decide +kernel) (qab_cons (qb_of (qe_cmp (ob_eq (hu64 hr)) (qb_var 2) qb_str (nomark _))) qab_nil)))))) (qa_cons (qe_var 6) qa_nil))))))))
    qs_nil)
    (qs_end (qs_ret (qe_var 1))))))))) ?_
  intro ds M Q0 h
  unfold p__law_twin at h
  split at h
  · skip
    obtain ⟨r, f, rfl, ⟨hT, hr, hf, hf2⟩, h⟩ := h
    rename_i T
    refine sSeq_i fun N1 h1 => ?_
    walk_at "pl"
    have hi := hr.iv
    obtain ⟨wk, iv, pk, first, fin⟩ := r
    have hi : 1 ≤ iv ∧ (iv ≤ 8 ∧ iv ≠ 5 ∧ iv ≠ 7) := hi
    have hst : 0 ≤ first ∧ first ≤ 300 := hr.st
    have hf : first ≤ f := hf
    have hpk := hr.pk
    have hfin := hr.fin
    obtain ⟨so1, so2, so3, so4, so5, so6, so7⟩ := str_ok
    have tw : ∀ (wk' : Bool) (iv' : Int) (pk' : List Int) (first' : Int), (1 ≤ iv' ∧ (iv' ≤ 8 ∧ iv' ≠ 5 ∧ iv' ≠ 7)) → (first ≤ first' ∧ first' ≤ first + 56) → (if wk' = true then Asc pk' ∧ 0 < pk'.length ∧ ∀ p ∈ pk', 0 ≤ p ∧ p < 7 else pk' = []) → TwinR (f + 56) ⟨wk', iv', pk', first', fin⟩ := fun wk' iv' pk' first' a b c => by
      refine ⟨⟨a, ⟨by show 0 ≤ first'; omega, by show first' ≤ 300; omega⟩, c, ?_⟩, by show first' ≤ f + 56; omega⟩
      cases fin with
      | never => trivial
      | till e =>
        have : first ≤ e ∧ e ≤ 1000 := hfin
        exact ⟨by show first' ≤ max e first'; omega, by show max e first' ≤ 1000; omega⟩
      | count c => exact hfin
    have keep := tw wk iv pk first hi (by omega) hpk
    have hkd : kindS ⟨wk, iv, pk, first, fin⟩ = if wk = true then sWeek else sDay := rfl
    generalize hks : (if wk = true then sWeek else sDay) = ks at *
    have hrul : ∀ (iv' : Int) (pk' : List Int) (first' : Int), rulD ⟨wk, iv', pk', first', fin⟩ = .tup [.str ks, .int iv', .tup (pk'.map D.int), .int first', endRD fin] := fun iv' pk' first' => by
      unfold rulD kindS
      rw [← hks]
    have hsk : PyData.strOk ks = true := by
      rw [← hks]
      cases wk
      · exact so1
      · exact so2
    rw [hrul]
    walk_at "pl"
    refine h1 _ _ ?_
    clear h1
    refine sSeq_i fun N1 h1 => ?_
    walk_at "pl"
    refine ⟨hT, fun w w0 w1 => h1 _ _ ?_⟩
    clear h1
    refine sSeq_i fun N1 h1 => ?_
    refine sIf_k fun N3 h3 => ?_
    walk_at "pl"
    have hA : ∀ b : Bool, N3 b [.va (.ref T), .va (.tup [.str ks, .int iv, .tup (pk.map D.int), .int first, endRD fin]), .va (.str ks), .va (.int iv), .va (.tup (pk.map D.int)), .va (.int first), .va (endRD fin), .va (.int w)] M := by
      intro b
      refine h3 _ _ _ ?_
      clear h3
      cases b with
      | true =>
        rw [if_pos rfl]
        walk_at "pl"
        exact h ⟨true, 1, [0, 1, 2, 3, 4, 5, 6], first, fin⟩ (tw true 1 [0, 1, 2, 3, 4, 5, 6] first (by omega) (by omega) ⟨by decide, by decide, by decide⟩)
      | false =>
        rw [if_neg (by decide)]
        walk_at "pl"
        refine h1 _ _ ?_
        clear h1
        refine sSeq_i fun N1 h1 => ?_
        refine sIf_k fun N3 h3 => ?_
        walk_at "pl"
        have hB : ∀ b : Bool, (b = true → iv ≤ 4) → N3 b [.va (.ref T), .va (.tup [.str ks, .int iv, .tup (pk.map D.int), .int first, endRD fin]), .va (.str ks), .va (.int iv), .va (.tup (pk.map D.int)), .va (.int first), .va (endRD fin), .va (.int w)] M := by
          intro b hb
          refine h3 _ _ _ ?_
          clear h3
          cases b with
          | true =>
            have hb := hb rfl
            rw [if_pos rfl]
            walk_at "pl"
            have := h ⟨wk, iv * 2, pk, first, fin⟩ (tw wk (iv * 2) pk first (by omega) (by omega) hpk)
            rw [hrul] at this
            exact ⟨by walk_at "cs", this⟩
          | false =>
            rw [if_neg (by decide)]
            walk_at "pl"
            refine h1 _ _ ?_
            clear h1
            refine sSeq_i fun N1 h1 => ?_
            walk_at "pl"
            have hW : (if ks = Str.ofString "week" then (1 : Int) else 0) = if wk = true then 1 else 0 := by
              rw [← hks]
              cases wk
              · rw [if_neg Bool.false_ne_true, if_neg Bool.false_ne_true, if_neg (show ¬ sDay = Str.ofString "week" from fun e => s_wd e.symm)]
              · rw [if_pos rfl, if_pos rfl, if_pos (show sWeek = Str.ofString "week" from rfl)]
            have hD : (if ks = Str.ofString "day" then (1 : Int) else 0) = if wk = true then 0 else 1 := by
              rw [← hks]
              cases wk
              · rw [if_neg Bool.false_ne_true, if_neg Bool.false_ne_true, if_pos (show sDay = Str.ofString "day" from rfl)]
              · rw [if_pos rfl, if_pos rfl, if_neg (show ¬ sWeek = Str.ofString "day" from s_wd)]
            rw [hW, hD]
            split
            · have key : ∀ u v : Int, ((u = 1 ∧ v = 0) ∨ (u = 0 ∧ v = 1)) → CMulP 7 iv ∧ (PyData.strOk ks = true ∧ PyData.strOk (Str.ofString "week") = true) ∧ CMulP (7 * iv) u ∧ (PyData.strOk ks = true ∧ PyData.strOk (Str.ofString "day") = true) ∧ CMulP iv v ∧
                  Q0 (.va (.tup [.str ks, .int iv, .tup (pk.map D.int), .int (first + 7 * iv * u + iv * v), endRD fin])) M := by
                intro u v huv
                have : ∃ f', first + 7 * iv * u + iv * v = f' ∧ first ≤ f' ∧ f' ≤ first + 56 := by
                  rcases huv with ⟨rfl, rfl⟩ | ⟨rfl, rfl⟩
                  · exact ⟨_, rfl, by omega, by omega⟩
                  · exact ⟨_, rfl, by omega, by omega⟩
                obtain ⟨f', e, e1, e2⟩ := this
                have := h ⟨wk, iv, pk, f', fin⟩ (tw wk iv pk f' hi ⟨e1, e2⟩ hpk)
                rw [hrul] at this
                rw [e]
                rcases huv with ⟨rfl, rfl⟩ | ⟨rfl, rfl⟩
                · exact ⟨by walk_at "cs", ⟨hsk, so4⟩, by walk_at "cs", ⟨hsk, so3⟩, by walk_at "cs", this⟩
                · exact ⟨by walk_at "cs", ⟨hsk, so4⟩, by walk_at "cs", ⟨hsk, so3⟩, by walk_at "cs", this⟩
              cases wk
              · exact key _ _ (.inr ⟨rfl, rfl⟩)
              · exact key _ _ (.inl ⟨rfl, rfl⟩)
            · refine h1 _ _ ?_
              clear h1
              walk_at "pl"
              have := h ⟨wk, iv, pk, first, fin⟩ keep
              rw [hrul] at this
              exact this
        split
        · exact hB _ fun w => of_decide_eq_true w
        · exact hB false fun w => (by cases w)
    split
    · refine ⟨⟨hsk, so3⟩, ?_⟩
      split
      · exact hA _
      · exact hA _
    · exact hA _
  · exact h.elim

local macro_rules | `(tactic| walk_at "go") => `(tactic| repeat' (first | assumption | with_reducible apply And.intro | walk_at "cs"))
local macro_rules | `(tactic| walk_at "ex") => `(tactic| simp only [List.cons.injEq, Sl.va.injEq, Sl.ow.injEq, Ow.lst.injEq, D.int.injEq, D.bl.injEq, D.str.injEq, D.lst.injEq, D.tup.injEq, true_and, and_true])
local macro_rules | `(tactic| walk_at "gn") => `(tactic| simp only [↓gN, ↓gsNil, ↓gsCons, ↓gT, ↓gSq, List.length_cons, List.length_nil, Nat.reduceAdd, true_and, List.set_cons_zero, List.set_cons_succ])
local macro_rules | `(tactic| walk_at "sp") => `(tactic| repeat' (first | split | with_reducible apply And.intro))
local macro_rules | `(tactic| walk_at "cs") => `(tactic| first | (unfold CMulP; omega) | (unfold CPowP; omega) | (unfold CModP; omega) | (unfold CDivP; omega))
local macro_rules | `(tactic| walk_at "pl") => `(tactic| simp only [↓sSeq, ↓sAsg, ↓sRet, ↓sRetN, ↓sIf, ↓sDrop, ↓sNext, ↓sExt, ↓eVar, ↓bVar, ↓bE, ↓eBin, ↓tE, chS_bl, chS_true, chS_false, wipeE_nil, wipeE_cons, ↓sNever, ↓aNil, ↓aCons, ↓aConsB, ↓eLst, ↓iSeq, ↓eDGet, ↓eDGet2, ↓iDic, ↓isDic, ↓kyOf, Option.isSome_some, lk_int, lk_str, ↓gN, ↓eCall, ↓dI2, ↓dAdd, ↓dIx, ↓eB, ↓cLen, ↓cTuple, ↓cSorted, natc0, natc1, natc2, List.findIdx?_cons, List.findIdx?_nil, intsOf_ints, boolsOf_bls, plAnyI, plAnyR, ↓cGcd, ↓cLcm, ↓Sl.val, ↓Ow.toD, ↓stE, ↓tYes', ↓PL.isNon, ↓eC, ↓bC, ↓dMul, ↓dGt, List.getElem?_cons_zero, List.getElem?_cons_succ, List.set_cons_zero, List.set_cons_succ, List.map_cons, List.map_nil, List.length_cons, List.length_nil, List.nil_append, List.cons_append, List.replicate_succ, List.replicate_zero, List.append_nil, atI0, atI1, atI2, atI3, atI4, cmpOk_int, cmpOk_bl, cmpOk_non, deq_int, deq_bl, true_and, and_true, Nat.reduceAdd, Nat.reduceSub, Nat.reduceLeDiff, Nat.reduceLT, Bool.not_eq_true', Bool.false_eq_true, if_false, if_true, decide_eq_true_eq, decide_eq_false_iff_not, Nat.zero_add, Nat.sub_zero, Nat.add_zero, Nat.sub_self, ixN31, ixN32, List.length_map, List.length_set, Int.reduceToNat, Int.reducePow, Int.reduceNeg, Int.reduceAdd, Int.reduceSub, Int.reduceMul, Int.reduceLT, Int.reduceLE, Int.reduceEq, Nat.reduceEqDiff, reduceCtorEq, List.mem_singleton, eq_self, not_true_eq_false, not_false_eq_true, or_true, true_or, cmpOk_lstA, cmpOk_tupA, ckA_lst, ckA_tup, ckAl_nil, ckAl_cons, ckAl_ints, ckAl_rangeL, ck_int, ck_bl, ck_non, ck_strI, cmpOk_str, deq_str, deq_tup, deq_lst, deqA_nil, deqA_cons, deqA_ints, Bool.and_true, Bool.true_and, Bool.and_false, Bool.false_and, decide_true, decide_false, Bool.not_true, Bool.not_false, ↓p_both, ↓p_by_class, ↓p_shrunk])
theorem ok_met (T : TF K mg) : FnOk P w K mg base CX0 3 T.a_met T.x_met ["first", "second"] (liP K p_met) := by
  refine fn_P T.f_met sc_met (by intro ds M Q E h; unfold p_met at h; split at h <;> first | rfl | exact h.elim) (fun cdv A outer s H E z hz hr => (qs_cons (qs_set (i := 2) sc_met.nd rfl (by first | exact Or.inl rfl | exact Or.inr rfl) (qe_callF cb_gcd (by rfl) T.g_gcd (qab_cons (qb_of (qe_ix (qb_var 0) qb_int)) (qab_cons (qb_of (qe_ix (qb_var 1) qb_int)) qab_nil))))
    (qs_cons (qs_set (i := 3) sc_met.nd rfl (by first | exact Or.inl rfl | exact Or.inr rfl) (qe_call (ok_by_class T) (hr.mono (by decide)) (by rfl) T.g_by_class T.f_by_class.kp T.b_by_class pass0 (qa_cons (qe_ix (qb_var 0) qb_int) (qa_cons (qe_var 2) qa_nil))))
    (qs_cons (qs_set (i := 4) sc_met.nd rfl (by first | exact Or.inl rfl | exact Or.inr rfl) (qe_call (ok_by_class T) (hr.mono (by decide)) (by rfl) T.g_by_class T.f_by_class.kp T.b_by_class pass0 (qa_cons (qe_ix (qb_var 1) qb_int) (qa_cons (qe_var 2) qa_nil))))
    (qs_cons (qs_set (i := 5) sc_met.nd rfl (by first | exact Or.inl rfl | exact Or.inr rfl) (qe_lst qa_nil))
    (qs_cons (qs_for PassesOwn.never rfl (qi_dict (qe_var 3)) (qg_name (i := 6) sc_met.nd rfl (by first | exact Or.inl rfl | exact Or.inr rfl))
    (qs_cons (qs_set (i := 7) sc_met.nd rfl (by first | exact Or.inl rfl | exact Or.inr rfl) (qe_dget2 (hu1 hr) (qb_var 4) (qb_var 6) (qe_lst qa_nil) ⟨rfl, rfl, rfl, rfl⟩))
    (qs_cons (qs_if (qt_cmp ob_gt (qb_of (qe_bin ob_add (qb_of (qe_callB cb_len (by rfl) T.m_len (by decide +kernel) (qab_cons (qb_var 5) qab_nil))) (qb_of (qe_bin ob_mul (qb_of (qe_callB cb_len (by rfl) T.m_len (by decide +kernel) (qab_cons (qb_of (qe_dget (hu1 hr) (qb_var 3) (qb_var 6))) qab_nil))) (qb_of (qe_callB cb_len (by rfl) T.m_len (by decide +kernel) (qab_cons (qb_var 7) qab_nil))))))) (qb_of (qe_con (pe_glob (by rfl) T.g_RESIDUES_MOST T.r_RESIDUES_MOST) (fun _ => by first | exact Rp.int _ | exact Rp.str _ | exact T.d_RESIDUES_MOST _ (by first | assumption | rfl)))) (nomark _))
    (qs_end qs_never)
    qs_nil)
    (qs_end (qs_for PassesOwn.never rfl (qi_seq (h := (qe_dget (hu1 hr) (qb_var 3) (qb_var 6)))) (qg_name (i := 8) sc_met.nd rfl (by first | exact Or.inl rfl | exact Or.inr rfl))
    (qs_end (qs_extend (i := 5) rfl (by first | exact Or.inl rfl | exact Or.inr (Or.inl rfl) | exact Or.inr (Or.inr rfl)) (qe_lc rfl sc_met.nd (own := [("b", 9)]) (qi_seq (h := (qe_var 7))) (blkOk_by (own := [("b", 9)]) (N := N_met) (sc := defScope s_met) (by decide +kernel)) (fun _ _ _ _ _ z hz => (qg_name (i := 9) sc_met.nd rfl (by first | exact Or.inl rfl | exact Or.inr rfl))) (fun _ _ _ _ _ => an_t0) (fun _ _ _ _ _ z hz => (qe_call (ok_both T) hr (by rfl) T.g_both T.f_both.kp T.b_both pass0 (qa_cons (qe_var 8) (qa_cons (qe_ix (qb_var 0) qb_int) (qa_cons (qe_var 9) (qa_cons (qe_ix (qb_var 1) qb_int) qa_nil))))))))))))))
    (qs_end (qs_ret (qe_call (ok_shrunk T) hr (by rfl) T.g_shrunk T.f_shrunk.kp T.b_shrunk pass0 (qa_cons (qe_callF cb_lcm (by rfl) T.g_lcm (qab_cons (qb_of (qe_ix (qb_var 0) qb_int)) (qab_cons (qb_of (qe_ix (qb_var 1) qb_int)) qab_nil))) (qa_cons (qe_callTy cb_tuple (by rfl) T.m_tuple (by decide +kernel) (qab_cons (qb_of (qe_callB cb_sorted (by rfl) T.m_sorted (by decide +kernel) (qab_cons (qb_var 5) qab_nil))) qab_nil)) qa_nil))))))))))) ?_
  intro ds M Q0 h
  unfold p_met at h
  split at h
  · skip
    obtain ⟨as, bs, rfl, rfl, ⟨hp, hq, hl, hc⟩, h⟩ := h
    rename_i p q
    have ha4 : as.length < 4000 := hp.2.2
    have hb4 : bs.length < 4000 := hq.2.2
    have hp9 : p < 1000000000 := hp.2.1
    have hq9 : q < 1000000000 := hq.2.1
    have hP := hp.1
    have hp0 : 0 < p := hP.1
    have hq0 : 0 < q := hq.1.1
    have hQ := hq.1
    have hg := gcdI_pos (n := q) hP.1
    refine sSeq_i fun N1 h1 => ?_
    walk_at "pl"
    rw [gcd_eq]
    refine h1 _ _ ?_
    clear h1
    refine sSeq_i fun N1 h1 => ?_
    walk_at "pl"
    refine ⟨as, rfl, hg, by omega, fun ks hk1 hk2 => h1 _ _ ?_⟩
    clear h1
    refine sSeq_i fun N1 h1 => ?_
    walk_at "pl"
    refine ⟨bs, rfl, hg, by omega, fun ls hl1 hl2 => h1 _ _ ?_⟩
    clear h1
    refine sSeq_i fun N1 h1 => ?_
    walk_at "pl"
    refine h1 _ _ ?_
    clear h1
    refine sSeq_i fun N1 h1 => ?_
    refine sFor_k fun N hN => ?_
    simp only [↓sSeq, ↓sAsg, ↓sRet, ↓sRetN, ↓sIf, ↓sDrop, ↓sNext, ↓sExt, ↓eVar, ↓bVar, ↓bE, ↓eBin, ↓tE, chS_bl, chS_true, chS_false, wipeE_nil, wipeE_cons, ↓sNever, ↓aNil, ↓aCons, ↓aConsB, ↓eLst, ↓iSeq, ↓eDGet, ↓eDGet2, ↓iDic, ↓isDic, ↓kyOf, Option.isSome_some, lk_int, lk_str, ↓gN, ↓eCall, ↓dI2, ↓dAdd, ↓dIx, ↓eB, ↓cLen, ↓cTuple, ↓cSorted, natc0, natc1, natc2, List.findIdx?_cons, List.findIdx?_nil, intsOf_ints, boolsOf_bls, plAnyI, plAnyR, ↓cGcd, ↓cLcm, ↓Sl.val, ↓Ow.toD, ↓stE, ↓tYes', ↓PL.isNon, ↓eC, ↓bC, ↓dMul, ↓dGt, List.getElem?_cons_zero, List.getElem?_cons_succ, List.set_cons_zero, List.set_cons_succ, List.map_cons, List.map_nil, List.length_cons, List.length_nil, List.nil_append, List.cons_append, List.replicate_succ, List.replicate_zero, List.append_nil, atI0, atI1, atI2, atI3, atI4, cmpOk_int, cmpOk_bl, cmpOk_non, deq_int, deq_bl, true_and, and_true, Nat.reduceAdd, Nat.reduceSub, Nat.reduceLeDiff, Nat.reduceLT, Bool.not_eq_true', Bool.false_eq_true, if_false, if_true, decide_eq_true_eq, decide_eq_false_iff_not, Nat.zero_add, Nat.sub_zero, Nat.add_zero, Nat.sub_self, ixN31, ixN32, List.length_map, List.length_set, Int.reduceToNat, Int.reducePow, Int.reduceNeg, Int.reduceAdd, Int.reduceSub, Int.reduceMul, Int.reduceLT, Int.reduceLE, Int.reduceEq, Nat.reduceEqDiff, reduceCtorEq, List.mem_singleton, eq_self, not_true_eq_false, not_false_eq_true, or_true, true_or, cmpOk_lstA, cmpOk_tupA, ckA_lst, ckA_tup, ckAl_nil, ckAl_cons, ckAl_ints, ckAl_rangeL, ck_int, ck_bl, ck_non, ck_strI, cmpOk_str, deq_str, deq_tup, deq_lst, deqA_nil, deqA_cons, deqA_ints, Bool.and_true, Bool.true_and, Bool.and_false, Bool.false_and, decide_true, decide_false, Bool.not_true, Bool.not_false, ↓p_both, ↓p_by_class, ↓p_shrunk, keyD_ints]
    refine hN _ _ _ ?_
    clear hN
    generalize hLD : D.dic (ks.map Sum.inl) (ks.map fun k => .lst ((as.filter fun r => decide (r % gcdI p q = k)).map D.int)) = LD at *
    generalize hRD : D.dic (ls.map Sum.inl) (ls.map fun k => .lst ((bs.filter fun r => decide (r % gcdI p q = k)).map D.int)) = RD at *
    have hlk : ∀ c ∈ ks, lk LD (.int c) = some (.lst ((clsOf (gcdI p q) c as).map D.int)) := fun c hc => by
      rw [← hLD, lk_int, lookD_map hc]
      rfl
    have hrk : ∀ c, ((lk RD (.int c)).getD (.lst [])) = .lst ((clsOf (gcdI p q) c bs).map D.int) := fun c => by
      rw [← hRD, lk_int]
      by_cases hc : c ∈ ls
      · rw [lookD_map hc]
        rfl
      · rw [lookD_map0 hc]
        have : clsOf (gcdI p q) c bs = [] := by
          unfold clsOf
          rw [List.filter_eq_nil_iff]
          intro r hr w
          exact hc ((hl2 c).mpr ⟨r, hr, by simpa using w⟩)
        rw [this]
        rfl
    have hdic : isDic RD = true := by rw [← hRD]; rfl
    have hml : ∀ i, (metL p as q bs (ks.take i)).length ≤ metBnd p as q bs := fun i => metL_bnd hP hQ hk1 hk2 i
    refine loop_i (fun i ρ M1 => M1 = M ∧ ∃ a b c : Sl, ρ = [.va (.tup [.int p, .tup (as.map D.int)]), .va (.tup [.int q, .tup (bs.map D.int)]), .va (.int (gcdI p q)), .va LD, .va RD, .ow (.lst ((metL p as q bs (ks.take i)).map D.int)), a, b, c, .un]) ⟨rfl, _, _, _, rfl⟩ ?_ ?_
    · rintro J hJ i dd ρ M1 hd ⟨rfl, a, b, c, rfl⟩
      obtain ⟨c0, hc0, rfl⟩ := map_get hd
      have hmem : c0 ∈ ks := List.mem_of_getElem? hc0
      have et : ks.take (i + 1) = ks.take i ++ [c0] := by rw [List.take_add_one, hc0]; rfl
      have hl1' := hml (i + 1)
      rw [et, metL_snoc, List.length_append, metB_len] at hl1'
      have hsn := metL_snoc (P := p) (Q := q) (as := as) (bs := bs) (ks := ks.take i) (c := c0)
      rw [← et] at hsn
      walk_at "gn"
      refine sSeq_i fun N2 h2 => ?_
      walk_at "pl"
      rw [hrk]
      refine ⟨hdic, h2 _ _ ?_⟩
      clear h2
      refine sSeq_i fun N2 h2 => ?_
      simp only [↓sSeq, ↓sAsg, ↓sRet, ↓sRetN, ↓sIf, ↓sDrop, ↓sNext, ↓sExt, ↓eVar, ↓bVar, ↓bE, ↓eBin, ↓tE, chS_bl, chS_true, chS_false, wipeE_nil, wipeE_cons, ↓sNever, ↓aNil, ↓aCons, ↓aConsB, ↓eLst, ↓iSeq, ↓eDGet, ↓eDGet2, ↓iDic, ↓isDic, ↓kyOf, Option.isSome_some, lk_int, lk_str, ↓gN, ↓eCall, ↓dI2, ↓dAdd, ↓dIx, ↓eB, ↓cLen, ↓cTuple, ↓cSorted, natc0, natc1, natc2, List.findIdx?_cons, List.findIdx?_nil, intsOf_ints, boolsOf_bls, plAnyI, plAnyR, ↓cGcd, ↓cLcm, ↓Sl.val, ↓Ow.toD, ↓stE, ↓tYes', ↓PL.isNon, ↓eC, ↓bC, ↓dMul, ↓dGt, List.getElem?_cons_zero, List.getElem?_cons_succ, List.set_cons_zero, List.set_cons_succ, List.map_cons, List.map_nil, List.length_cons, List.length_nil, List.nil_append, List.cons_append, List.replicate_succ, List.replicate_zero, List.append_nil, atI0, atI1, atI2, atI3, atI4, cmpOk_int, cmpOk_bl, cmpOk_non, deq_int, deq_bl, true_and, and_true, Nat.reduceAdd, Nat.reduceSub, Nat.reduceLeDiff, Nat.reduceLT, Bool.not_eq_true', Bool.false_eq_true, if_false, if_true, decide_eq_true_eq, decide_eq_false_iff_not, Nat.zero_add, Nat.sub_zero, Nat.add_zero, Nat.sub_self, ixN31, ixN32, List.length_map, List.length_set, Int.reduceToNat, Int.reducePow, Int.reduceNeg, Int.reduceAdd, Int.reduceSub, Int.reduceMul, Int.reduceLT, Int.reduceLE, Int.reduceEq, Nat.reduceEqDiff, reduceCtorEq, List.mem_singleton, eq_self, not_true_eq_false, not_false_eq_true, or_true, true_or, cmpOk_lstA, cmpOk_tupA, ckA_lst, ckA_tup, ckAl_nil, ckAl_cons, ckAl_ints, ckAl_rangeL, ck_int, ck_bl, ck_non, ck_strI, cmpOk_str, deq_str, deq_tup, deq_lst, deqA_nil, deqA_cons, deqA_ints, Bool.and_true, Bool.true_and, Bool.and_false, Bool.false_and, decide_true, decide_false, Bool.not_true, Bool.not_false, ↓p_both, ↓p_by_class, ↓p_shrunk, hlk c0 hmem]
      have hA : (clsOf (gcdI p q) c0 as).length < 4000 := Nat.lt_of_le_of_lt (List.length_filter_le _ _) ha4
      have hB : (clsOf (gcdI p q) c0 bs).length < 4000 := Nat.lt_of_le_of_lt (List.length_filter_le _ _) hb4
      have hAB : ((clsOf (gcdI p q) c0 as).length : Int) * ((clsOf (gcdI p q) c0 bs).length : Int) = (((clsOf (gcdI p q) c0 as).length * (clsOf (gcdI p q) c0 bs).length : Nat) : Int) := (Int.natCast_mul _ _).symm
      have hlt := Nat.lt_of_le_of_lt hl1' hc
      have hF : ∀ x ∈ metL p as q bs (ks.take i), True := fun _ _ => trivial
      generalize hcA : clsOf (gcdI p q) c0 as = A at *
      generalize hcB : clsOf (gcdI p q) c0 bs = B at *
      generalize hcF : metL p as q bs (ks.take i) = F at *
      refine ⟨by walk_at "cs", ?_⟩
      rw [hAB, if_neg (by omega)]
      refine h2 _ _ ?_
      clear h2
      refine sFor_k fun N hN => ?_
      simp only [↓sSeq, ↓sAsg, ↓sRet, ↓sRetN, ↓sIf, ↓sDrop, ↓sNext, ↓sExt, ↓eVar, ↓bVar, ↓bE, ↓eBin, ↓tE, chS_bl, chS_true, chS_false, wipeE_nil, wipeE_cons, ↓sNever, ↓aNil, ↓aCons, ↓aConsB, ↓eLst, ↓iSeq, ↓eDGet, ↓eDGet2, ↓iDic, ↓isDic, ↓kyOf, Option.isSome_some, lk_int, lk_str, ↓gN, ↓eCall, ↓dI2, ↓dAdd, ↓dIx, ↓eB, ↓cLen, ↓cTuple, ↓cSorted, natc0, natc1, natc2, List.findIdx?_cons, List.findIdx?_nil, intsOf_ints, boolsOf_bls, plAnyI, plAnyR, ↓cGcd, ↓cLcm, ↓Sl.val, ↓Ow.toD, ↓stE, ↓tYes', ↓PL.isNon, ↓eC, ↓bC, ↓dMul, ↓dGt, List.getElem?_cons_zero, List.getElem?_cons_succ, List.set_cons_zero, List.set_cons_succ, List.map_cons, List.map_nil, List.length_cons, List.length_nil, List.nil_append, List.cons_append, List.replicate_succ, List.replicate_zero, List.append_nil, atI0, atI1, atI2, atI3, atI4, cmpOk_int, cmpOk_bl, cmpOk_non, deq_int, deq_bl, true_and, and_true, Nat.reduceAdd, Nat.reduceSub, Nat.reduceLeDiff, Nat.reduceLT, Bool.not_eq_true', Bool.false_eq_true, if_false, if_true, decide_eq_true_eq, decide_eq_false_iff_not, Nat.zero_add, Nat.sub_zero, Nat.add_zero, Nat.sub_self, ixN31, ixN32, List.length_map, List.length_set, Int.reduceToNat, Int.reducePow, Int.reduceNeg, Int.reduceAdd, Int.reduceSub, Int.reduceMul, Int.reduceLT, Int.reduceLE, Int.reduceEq, Nat.reduceEqDiff, reduceCtorEq, List.mem_singleton, eq_self, not_true_eq_false, not_false_eq_true, or_true, true_or, cmpOk_lstA, cmpOk_tupA, ckA_lst, ckA_tup, ckAl_nil, ckAl_cons, ckAl_ints, ckAl_rangeL, ck_int, ck_bl, ck_non, ck_strI, cmpOk_str, deq_str, deq_tup, deq_lst, deqA_nil, deqA_cons, deqA_ints, Bool.and_true, Bool.true_and, Bool.and_false, Bool.false_and, decide_true, decide_false, Bool.not_true, Bool.not_false, ↓p_both, ↓p_by_class, ↓p_shrunk, hlk c0 hmem]
      rw [hcA]
      refine hN _ _ _ ?_
      clear hN
      refine loop_i (fun k ρ M2 => M2 = M1 ∧ ∃ c : Sl, ρ = [.va (.tup [.int p, .tup (as.map D.int)]), .va (.tup [.int q, .tup (bs.map D.int)]), .va (.int (gcdI p q)), .va LD, .va RD, .ow (.lst ((F ++ metB p q (A.take k) B).map D.int)), .va (.int c0), .va (.lst (B.map D.int)), c, .un]) ⟨rfl, c, by simp [metB]⟩ ?_ ?_
      · rintro J2 hJ2 k dd ρ M2 hd ⟨rfl, c, rfl⟩
        obtain ⟨a0, ha0, rfl⟩ := map_get hd
        have hak : A.take (k + 1) = A.take k ++ [a0] := by rw [List.take_add_one, ha0]; rfl
        have ham : a0 ∈ clsOf (gcdI p q) c0 as := by rw [hcA]; exact List.mem_of_getElem? ha0
        have hmb : metB p q (A.take (k + 1)) B = metB p q (A.take k) B ++ B.map fun b => crt a0 p b q := by
          rw [hak]
          unfold metB
          rw [List.flatMap_append, List.flatMap_singleton]
        have hlb : (metB p q (A.take (k + 1)) B).length ≤ A.length * B.length := by
          rw [metB_len]
          exact Nat.mul_le_mul_right _ (by rw [List.length_take]; omega)
        rw [hmb, List.length_append, List.length_map] at hlb
        walk_at "gn"
        walk_at "pl"
        refine eLc_fm (crtD a0 p q) (B.map D.int) (fun Q h => by walk_at "pl"; exact h) rfl (by rw [List.length_map]; omega) ?_ ?_
        · intro j d acc J3 hd2 hl2 hJ3
          obtain ⟨b0, hb0, rfl⟩ := map_get hd2
          have hbm : b0 ∈ clsOf (gcdI p q) c0 bs := by rw [hcB]; exact List.mem_of_getElem? hb0
          walk_at "pl"
          refine ⟨⟨by omega, by omega, by omega, by omega⟩, fun r hr => ?_⟩
          have e := crt_eq hP.1 hQ.1 (dvd_of_emod ((cls_mem.mp ham).2.trans (cls_mem.mp hbm).2.symm)) hr
          subst e
          exact ⟨hl2, hJ3⟩
        · rw [crtD_map]
          walk_at "pl"
          refine ⟨by rw [List.length_append]; omega, hJ2 _ _ _ ⟨rfl, .va (.int a0), ?_⟩⟩
          rw [hmb, ← List.append_assoc]
          simp only [List.map_append]
      · rintro ρ M2 ⟨rfl, c, rfl⟩
        rw [List.length_map, List.take_length]
        refine hJ _ _ _ ⟨rfl, .va (.int c0), .va (.lst (B.map D.int)), c, ?_⟩
        rw [hsn]
    · rintro ρ M1 ⟨rfl, a, b, c, rfl⟩
      rw [List.length_map, List.take_length]
      refine h1 _ _ ?_
      clear h1
      walk_at "pl"
      rw [lcm_eq hP.1 hQ.1]
      refine ⟨by omega, fun ms m1 m2 => ?_⟩
      obtain ⟨r1, r2, r3⟩ := metS_of hP hQ hk1 hk2 m1 m2
      have r2 := metS_bnd hP hQ r1 r2
      refine ⟨ms, rfl, ⟨r1, hl, Nat.lt_of_le_of_lt r2 hc⟩, fun P' ns' u1 u2 u3 u4 u5 => h P' ns' u1 u2 (fun x => (u3 x).trans (r3 x)) (Nat.le_trans u4 r2) u5⟩
  · exact h.elim

local macro_rules | `(tactic| walk_at "go") => `(tactic| repeat' (first | assumption | with_reducible apply And.intro | walk_at "cs"))
local macro_rules | `(tactic| walk_at "ex") => `(tactic| simp only [List.cons.injEq, Sl.va.injEq, Sl.ow.injEq, Ow.lst.injEq, D.int.injEq, D.bl.injEq, D.str.injEq, D.lst.injEq, D.tup.injEq, true_and, and_true])
local macro_rules | `(tactic| walk_at "gn") => `(tactic| simp only [↓gN, ↓gsNil, ↓gsCons, ↓gT, ↓gSq, List.length_cons, List.length_nil, Nat.reduceAdd, true_and, List.set_cons_zero, List.set_cons_succ])
local macro_rules | `(tactic| walk_at "sp") => `(tactic| repeat' (first | split | with_reducible apply And.intro))
local macro_rules | `(tactic| walk_at "cs") => `(tactic| first | (unfold CMulP; omega) | (unfold CPowP; omega) | (unfold CModP; omega) | (unfold CDivP; omega))
local macro_rules | `(tactic| walk_at "pl") => `(tactic| simp only [↓sSeq, ↓sAsg, ↓sRet, ↓sRetN, ↓sIf, ↓sDrop, ↓sNext, ↓eVar, ↓bVar, ↓bE, ↓eBin, ↓tE, chS_bl, chS_true, chS_false, wipeE_nil, wipeE_cons, ↓sNever, ↓aNil, ↓aCons, ↓aConsB, ↓eSortSet, Option.isSome_some, lk_int, lk_str, ↓eCall, ↓dI2, ↓dAdd, ↓dIx, ↓eB, ↓cLen, ↓cTuple, natc0, natc1, natc2, List.findIdx?_cons, List.findIdx?_nil, intsOf_ints, boolsOf_bls, plAnyI, plAnyR, ↓cLcm, ↓Sl.val, ↓Ow.toD, ↓stE, ↓PL.isNon, ↓eC, ↓bC, ↓dGt, List.getElem?_cons_zero, List.getElem?_cons_succ, List.set_cons_zero, List.set_cons_succ, List.map_cons, List.map_nil, List.length_cons, List.length_nil, List.nil_append, List.cons_append, List.replicate_succ, List.replicate_zero, List.append_nil, atI0, atI1, atI2, atI3, atI4, cmpOk_int, cmpOk_bl, cmpOk_non, deq_int, deq_bl, true_and, and_true, Nat.reduceAdd, Nat.reduceSub, Nat.reduceLeDiff, Nat.reduceLT, Bool.not_eq_true', Bool.false_eq_true, if_false, if_true, decide_eq_true_eq, decide_eq_false_iff_not, Nat.zero_add, Nat.sub_zero, Nat.add_zero, Nat.sub_self, ixN31, ixN32, List.length_map, List.length_set, Int.reduceToNat, Int.reducePow, Int.reduceNeg, Int.reduceAdd, Int.reduceSub, Int.reduceMul, Int.reduceLT, Int.reduceLE, Int.reduceEq, Nat.reduceEqDiff, reduceCtorEq, List.mem_singleton, eq_self, not_true_eq_false, not_false_eq_true, or_true, true_or, cmpOk_lstA, cmpOk_tupA, ckA_lst, ckA_tup, ckAl_nil, ckAl_cons, ckAl_ints, ckAl_rangeL, ck_int, ck_bl, ck_non, ck_strI, cmpOk_str, deq_str, deq_tup, deq_lst, deqA_nil, deqA_cons, deqA_ints, Bool.and_true, Bool.true_and, Bool.and_false, Bool.false_and, decide_true, decide_false, Bool.not_true, Bool.not_false, ↓p_shrunk, ↓p_spread])
theorem ok_joined (T : TF K mg) : FnOk P w K mg base CX0 3 T.a_joined T.x_joined ["first", "second"] (liP K p_joined) := by
  refine fn_P T.f_joined sc_joined (by intro ds M Q E h; unfold p_joined at h; split at h <;> first | rfl | exact h.elim) (fun cdv A outer s H E z hz hr => (qs_cons (qs_set (i := 2) sc_joined.nd rfl (by first | exact Or.inl rfl | exact Or.inr rfl) (qe_callF cb_lcm (by rfl) T.g_lcm (qab_cons (qb_of (qe_ix (qb_var 0) qb_int)) (qab_cons (qb_of (qe_ix (qb_var 1) qb_int)) qab_nil))))
    (qs_cons (qs_set (i := 3) sc_joined.nd rfl (by first | exact Or.inl rfl | exact Or.inr rfl) (qe_sortSet rfl (by rfl) T.m_sorted (by rfl) T.m_set (qb_of (qe_bin ob_add (qb_of (qe_call (ok_spread T) (hr.mono (by decide)) (by rfl) T.g_spread T.f_spread.kp T.b_spread pass0 (qa_cons (qe_ix (qb_var 0) qb_int) (qa_cons (qe_ix (qb_var 0) qb_int) (qa_cons (qe_var 2) qa_nil))))) (qb_of (qe_call (ok_spread T) (hr.mono (by decide)) (by rfl) T.g_spread T.f_spread.kp T.b_spread pass0 (qa_cons (qe_ix (qb_var 1) qb_int) (qa_cons (qe_ix (qb_var 1) qb_int) (qa_cons (qe_var 2) qa_nil)))))))))
    (qs_cons (qs_if (qt_cmp ob_gt (qb_of (qe_callB cb_len (by rfl) T.m_len (by decide +kernel) (qab_cons (qb_var 3) qab_nil))) (qb_of (qe_con (pe_glob (by rfl) T.g_RESIDUES_MOST T.r_RESIDUES_MOST) (fun _ => by first | exact Rp.int _ | exact Rp.str _ | exact T.d_RESIDUES_MOST _ (by first | assumption | rfl)))) (nomark _))
    (qs_end qs_never)
    qs_nil)
    (qs_end (qs_ret (qe_call (ok_shrunk T) hr (by rfl) T.g_shrunk T.f_shrunk.kp T.b_shrunk pass0 (qa_cons (qe_var 2) (qa_cons (qe_callTy cb_tuple (by rfl) T.m_tuple (by decide +kernel) (qab_cons (qb_var 3) qab_nil)) qa_nil))))))))) ?_
  intro ds M Q0 h
  unfold p_joined at h
  split at h
  · skip
    obtain ⟨as, bs, rfl, rfl, ⟨hp, hq, hl, hc⟩, h⟩ := h
    rename_i p q
    have ha4 : as.length < 4000 := hp.2.2
    have hb4 : bs.length < 4000 := hq.2.2
    have hp9 : p < 1000000000 := hp.2.1
    have hq9 : q < 1000000000 := hq.2.1
    have hP := hp.1
    have hp0 : 0 < p := hP.1
    have hq0 : 0 < q := hq.1.1
    have hQ := hq.1
    have hg := gcdI_pos (n := q) hP.1
    refine sSeq_i fun N1 h1 => ?_
    walk_at "pl"
    rw [lcm_eq hP.1 hQ.1]
    have hL := lcmI_pos (m := p) (n := q) hp0 hq0
    have hdiv : 0 ≤ lcmI p q / p := Int.ediv_nonneg (by omega) (by omega)
    have hdiv2 : 0 ≤ lcmI p q / q := Int.ediv_nonneg (by omega) (by omega)
    refine ⟨by omega, h1 _ _ ?_⟩
    clear h1
    refine sSeq_i fun N1 h1 => ?_
    walk_at "pl"
    have hsm := fun x => spread_mem (x := x) hP lcmI_l hL
    have hsl : (spreadL p as (lcmI p q / p).toNat).length = (lcmI p q / p).toNat * as.length := spreadL_len
    have hsi : ((spreadL p as (lcmI p q / p).toNat).length : Int) = lcmI p q / p * as.length := by rw [hsl, Int.natCast_mul, Int.toNat_of_nonneg hdiv]
    have htm := fun x => spread_mem (x := x) hQ (lcmI_r hp0) hL
    have htl : (spreadL q bs (lcmI p q / q).toNat).length = (lcmI p q / q).toNat * bs.length := spreadL_len
    have hti : ((spreadL q bs (lcmI p q / q).toNat).length : Int) = lcmI p q / q * bs.length := by rw [htl, Int.natCast_mul, Int.toNat_of_nonneg hdiv2]
    refine ⟨as, rfl, ⟨by omega, by omega, by omega, by omega, by omega⟩, bs, rfl, ⟨by omega, by omega, by omega, by omega, by omega⟩, by omega, _, .inr (by rw [← List.map_append]), by rw [List.length_append]; omega, fun ms m1 m2 => h1 _ _ ?_⟩
    clear h1
    have hmem : ∀ x, x ∈ ms ↔ 0 ≤ x ∧ x < lcmI p q ∧ (x % p ∈ as ∨ x % q ∈ bs) := fun x => by
      rw [m2, List.mem_append, hsm, htm]
      constructor
      · rintro (w | w)
        · exact ⟨w.1, w.2.1, .inl w.2.2⟩
        · exact ⟨w.1, w.2.1, .inr w.2.2⟩
      · rintro ⟨w1, w2, w3 | w3⟩
        · exact .inl ⟨w1, w2, w3⟩
        · exact .inr ⟨w1, w2, w3⟩
    have hml := len_of_sub (as := ms) (m1.imp fun {a b} h => by omega) fun x hx => (m2 x).mp hx
    rw [List.length_append] at hml
    refine sSeq_i fun N1 h1 => ?_
    walk_at "pl"
    rw [if_neg (by omega)]
    refine h1 _ _ ?_
    clear h1
    walk_at "pl"
    refine ⟨ms, rfl, ⟨⟨hL, m1, fun r hr => ⟨((hmem r).mp hr).1, ((hmem r).mp hr).2.1⟩⟩, hl, by show ms.length < 4000; omega⟩, fun P' ns' u1 u2 u3 u4 u5 => h P' ns' u1 u2 (fun x => ?_) (by omega) u5⟩
    rw [u3, hmem, emodL, emodR hp0]
    have := Int.emod_nonneg x (show lcmI p q ≠ 0 by omega)
    have := Int.emod_lt_of_pos x hL
    constructor
    · exact fun w => w.2.2
    · exact fun w => ⟨by omega, by omega, w⟩
  · exact h.elim

local macro_rules | `(tactic| walk_at "go") => `(tactic| repeat' (first | assumption | with_reducible apply And.intro | walk_at "cs"))
local macro_rules | `(tactic| walk_at "ex") => `(tactic| simp only [List.cons.injEq, Sl.va.injEq, Sl.ow.injEq, Ow.lst.injEq, D.int.injEq, D.bl.injEq, D.str.injEq, D.lst.injEq, D.tup.injEq, true_and, and_true])
local macro_rules | `(tactic| walk_at "gn") => `(tactic| simp only [↓gN, ↓gsNil, ↓gsCons, ↓gT, ↓gSq, List.length_cons, List.length_nil, Nat.reduceAdd, true_and, List.set_cons_zero, List.set_cons_succ])
local macro_rules | `(tactic| walk_at "sp") => `(tactic| repeat' (first | split | with_reducible apply And.intro))
local macro_rules | `(tactic| walk_at "cs") => `(tactic| first | (unfold CMulP; omega) | (unfold CPowP; omega) | (unfold CModP; omega) | (unfold CDivP; omega))
local macro_rules | `(tactic| walk_at "pl") => `(tactic| simp only [↓sSeq, ↓sAsg, ↓sRet, ↓sRetN, ↓sDrop, ↓sNext, ↓eVar, ↓bVar, ↓bE, ↓eBin, ↓tE, chS_bl, chS_true, chS_false, wipeE_nil, wipeE_cons, ↓qNot, ↓aNil, ↓aCons, ↓aConsB, ↓iSeq, Option.isSome_some, lk_int, lk_str, ↓gN, ↓eCall, ↓dIx, ↓eB, ↓cTuple, natc0, natc1, natc2, List.findIdx?_cons, List.findIdx?_nil, intsOf_ints, boolsOf_bls, plAnyI, plAnyR, ↓cLcm, ↓Sl.val, ↓Ow.toD, ↓stE, ↓PL.isNon, ↓bC, List.getElem?_cons_zero, List.getElem?_cons_succ, List.set_cons_zero, List.set_cons_succ, List.map_cons, List.map_nil, List.length_cons, List.length_nil, List.nil_append, List.cons_append, List.replicate_succ, List.replicate_zero, List.append_nil, atI0, atI1, atI2, atI3, atI4, cmpOk_int, cmpOk_bl, cmpOk_non, deq_int, deq_bl, true_and, and_true, Nat.reduceAdd, Nat.reduceSub, Nat.reduceLeDiff, Nat.reduceLT, Bool.not_eq_true', Bool.false_eq_true, if_false, if_true, decide_eq_true_eq, decide_eq_false_iff_not, Nat.zero_add, Nat.sub_zero, Nat.add_zero, Nat.sub_self, ixN31, ixN32, List.length_map, List.length_set, Int.reduceToNat, Int.reducePow, Int.reduceNeg, Int.reduceAdd, Int.reduceSub, Int.reduceMul, Int.reduceLT, Int.reduceLE, Int.reduceEq, Nat.reduceEqDiff, reduceCtorEq, List.mem_singleton, eq_self, not_true_eq_false, not_false_eq_true, or_true, true_or, cmpOk_lstA, cmpOk_tupA, ckA_lst, ckA_tup, ckAl_nil, ckAl_cons, ckAl_ints, ckAl_rangeL, ck_int, ck_bl, ck_non, ck_strI, cmpOk_str, deq_str, deq_tup, deq_lst, deqA_nil, deqA_cons, deqA_ints, Bool.and_true, Bool.true_and, Bool.and_false, Bool.false_and, decide_true, decide_false, Bool.not_true, Bool.not_false, ↓p_has, ↓p_shrunk, ↓p_spread])
theorem ok_without (T : TF K mg) : FnOk P w K mg base CX0 3 T.a_without T.x_without ["first", "second"] (liP K p_without) := by
  refine fn_P T.f_without sc_without (by intro ds M Q E h; unfold p_without at h; split at h <;> first | rfl | exact h.elim) (fun cdv A outer s H E z hz hr => (qs_cons (qs_set (i := 2) sc_without.nd rfl (by first | exact Or.inl rfl | exact Or.inr rfl) (qe_callF cb_lcm (by rfl) T.g_lcm (qab_cons (qb_of (qe_ix (qb_var 0) qb_int)) (qab_cons (qb_of (qe_ix (qb_var 1) qb_int)) qab_nil))))
    (qs_cons (qs_setLc (i := 3) rfl sc_without.nd rfl rfl (sw_true rfl rfl rfl (by decide +kernel)) (own := [("r", 4)]) (qi_seq (h := (qe_call (ok_spread T) (hr.mono (by decide)) (by rfl) T.g_spread T.f_spread.kp T.b_spread pass0 (qa_cons (qe_ix (qb_var 0) qb_int) (qa_cons (qe_ix (qb_var 0) qb_int) (qa_cons (qe_var 2) qa_nil)))))) (blkOk_by (own := [("r", 4)]) (N := N_without) (sc := defScope s_without) (by decide +kernel)) (fun _ _ _ _ _ z hz => (qg_name (i := 4) sc_without.nd rfl (by first | exact Or.inl rfl | exact Or.inr rfl))) (fun _ _ _ _ _ => an_t1 fun z hz => (qt_not (qt_val (qe_call (ok_has T) hr (by rfl) T.g_has T.f_has.kp T.b_has pass0 (qa_cons (qe_ix (qb_var 1) qb_int) (qa_cons (qe_ix (qb_var 1) qb_int) (qa_cons (qe_var 4) qa_nil))))))) (fun _ _ _ _ _ z hz => (qe_var 4)))
    (qs_end (qs_ret (qe_call (ok_shrunk T) hr (by rfl) T.g_shrunk T.f_shrunk.kp T.b_shrunk pass0 (qa_cons (qe_var 2) (qa_cons (qe_callTy cb_tuple (by rfl) T.m_tuple (by decide +kernel) (qab_cons (qb_var 3) qab_nil)) qa_nil)))))))) ?_
  intro ds M Q0 h
  unfold p_without at h
  split at h
  · skip
    obtain ⟨as, bs, rfl, rfl, ⟨hp, hq, hl, hc⟩, h⟩ := h
    rename_i p q
    have ha4 : as.length < 4000 := hp.2.2
    have hb4 : bs.length < 4000 := hq.2.2
    have hp9 : p < 1000000000 := hp.2.1
    have hq9 : q < 1000000000 := hq.2.1
    have hP := hp.1
    have hp0 : 0 < p := hP.1
    have hq0 : 0 < q := hq.1.1
    have hQ := hq.1
    have hg := gcdI_pos (n := q) hP.1
    refine sSeq_i fun N1 h1 => ?_
    walk_at "pl"
    rw [lcm_eq hP.1 hQ.1]
    have hL := lcmI_pos (m := p) (n := q) hp0 hq0
    have hdiv : 0 ≤ lcmI p q / p := Int.ediv_nonneg (by omega) (by omega)
    refine ⟨by omega, h1 _ _ ?_⟩
    clear h1
    refine sSeq_i fun N1 h1 => ?_
    walk_at "pl"
    have hsm := fun x => spread_mem (x := x) hP lcmI_l hL
    have hsl : (spreadL p as (lcmI p q / p).toNat).length = (lcmI p q / p).toNat * as.length := spreadL_len
    have hsi : ((spreadL p as (lcmI p q / p).toNat).length : Int) = lcmI p q / p * as.length := by rw [hsl, Int.natCast_mul, Int.toNat_of_nonneg hdiv]
    have hsa := spreadL_asc hP (t := (lcmI p q / p).toNat)
    generalize hS : spreadL p as (lcmI p q / p).toNat = S at *
    refine eLc_k fun N hN => ?_
    walk_at "pl"
    refine ⟨as, rfl, ⟨by omega, by omega, by omega, by omega, by omega⟩, hN _ _ _ ?_⟩
    clear hN
    rw [hS]
    refine eLc_fm (pickI fun x => ¬ x % q ∈ bs) (S.map D.int) (fun Q h => h) rfl (by rw [List.length_map]; omega) ?_ ?_
    · intro i d acc J hd hl2 hJ
      obtain ⟨v, rfl, _⟩ := ints_get hd
      walk_at "pl"
      refine ⟨bs, rfl, hq.1.2.1, hq0, ?_⟩
      have := pickI_J hl2 hJ
      simpa using this
    rw [pickI_map]
    walk_at "pl"
    refine h1 _ _ ?_
    clear h1
    walk_at "pl"
    have hKl : (S.filter fun x => decide ¬ x % q ∈ bs).length ≤ S.length := List.length_filter_le _ _
    have hmem : ∀ x, x ∈ (S.filter fun x => decide ¬ x % q ∈ bs) ↔ (0 ≤ x ∧ x < lcmI p q ∧ x % p ∈ as) ∧ ¬ x % q ∈ bs := fun x => by
      rw [List.mem_filter, hsm]
      simp
    refine ⟨_, rfl, ⟨⟨hL, asc_filter hsa, fun r hr => ⟨((hmem r).mp hr).1.1, ((hmem r).mp hr).1.2.1⟩⟩, hl, by show (S.filter fun x => decide ¬ x % q ∈ bs).length < 4000; omega⟩, fun P' ns' u1 u2 u3 u4 u5 => h P' ns' u1 u2 (fun x => ?_) (by omega) u5⟩
    rw [u3, hmem, emodL, emodR hp0]
    have := Int.emod_nonneg x (show lcmI p q ≠ 0 by omega)
    have := Int.emod_lt_of_pos x hL
    constructor
    · exact fun w => ⟨w.1.2.2, w.2⟩
    · exact fun w => ⟨⟨by omega, by omega, w.1⟩, w.2⟩
  · exact h.elim

local macro_rules | `(tactic| walk_at "go") => `(tactic| repeat' (first | assumption | with_reducible apply And.intro | walk_at "cs"))
local macro_rules | `(tactic| walk_at "ex") => `(tactic| simp only [List.cons.injEq, Sl.va.injEq, Sl.ow.injEq, Ow.lst.injEq, D.int.injEq, D.bl.injEq, D.str.injEq, D.lst.injEq, D.tup.injEq, true_and, and_true])
local macro_rules | `(tactic| walk_at "gn") => `(tactic| simp only [↓gN, ↓gsNil, ↓gsCons, ↓gT, ↓gSq, List.length_cons, List.length_nil, Nat.reduceAdd, true_and, List.set_cons_zero, List.set_cons_succ])
local macro_rules | `(tactic| walk_at "sp") => `(tactic| repeat' (first | split | with_reducible apply And.intro))
local macro_rules | `(tactic| walk_at "cs") => `(tactic| first | (unfold CMulP; omega) | (unfold CPowP; omega) | (unfold CModP; omega) | (unfold CDivP; omega))
local macro_rules | `(tactic| walk_at "pl") => `(tactic| simp only [↓sSeq, ↓sAsg, ↓sRet, ↓sRetN, ↓sIf, ↓sDrop, ↓sNext, ↓sTgt, ↓sApp, ↓eVar, ↓bVar, ↓bE, ↓eBin, ↓tE, chS_bl, chS_true, chS_false, wipeE_nil, wipeE_cons, ↓eUn, ↓qOr, ↓aNil, ↓aCons, ↓aConsB, ↓eTup, ↓eLst, ↓iSeq, Option.isSome_some, lk_int, lk_str, ↓gN, ↓gsNil, ↓gsCons, ↓eCall, ↓dEq, ↓dNe, ↓dIx, ↓oNone, ↓oSome, ↓eSl, ↓eB, ↓cLen, ↓cTuple, ↓gSq, natc0, natc1, natc2, List.findIdx?_cons, List.findIdx?_nil, intsOf_ints, boolsOf_bls, plAnyI, plAnyR, ↓Sl.val, ↓Ow.toD, ↓stE, ↓PL.isNon, ↓bC, List.getElem?_cons_zero, List.getElem?_cons_succ, List.set_cons_zero, List.set_cons_succ, List.map_cons, List.map_nil, List.length_cons, List.length_nil, List.nil_append, List.cons_append, List.replicate_succ, List.replicate_zero, List.append_nil, atI0, atI1, atI2, atI3, atI4, cmpOk_int, cmpOk_bl, cmpOk_non, deq_int, deq_bl, true_and, and_true, Nat.reduceAdd, Nat.reduceSub, Nat.reduceLeDiff, Nat.reduceLT, Bool.not_eq_true', Bool.false_eq_true, if_false, if_true, decide_eq_true_eq, decide_eq_false_iff_not, Nat.zero_add, Nat.sub_zero, Nat.add_zero, Nat.sub_self, ixN31, ixN32, List.length_map, List.length_set, Int.reduceToNat, Int.reducePow, Int.reduceNeg, Int.reduceAdd, Int.reduceSub, Int.reduceMul, Int.reduceLT, Int.reduceLE, Int.reduceEq, Nat.reduceEqDiff, reduceCtorEq, List.mem_singleton, eq_self, not_true_eq_false, not_false_eq_true, or_true, true_or, cmpOk_lstA, cmpOk_tupA, ckA_lst, ckA_tup, ckAl_nil, ckAl_cons, ckAl_ints, ckAl_rangeL, ck_int, ck_bl, ck_non, ck_strI, cmpOk_str, deq_str, deq_tup, deq_lst, deqA_nil, deqA_cons, deqA_ints, Bool.and_true, Bool.true_and, Bool.and_false, Bool.false_and, decide_true, decide_false, Bool.not_true, Bool.not_false, ↓p_shrunk])
theorem ok_tidied (T : TF K mg) : FnOk P w K mg base CX0 3 T.a_tidied T.x_tidied ["pieces"] (liP K p_tidied) := by
  refine fn_P T.f_tidied sc_tidied (by intro ds M Q E h; unfold p_tidied at h; split at h <;> first | rfl | exact h.elim) (fun cdv A outer s H E z hz hr => (qs_cons (qs_set (i := 1) sc_tidied.nd rfl (by first | exact Or.inl rfl | exact Or.inr rfl) (qe_lst qa_nil))
    (qs_cons (qs_for PassesOwn.never rfl (qi_seq (h := (qe_var 0))) (qg_seq (n := 3) rfl (qgs_cons (qg_name (i := 2) sc_tidied.nd rfl (by first | exact Or.inl rfl | exact Or.inr rfl)) (qgs_cons (qg_name (i := 3) sc_tidied.nd rfl (by first | exact Or.inl rfl | exact Or.inr rfl)) (qgs_cons (qg_name (i := 4) sc_tidied.nd rfl (by first | exact Or.inl rfl | exact Or.inr rfl)) qgs_nil))))
    (qs_cons (qs_asg (qe_call (ok_shrunk T) hr (by rfl) T.g_shrunk T.f_shrunk.kp T.b_shrunk pass0 (qa_cons (qe_var 3) (qa_cons (qe_var 4) qa_nil))) (qg_seq (n := 2) rfl (qgs_cons (qg_name (i := 3) sc_tidied.nd rfl (by first | exact Or.inl rfl | exact Or.inr rfl)) (qgs_cons (qg_name (i := 4) sc_tidied.nd rfl (by first | exact Or.inl rfl | exact Or.inr rfl)) qgs_nil))))
    (qs_end (qs_if (PW.pt (qw_or (qt_cmp (ob_eq (hu64 hr)) (qb_of (qe_callB cb_len (by rfl) T.m_len (by decide +kernel) (qab_cons (qb_var 1) qab_nil))) qb_int (nomark _)) (qw_or1 (qt_cmp (ob_ne (hu64 hr)) (qb_of (qe_slice (qb_of (qe_ix (qb_var 1) (qb_of (qe_un ub_neg qb_int)))) (qo_some qb_int) qo_none)) (qb_of (qe_tup (qa_cons (qe_var 3) (qa_cons (qe_var 4) qa_nil)))) (nomark _)))))
    (qs_end (qs_append (i := 1) rfl (by first | exact Or.inl rfl | exact Or.inr (Or.inl rfl) | exact Or.inr (Or.inr rfl)) (qe_tup (qa_cons (qe_var 2) (qa_cons (qe_var 3) (qa_cons (qe_var 4) qa_nil))))))
    qs_nil))))
    (qs_end (qs_ret (qe_callTy cb_tuple (by rfl) T.m_tuple (by decide +kernel) (qab_cons (qb_var 1) qab_nil))))))) ?_
  intro ds M Q0 h
  unfold p_tidied at h
  split at h
  · skip
    obtain ⟨ps, rfl, ⟨hp, hlen⟩, h⟩ := h
    refine sSeq_i fun N1 h1 => ?_
    walk_at "pl"
    refine h1 _ _ ?_
    clear h1
    refine sSeq_i fun N1 h1 => ?_
    refine sFor_k fun N hN => ?_
    walk_at "pl"
    refine hN _ _ _ ?_
    clear hN
    refine loop_i (fun i ρ M1 => M1 = M ∧ ∃ (fs : List Pc) (a b c : Sl), ρ = [.va (.lst (ps.map pcD)), .ow (.lst (fs.map pcD)), a, b, c] ∧ TdInv (ps.take i) fs) ⟨rfl, [], .un, .un, .un, by simp, TdInv.start⟩ ?_ ?_
    · rintro J hJ i dd ρ M1 hd ⟨e, fs, a, b, c, rfl, hi⟩
      subst e
      rw [List.getElem?_map] at hd
      cases hpi : ps[i]? with
      | none => rw [hpi] at hd; cases hd
      | some p =>
        rw [hpi] at hd
        cases hd
        obtain ⟨s, P, ns⟩ := p
        have hk : KdOk (P, ns) := hp.ok _ (List.mem_of_getElem? hpi)
        have hbl := asc_take hp.asc hpi
        have ht : ps.take (i + 1) = ps.take i ++ [(s, P, ns)] := by rw [List.take_add_one, hpi]; rfl
        rw [show pcD (s, P, ns) = .tup [.int s, .int P, .tup (ns.map D.int)] from rfl]
        walk_at "pl"
        refine ⟨ns, rfl, hk, fun P' ns' r1 r2 r3 r4 r5 => ?_⟩
        have hk2 : KdOk (P', ns') := ⟨r1, by have := hk.2.1; show P' < _; have : P < 1000000000 := this; omega, by have := hk.2.2; show ns'.length < _; have : ns.length < 4000 := this; omega⟩
        have hfl := hi.len
        rw [List.length_take] at hfl
        have add : (∀ gs l, fs = gs ++ [l] → l.2 ≠ (P', ns')) → J (i + 1) [.va (.lst (ps.map pcD)), .ow (.lst (fs.map pcD ++ [.tup [.int s, .int P', .tup (ns'.map D.int)]])), .va (.int s), .va (.int P'), .va (.tup (ns'.map D.int))] M1 := fun w => by
          refine hJ _ _ _ ⟨rfl, fs ++ [(s, P', ns')], .va (.int s), .va (.int P'), .va (.tup (ns'.map D.int)), ?_, ?_⟩
          · simp [pcD]
          · rw [ht]
            exact hi.add hbl hk2 r5 r3 w r2 r4
        rcases List.eq_nil_or_concat fs with rfl | ⟨gs, l, e⟩
        · walk_at "pl"
          exact add fun gs l e => by simp at e
        · rw [List.concat_eq_append] at e
          subst e
          obtain ⟨sl, Pl, nl⟩ := l
          rw [if_neg (by simp; omega), List.map_append, List.map_cons, List.map_nil, atI_snoc, show pcD (sl, Pl, nl) = .tup [.int sl, .int Pl, .tup (nl.map D.int)] from rfl]
          simp only [↓sSeq, ↓sAsg, ↓sRet, ↓sRetN, ↓sIf, ↓sDrop, ↓sNext, ↓sTgt, ↓sApp, ↓eVar, ↓bVar, ↓bE, ↓eBin, ↓tE, chS_bl, chS_true, chS_false, wipeE_nil, wipeE_cons, ↓eUn, ↓qOr, ↓aNil, ↓aCons, ↓aConsB, ↓eTup, ↓eLst, ↓iSeq, Option.isSome_some, lk_int, lk_str, ↓gN, ↓gsNil, ↓gsCons, ↓eCall, ↓dEq, ↓dNe, ↓dIx, ↓oNone, ↓oSome, ↓eSl, ↓eB, ↓cLen, ↓cTuple, ↓gSq, natc0, natc1, natc2, List.findIdx?_cons, List.findIdx?_nil, intsOf_ints, boolsOf_bls, plAnyI, plAnyR, ↓Sl.val, ↓Ow.toD, ↓stE, ↓PL.isNon, ↓bC, List.getElem?_cons_zero, List.getElem?_cons_succ, List.set_cons_zero, List.set_cons_succ, List.map_cons, List.map_nil, List.length_cons, List.length_nil, List.nil_append, List.cons_append, List.replicate_succ, List.replicate_zero, List.append_nil, atI0, atI1, atI2, atI3, atI4, cmpOk_int, cmpOk_bl, cmpOk_non, deq_int, deq_bl, true_and, and_true, Nat.reduceAdd, Nat.reduceSub, Nat.reduceLeDiff, Nat.reduceLT, Bool.not_eq_true', Bool.false_eq_true, if_false, if_true, decide_eq_true_eq, decide_eq_false_iff_not, Nat.zero_add, Nat.sub_zero, Nat.add_zero, Nat.sub_self, ixN31, ixN32, List.length_map, List.length_set, Int.reduceToNat, Int.reducePow, Int.reduceNeg, Int.reduceAdd, Int.reduceSub, Int.reduceMul, Int.reduceLT, Int.reduceLE, Int.reduceEq, Nat.reduceEqDiff, reduceCtorEq, List.mem_singleton, eq_self, not_true_eq_false, not_false_eq_true, or_true, true_or, cmpOk_lstA, cmpOk_tupA, ckA_lst, ckA_tup, ckAl_nil, ckAl_cons, ckAl_ints, ckAl_rangeL, ck_int, ck_bl, ck_non, ck_strI, cmpOk_str, deq_str, deq_tup, deq_lst, deqA_nil, deqA_cons, deqA_ints, Bool.and_true, Bool.true_and, Bool.and_false, Bool.false_and, decide_true, decide_false, Bool.not_true, Bool.not_false, ↓p_shrunk, cutL1]
          by_cases c1 : Pl = P' ∧ nl = ns'
          · obtain ⟨rfl, rfl⟩ := c1
            rw [if_neg (by simp)]
            refine hJ _ _ _ ⟨rfl, gs ++ [(sl, Pl, nl)], .va (.int s), .va (.int Pl), .va (.tup (nl.map D.int)), by simp [pcD], ?_⟩
            rw [ht]
            exact hi.skip hbl r3
          · rw [if_pos (by simpa using c1)]
            rw [List.map_append, List.map_cons, List.map_nil] at add
            refine ⟨by omega, add fun gs2 l e => ?_⟩
            obtain ⟨e1, e2⟩ := List.append_inj' e rfl
            cases e2
            intro e3
            cases e3
            exact c1 ⟨rfl, rfl⟩
    · rintro ρ M1 ⟨e, fs, a, b, c, rfl, hi⟩
      subst e
      rw [List.length_map, List.take_length] at hi
      refine h1 _ _ ?_
      walk_at "pl"
      exact h fs (hi.tidy hp.hd) hi.same hi.len hi.below
  · exact h.elim

local macro_rules | `(tactic| walk_at "go") => `(tactic| repeat' (first | assumption | with_reducible apply And.intro | walk_at "cs"))
local macro_rules | `(tactic| walk_at "ex") => `(tactic| simp only [List.cons.injEq, Sl.va.injEq, Sl.ow.injEq, Ow.lst.injEq, D.int.injEq, D.bl.injEq, D.str.injEq, D.lst.injEq, D.tup.injEq, true_and, and_true])
local macro_rules | `(tactic| walk_at "gn") => `(tactic| simp only [↓gN, ↓gsNil, ↓gsCons, ↓gT, ↓gSq, List.length_cons, List.length_nil, Nat.reduceAdd, true_and, List.set_cons_zero, List.set_cons_succ])
local macro_rules | `(tactic| walk_at "sp") => `(tactic| repeat' (first | split | with_reducible apply And.intro))
local macro_rules | `(tactic| walk_at "cs") => `(tactic| first | (unfold CMulP; omega) | (unfold CPowP; omega) | (unfold CModP; omega) | (unfold CDivP; omega))
local macro_rules | `(tactic| walk_at "pl") => `(tactic| simp only [↓sSeq, ↓sAsg, ↓sRet, ↓sRetN, ↓sIf, ↓sDrop, ↓sNext, ↓eVar, ↓bVar, ↓bE, ↓eBin, ↓tE, chS_bl, chS_true, chS_false, wipeE_nil, wipeE_cons, ↓qAnd, ↓qOr, ↓aNil, ↓aCons, ↓aConsB, ↓iSeq, Option.isSome_some, lk_int, lk_str, ↓gN, ↓gsNil, ↓gsCons, ↓eCall, ↓dI2, ↓dIsN, ↓dIx, ↓eB, ↓cLen, ↓cMax2, ↓gSq, natc0, natc1, natc2, List.findIdx?_cons, List.findIdx?_nil, intsOf_ints, boolsOf_bls, plAnyI, plAnyR, ↓Sl.val, ↓Ow.toD, ↓stE, ↓PL.isNon, ↓eC, ↓bC, ↓dLt, ↓dGt, List.getElem?_cons_zero, List.getElem?_cons_succ, List.set_cons_zero, List.set_cons_succ, List.map_cons, List.map_nil, List.length_cons, List.length_nil, List.nil_append, List.cons_append, List.replicate_succ, List.replicate_zero, List.append_nil, atI0, atI1, atI2, atI3, atI4, cmpOk_int, cmpOk_bl, cmpOk_non, deq_int, deq_bl, true_and, and_true, Nat.reduceAdd, Nat.reduceSub, Nat.reduceLeDiff, Nat.reduceLT, Bool.not_eq_true', Bool.false_eq_true, if_false, if_true, decide_eq_true_eq, decide_eq_false_iff_not, Nat.zero_add, Nat.sub_zero, Nat.add_zero, Nat.sub_self, ixN31, ixN32, List.length_map, List.length_set, Int.reduceToNat, Int.reducePow, Int.reduceNeg, Int.reduceAdd, Int.reduceSub, Int.reduceMul, Int.reduceLT, Int.reduceLE, Int.reduceEq, Nat.reduceEqDiff, reduceCtorEq, List.mem_singleton, eq_self, not_true_eq_false, not_false_eq_true, or_true, true_or, cmpOk_lstA, cmpOk_tupA, ckA_lst, ckA_tup, ckAl_nil, ckAl_cons, ckAl_ints, ckAl_rangeL, ck_int, ck_bl, ck_non, ck_strI, cmpOk_str, deq_str, deq_tup, deq_lst, deqA_nil, deqA_cons, deqA_ints, Bool.and_true, Bool.true_and, Bool.and_false, Bool.false_and, decide_true, decide_false, Bool.not_true, Bool.not_false, ↓p_first_from, ↓p_windows])
theorem ok_next_from (T : TF K mg) : FnOk P w K mg base CX0 3 T.a_next_from T.x_next_from ["pattern", "day"] (liP K p_next_from) := by
  refine fn_P T.f_next_from sc_next_from (by intro ds M Q E h; unfold p_next_from at h; split at h <;> first | rfl | exact h.elim) (fun cdv A outer s H E z hz hr => (qs_cons (qs_for PassesOwn.never rfl (qi_seq (h := (qe_call (ok_windows T) (hr.mono (by decide)) (by rfl) T.g_windows T.f_windows.kp T.b_windows pass0 (qa_cons (qe_var 0) qa_nil)))) (qg_seq (n := 3) rfl (qgs_cons (qg_name (i := 2) sc_next_from.nd rfl (by first | exact Or.inl rfl | exact Or.inr rfl)) (qgs_cons (qg_name (i := 3) sc_next_from.nd rfl (by first | exact Or.inl rfl | exact Or.inr rfl)) (qgs_cons (qg_name (i := 4) sc_next_from.nd rfl (by first | exact Or.inl rfl | exact Or.inr rfl)) qgs_nil))))
    (qs_end (qs_if (PW.pt (qw_and (qt_cmp ob_gt (qb_of (qe_callB cb_len (by rfl) T.m_len (by decide +kernel) (qab_cons (qb_of (qe_ix (qb_var 4) qb_int)) qab_nil))) qb_int (nomark _)) (qw_and1 (PW.pt (qw_or (qt_cmp ob_isN (qb_var 3) qb_non (nomark _)) (qw_or1 (qt_cmp ob_gt (qb_var 3) (qb_var 1) (nomark _))))))))
    (qs_cons (qs_set (i := 5) sc_next_from.nd rfl (by first | exact Or.inl rfl | exact Or.inr rfl) (qe_call (ok_first_from T) hr (by rfl) T.g_first_from T.f_first_from.kp T.b_first_from pass0 (qa_cons (qe_ix (qb_var 4) qb_int) (qa_cons (qe_ix (qb_var 4) qb_int) (qa_cons (qe_callB (cb_max2 rfl) (by rfl) T.m_max (by decide +kernel) (qab_cons (qb_var 2) (qab_cons (qb_var 1) qab_nil))) qa_nil)))))
    (qs_end (qs_if (PW.pt (qw_or (qt_cmp ob_isN (qb_var 3) qb_non (nomark _)) (qw_or1 (qt_cmp ob_lt (qb_var 5) (qb_var 3) (nomark _)))))
    (qs_end (qs_ret (qe_var 5)))
    qs_nil)))
    qs_nil)))
    (qs_end (qs_ret qe_non)))) ?_
  intro ds M Q0 h
  unfold p_next_from at h
  split at h
  · skip
    obtain ⟨ps, rfl, ⟨hp, hl⟩, h⟩ := h
    rename_i day
    refine sSeq_i fun N1 h1 => ?_
    refine sFor_k fun N hN => ?_
    walk_at "pl"
    refine ⟨ps, rfl, hl, hN _ _ _ ?_⟩
    clear hN
    refine loop_i (fun i ρ M1 => M1 = M ∧ (∀ x, day ≤ x → (∀ q, ps[i]? = some q → x < q.1) → patB ps x = false) ∧ ∃ a b c d : Sl, ρ = [.va (.tup (ps.map pcD)), .va (.int day), a, b, c, d]) ⟨rfl, ?_, .un, .un, .un, .un, rfl⟩ ?_ ?_
    · intro x _ hx
      obtain ⟨k, r, e⟩ := hp.hd
      exact patB_neg hp (hx (0, k) (by rw [e]; rfl))
    · rintro J hJ i dd ρ M1 hd ⟨e, hno, a, b, c, d, rfl⟩
      subst e
      obtain ⟨s, P, ns, hi, hd⟩ := winD_get hd
      have hk : KdOk (P, ns) := hp.ok _ (List.mem_of_getElem? hi)
      have hs0 : 0 ≤ s := hp.nn _ (List.mem_of_getElem? hi)
      have hk1 : Res P ns := hk.1
      have hk2 : P < 1000000000 := hk.2.1
      have hk3 : ns.length < 4000 := hk.2.2
      have hP := hk1.1
      have hno : ∀ x, day ≤ x → x < s → patB ps x = false := fun x h1 h2 => hno x h1 fun q hq => by rw [hi] at hq; cases hq; exact h2
      rcases hd with ⟨q, hq, rfl⟩ | ⟨hi1, hq, rfl⟩
      · have hsq : s < q.1 := hp.next hi hq
        have hwin : ∀ x, s ≤ x → x < q.1 → patB ps x = inP P ns x := fun x h1 h2 => hp.win hi h1 fun q' hq' => by rw [hq] at hq'; cases hq'; exact h2
        have hnil : ns.length = 0 → ∀ x, s ≤ x → x < q.1 → patB ps x = false := fun hn x h1 h2 => by
          rw [hwin x h1 h2, List.eq_nil_of_length_eq_zero hn]; simp
        have nxt : (∀ x, s ≤ x → x < q.1 → day ≤ x → patB ps x = false) → ∀ b c : Sl, J (i + 1) [.va (.tup (ps.map pcD)), .va (.int day), .va (.int s), .va (.int q.1), b, c] M1 := fun hn b c => by
          refine hJ _ _ _ ⟨rfl, fun x h1 h2 => ?_, _, _, _, _, rfl⟩
          by_cases c1 : x < s
          · exact hno x h1 c1
          · exact hn x (by omega) (h2 q hq) h1
        walk_at "pl"
        by_cases c0 : 0 < (ns.length : Int)
        · rw [if_pos c0]
          by_cases c1 : day < q.1
          · rw [if_pos c1]
            refine ⟨ns, rfl, hk1.2.1, ⟨hP, by omega⟩, ?_⟩
            obtain ⟨n1, n2, n3, n4⟩ := nextR_spec hk1 (by omega : 0 < ns.length) (if day > s then day else s)
            have hm : s ≤ (if day > s then day else s) ∧ day ≤ (if day > s then day else s) ∧ (∀ x, s ≤ x → day ≤ x → (if day > s then day else s) ≤ x) := by
              split <;> exact ⟨by omega, by omega, fun x _ _ => by omega⟩
            generalize (if day > s then day else s) = m at *
            by_cases c2 : nextR P ns m < q.1
            · rw [if_pos c2]
              refine h (some (nextR P ns m)) ⟨by omega, ?_, fun x h1 h2 => ?_⟩
              · rw [hwin _ (by omega) c2]; exact decide_eq_true n2
              · by_cases c3 : x < s
                · exact hno x h1 c3
                · rw [hwin x (by omega) (by omega)]
                  exact decide_eq_false fun w => by have := n4 x (hm.2.2 x (by omega) h1) w; omega
            · rw [if_neg c2]
              refine nxt (fun x h1 h2 h3 => ?_) _ _
              rw [hwin x h1 h2]
              exact decide_eq_false fun w => by have := n4 x (hm.2.2 x h1 h3) w; omega
          · rw [if_neg c1]
            exact nxt (fun x h1 h2 h3 => by omega) _ _
        · rw [if_neg c0]
          exact nxt (fun x h1 h2 h3 => hnil (by omega) x h1 h2) _ _
      · have hwin : ∀ x, s ≤ x → patB ps x = inP P ns x := fun x h1 => hp.win hi h1 fun q' hq' => by rw [hq] at hq'; cases hq'
        walk_at "pl"
        by_cases c0 : 0 < (ns.length : Int)
        · rw [if_pos c0]
          refine ⟨ns, rfl, hk1.2.1, ⟨hP, by omega⟩, ?_⟩
          obtain ⟨n1, n2, n3, n4⟩ := nextR_spec hk1 (by omega : 0 < ns.length) (if day > s then day else s)
          have hm : s ≤ (if day > s then day else s) ∧ day ≤ (if day > s then day else s) ∧ (∀ x, s ≤ x → day ≤ x → (if day > s then day else s) ≤ x) := by
            split <;> exact ⟨by omega, by omega, fun x _ _ => by omega⟩
          generalize (if day > s then day else s) = m at *
          refine h (some (nextR P ns m)) ⟨by omega, ?_, fun x h1 h2 => ?_⟩
          · rw [hwin _ (by omega)]; exact decide_eq_true n2
          · by_cases c3 : x < s
            · exact hno x h1 c3
            · rw [hwin x (by omega)]
              exact decide_eq_false fun w => by have := n4 x (hm.2.2 x (by omega) h1) w; omega
        · rw [if_neg c0]
          refine hJ _ _ _ ⟨rfl, fun x h1 h2 => ?_, _, _, _, _, rfl⟩
          by_cases c1 : x < s
          · exact hno x h1 c1
          · rw [hwin x (by omega), List.eq_nil_of_length_eq_zero (by omega : ns.length = 0)]; simp
    · rintro ρ M1 ⟨e, hno, a, b, c, d, rfl⟩
      subst e
      refine h1 _ _ ?_
      walk_at "pl"
      rw [winD_len] at hno
      exact h none fun x hx => hno x hx fun q hq => by rw [List.getElem?_eq_none (Nat.le_refl _)] at hq; cases hq
  · exact h.elim

local macro_rules | `(tactic| walk_at "go") => `(tactic| repeat' (first | assumption | with_reducible apply And.intro | walk_at "cs"))
local macro_rules | `(tactic| walk_at "ex") => `(tactic| simp only [List.cons.injEq, Sl.va.injEq, Sl.ow.injEq, Ow.lst.injEq, D.int.injEq, D.bl.injEq, D.str.injEq, D.lst.injEq, D.tup.injEq, true_and, and_true])
local macro_rules | `(tactic| walk_at "gn") => `(tactic| simp only [↓gN, ↓gsNil, ↓gsCons, ↓gT, ↓gSq, List.length_cons, List.length_nil, Nat.reduceAdd, true_and, List.set_cons_zero, List.set_cons_succ])
local macro_rules | `(tactic| walk_at "sp") => `(tactic| repeat' (first | split | with_reducible apply And.intro))
local macro_rules | `(tactic| walk_at "cs") => `(tactic| first | (unfold CMulP; omega) | (unfold CPowP; omega) | (unfold CModP; omega) | (unfold CDivP; omega))
local macro_rules | `(tactic| walk_at "pl") => `(tactic| simp only [↓sSeq, ↓sAsg, ↓sRet, ↓sRetN, ↓sIf, ↓sDrop, ↓sAug, ↓sNext, ↓eVar, ↓bVar, ↓bE, ↓eBin, ↓tE, chS_bl, chS_true, chS_false, wipeE_nil, wipeE_cons, ↓qOr, ↓aNil, ↓aCons, ↓aConsB, ↓iSeq, Option.isSome_some, lk_int, lk_str, ↓gN, ↓gsNil, ↓gsCons, ↓eCall, ↓dI2, ↓dAdd, ↓dEq, ↓dIsN, ↓dIx, ↓eB, ↓cLen, ↓gSq, natc0, natc1, natc2, List.findIdx?_cons, List.findIdx?_nil, intsOf_ints, boolsOf_bls, plAnyI, plAnyR, ↓Sl.val, ↓Ow.toD, ↓stE, ↓PL.isNon, ↓eC, ↓bC, ↓dSub, ↓dMul, ↓dDiv, ↓dMod, ↓dLt, List.getElem?_cons_zero, List.getElem?_cons_succ, List.set_cons_zero, List.set_cons_succ, List.map_cons, List.map_nil, List.length_cons, List.length_nil, List.nil_append, List.cons_append, List.replicate_succ, List.replicate_zero, List.append_nil, atI0, atI1, atI2, atI3, atI4, cmpOk_int, cmpOk_bl, cmpOk_non, deq_int, deq_bl, true_and, and_true, Nat.reduceAdd, Nat.reduceSub, Nat.reduceLeDiff, Nat.reduceLT, Bool.not_eq_true', Bool.false_eq_true, if_false, if_true, decide_eq_true_eq, decide_eq_false_iff_not, Nat.zero_add, Nat.sub_zero, Nat.add_zero, Nat.sub_self, ixN31, ixN32, List.length_map, List.length_set, Int.reduceToNat, Int.reducePow, Int.reduceNeg, Int.reduceAdd, Int.reduceSub, Int.reduceMul, Int.reduceLT, Int.reduceLE, Int.reduceEq, Nat.reduceEqDiff, reduceCtorEq, List.mem_singleton, eq_self, not_true_eq_false, not_false_eq_true, or_true, true_or, cmpOk_lstA, cmpOk_tupA, ckA_lst, ckA_tup, ckAl_nil, ckAl_cons, ckAl_ints, ckAl_rangeL, ck_int, ck_bl, ck_non, ck_strI, cmpOk_str, deq_str, deq_tup, deq_lst, deqA_nil, deqA_cons, deqA_ints, Bool.and_true, Bool.true_and, Bool.and_false, Bool.false_and, decide_true, decide_false, Bool.not_true, Bool.not_false, ↓p_many_below, ↓p_windows])
theorem ok_nth_of (T : TF K mg) : FnOk P w K mg base CX0 3 T.a_nth_of T.x_nth_of ["pattern", "k"] (liP K p_nth_of) := by
  refine fn_P T.f_nth_of sc_nth_of (by intro ds M Q E h; unfold p_nth_of at h; split at h <;> first | rfl | exact h.elim) (fun cdv A outer s H E z hz hr => (qs_cons (qs_set (i := 2) sc_nth_of.nd rfl (by first | exact Or.inl rfl | exact Or.inr rfl) (qe_var 1))
    (qs_cons (qs_for PassesOwn.never rfl (qi_seq (h := (qe_call (ok_windows T) (hr.mono (by decide)) (by rfl) T.g_windows T.f_windows.kp T.b_windows pass0 (qa_cons (qe_var 0) qa_nil)))) (qg_seq (n := 3) rfl (qgs_cons (qg_name (i := 3) sc_nth_of.nd rfl (by first | exact Or.inl rfl | exact Or.inr rfl)) (qgs_cons (qg_name (i := 4) sc_nth_of.nd rfl (by first | exact Or.inl rfl | exact Or.inr rfl)) (qgs_cons (qg_name (i := 5) sc_nth_of.nd rfl (by first | exact Or.inl rfl | exact Or.inr rfl)) qgs_nil))))
    (qs_cons (qs_set (i := 6) sc_nth_of.nd rfl (by first | exact Or.inl rfl | exact Or.inr rfl) (qe_call (ok_many_below T) hr (by rfl) T.g_many_below T.f_many_below.kp T.b_many_below pass0 (qa_cons (qe_ix (qb_var 5) qb_int) (qa_cons (qe_ix (qb_var 5) qb_int) (qa_cons (qe_var 3) qa_nil)))))
    (qs_cons (qs_if (PW.pt (qw_or (qt_cmp ob_isN (qb_var 4) qb_non (nomark _)) (qw_or1 (qt_cmp ob_lt (qb_var 2) (qb_of (qe_bin ob_sub (qb_of (qe_call (ok_many_below T) hr (by rfl) T.g_many_below T.f_many_below.kp T.b_many_below pass0 (qa_cons (qe_ix (qb_var 5) qb_int) (qa_cons (qe_ix (qb_var 5) qb_int) (qa_cons (qe_var 4) qa_nil))))) (qb_var 6))) (nomark _)))))
    (qs_cons (qs_if (qt_cmp (ob_eq (hu64 hr)) (qb_of (qe_callB cb_len (by rfl) T.m_len (by decide +kernel) (qab_cons (qb_of (qe_ix (qb_var 5) qb_int)) qab_nil))) qb_int (nomark _))
    (qs_end (qs_ret qe_non))
    qs_nil)
    (qs_cons (qs_set (i := 7) sc_nth_of.nd rfl (by first | exact Or.inl rfl | exact Or.inr rfl) (qe_bin ob_add (qb_var 6) (qb_var 2)))
    (qs_end (qs_ret (qe_bin ob_add (qb_of (qe_bin ob_mul (qb_of (qe_bin ob_div (qb_var 7) (qb_of (qe_callB cb_len (by rfl) T.m_len (by decide +kernel) (qab_cons (qb_of (qe_ix (qb_var 5) qb_int)) qab_nil))))) (qb_of (qe_ix (qb_var 5) qb_int)))) (qb_of (qe_ix (qb_of (qe_ix (qb_var 5) qb_int)) (qb_of (qe_bin ob_mod (qb_var 7) (qb_of (qe_callB cb_len (by rfl) T.m_len (by decide +kernel) (qab_cons (qb_of (qe_ix (qb_var 5) qb_int)) qab_nil))))))))))))
    qs_nil)
    (qs_end (qs_aug (i := 2) sc_nth_of.nd rfl (by first | exact Or.inl rfl | exact Or.inr rfl) (qb_of (qe_bin ob_sub (qb_of (qe_call (ok_many_below T) hr (by rfl) T.g_many_below T.f_many_below.kp T.b_many_below pass0 (qa_cons (qe_ix (qb_var 5) qb_int) (qa_cons (qe_ix (qb_var 5) qb_int) (qa_cons (qe_var 4) qa_nil))))) (qb_var 6))) ib_sub)))))
    (qs_end (qs_ret qe_non))))) ?_
  intro ds M Q0 h
  unfold p_nth_of at h
  split at h
  · skip
    obtain ⟨ps, rfl, ⟨hp, hl, hk0⟩, h⟩ := h
    rename_i k
    refine sSeq_i fun N1 h1 => ?_
    walk_at "pl"
    refine h1 _ _ ?_
    clear h1
    refine sSeq_i fun N1 h1 => ?_
    refine sFor_k fun N hN => ?_
    walk_at "pl"
    refine ⟨ps, rfl, hl, hN _ _ _ ?_⟩
    clear hN
    refine loop_i (fun i ρ M1 => M1 = M ∧ i ≤ ps.length ∧ ∃ (l : Int) (a b c d e : Sl), (∀ p, ps[i]? = some p → 0 ≤ l ∧ l = k - cntF (patB ps) 0 p.1) ∧ (i = ps.length → False) ∧ ρ = [.va (.tup (ps.map pcD)), .va (.int k), .va (.int l), a, b, c, d, e]) ⟨rfl, Nat.zero_le _, k, .un, .un, .un, .un, .un, ?_, ?_, rfl⟩ ?_ ?_
    · intro p hp0
      obtain ⟨k', r, e⟩ := hp.hd
      rw [e] at hp0
      cases hp0
      exact ⟨hk0, by rw [cntF_nil (Int.le_refl _)]; omega⟩
    · intro w; have := hp.pos0; omega
    · rintro J hJ i dd ρ M1 hd ⟨e, hil, l, a, b, c, d, e2, hlI, hne, rfl⟩
      subst e
      obtain ⟨s, P, ns, hi, hd⟩ := winD_get hd
      obtain ⟨hl0, hl1⟩ := hlI _ hi
      have hl1 : l = k - cntF (patB ps) 0 s := hl1
      have hk : KdOk (P, ns) := hp.ok _ (List.mem_of_getElem? hi)
      have hs0 : 0 ≤ s := hp.nn _ (List.mem_of_getElem? hi)
      have hk1 : Res P ns := hk.1
      have hk2 : P < 1000000000 := hk.2.1
      have hk3 : ns.length < 4000 := hk.2.2
      have hP := hk1.1
      rcases hd with ⟨q, hq, rfl⟩ | ⟨hi1, hq, rfl⟩
      · have hsq : s < q.1 := hp.next hi hq
        have hwin : ∀ x, s ≤ x → x < q.1 → patB ps x = inP P ns x := fun x h1 h2 => hp.win hi h1 fun q' hq' => by rw [hq] at hq'; cases hq'; exact h2
        have hcn := fun u (u1 : s ≤ u) (u2 : u ≤ q.1) => win_cnt (f := patB ps) hk1 u1 fun x h1 h2 => hwin x h1 (by omega)
        walk_at "pl"
        refine ⟨ns, rfl, hk1.2.1, ⟨hP, by omega, by omega⟩, ns, rfl, hk1.2.1, ⟨hP, by omega, by omega⟩, ?_⟩
        have hq1 := hcn q.1 (by omega) (by omega)
        have hs2 := cntF_split (f := patB ps) hs0 (show s ≤ q.1 by omega)
        by_cases c1 : l < q.1 / P * ns.length + cntL ns (q.1 % P) - (s / P * ns.length + cntL ns (s % P))
        · rw [if_pos c1]
          by_cases c2 : (ns.length : Int) = 0
          · rw [if_pos c2]
            exfalso
            have hz : cntF (patB ps) s q.1 = 0 := cntF_zero fun x h1 h2 => by rw [hwin x h1 h2, List.eq_nil_of_length_eq_zero (by omega : ns.length = 0)]; simp
            omega
          · rw [if_neg c2]
            generalize hb : s / P * (ns.length : Int) + cntL ns (s % P) = bl at *
            obtain ⟨r, r1, r2, r3⟩ := nth_res hk1 (by omega : 0 < ns.length) (bl + l)
            refine ⟨⟨by omega, by omega⟩, by walk_at "cs", by unfold CModP; omega, ?_⟩
            have hat : atI (ns.map D.int) ((bl + l) % ns.length) = some (.int r) := at_map (Int.emod_nonneg _ (by omega)) r1
            rw [hat]
            dsimp only
            unfold mbL at r3
            generalize (bl + l) / (ns.length : Int) * P + r = x at *
            have mono : ∀ a b : Int, a ≤ b → mbL P ns a ≤ mbL P ns b := fun a b hab => by have := mbL_cnt hk1 hab; have := cntF_nn (f := inP P ns) (a := a) (b := b); omega
            have stp := mbL_step hk1 (d := x)
            rw [if_pos r2] at stp
            unfold mbL at stp mono
            have x1 : s ≤ x := by
              by_cases w : s ≤ x
              · exact w
              · have := mono (x + 1) s (by omega); omega
            have x2 : x < q.1 := by
              by_cases w : x < q.1
              · exact w
              · have := mono q.1 x (by omega); omega
            refine h (some x) ⟨by omega, ?_, ?_⟩
            · rw [hwin x x1 x2]; exact decide_eq_true r2
            · rw [cntF_split hs0 x1, ← hcn x x1 (by omega)]
              omega
        · rw [if_neg c1]
          refine ⟨ns, rfl, hk1.2.1, ⟨hP, by omega, by omega⟩, hJ _ _ _ ⟨rfl, ?_, _, _, _, _, _, _, fun p hp2 => ?_, fun w => ?_, rfl⟩⟩
          · have := (List.getElem?_eq_some_iff.mp hq).1; omega
          · rw [hq] at hp2; cases hp2
            refine ⟨by omega, by omega⟩
          · have := (List.getElem?_eq_some_iff.mp hq).1; omega
      · have hwin : ∀ x, s ≤ x → patB ps x = inP P ns x := fun x h1 => hp.win hi h1 fun q' hq' => by rw [hq] at hq'; cases hq'
        have hcn := fun u (u1 : s ≤ u) => win_cnt (f := patB ps) hk1 u1 fun x h1 h2 => hwin x h1
        walk_at "pl"
        refine ⟨ns, rfl, hk1.2.1, ⟨hP, by omega, by omega⟩, ?_⟩
        by_cases c2 : (ns.length : Int) = 0
        · rw [if_pos c2]
          refine h none fun d => ?_
          by_cases c3 : s ≤ d
          · have hz : cntF (patB ps) s d = 0 := cntF_zero fun x h1 h2 => by rw [hwin x h1, List.eq_nil_of_length_eq_zero (by omega : ns.length = 0)]; simp
            rw [cntF_split hs0 c3]
            omega
          · have := cntF_le (f := patB ps) (a := 0) (show d ≤ s by omega)
            omega
        · rw [if_neg c2]
          generalize hb : s / P * (ns.length : Int) + cntL ns (s % P) = bl at *
          obtain ⟨r, r1, r2, r3⟩ := nth_res hk1 (by omega : 0 < ns.length) (bl + l)
          refine ⟨⟨by omega, by omega⟩, by walk_at "cs", by unfold CModP; omega, ?_⟩
          have hat : atI (ns.map D.int) ((bl + l) % ns.length) = some (.int r) := at_map (Int.emod_nonneg _ (by omega)) r1
          rw [hat]
          dsimp only
          unfold mbL at r3
          generalize (bl + l) / (ns.length : Int) * P + r = x at *
          have mono : ∀ a b : Int, a ≤ b → mbL P ns a ≤ mbL P ns b := fun a b hab => by have := mbL_cnt hk1 hab; have := cntF_nn (f := inP P ns) (a := a) (b := b); omega
          have stp := mbL_step hk1 (d := x)
          rw [if_pos r2] at stp
          unfold mbL at stp mono
          have x1 : s ≤ x := by
            by_cases w : s ≤ x
            · exact w
            · have := mono (x + 1) s (by omega); omega
          refine h (some x) ⟨by omega, ?_, ?_⟩
          · rw [hwin x x1]; exact decide_eq_true r2
          · rw [cntF_split hs0 x1, ← hcn x x1]
            omega
    · rintro ρ M1 ⟨e, hil, l, a, b, c, d, e2, hlI, hne, rfl⟩
      exact (hne winD_len).elim
  · exact h.elim

local macro_rules | `(tactic| walk_at "go") => `(tactic| repeat' (first | assumption | with_reducible apply And.intro | walk_at "cs"))
local macro_rules | `(tactic| walk_at "ex") => `(tactic| simp only [List.cons.injEq, Sl.va.injEq, Sl.ow.injEq, Ow.lst.injEq, D.int.injEq, D.bl.injEq, D.str.injEq, D.lst.injEq, D.tup.injEq, true_and, and_true])
local macro_rules | `(tactic| walk_at "gn") => `(tactic| simp only [↓gN, ↓gsNil, ↓gsCons, ↓gT, ↓gSq, List.length_cons, List.length_nil, Nat.reduceAdd, true_and, List.set_cons_zero, List.set_cons_succ])
local macro_rules | `(tactic| walk_at "sp") => `(tactic| repeat' (first | split | with_reducible apply And.intro))
local macro_rules | `(tactic| walk_at "cs") => `(tactic| first | (unfold CMulP; omega) | (unfold CPowP; omega) | (unfold CModP; omega) | (unfold CDivP; omega))
local macro_rules | `(tactic| walk_at "pl") => `(tactic| simp only [↓sSeq, ↓sAsg, ↓sRet, ↓sRetN, ↓sIf, ↓sDrop, ↓sNext, ↓sApp, ↓eVar, ↓bVar, ↓eMov, ↓bE, ↓eBin, ↓tE, chS_bl, chS_true, chS_false, wipeE_nil, wipeE_cons, ↓aNil, ↓aCons, ↓aConsB, ↓eLst, Option.isSome_some, lk_int, lk_str, ↓eCall, ↓dI2, ↓dAdd, ↓dIx, ↓eB, ↓cLen, natc0, natc1, natc2, List.findIdx?_cons, List.findIdx?_nil, intsOf_ints, boolsOf_bls, plAnyI, plAnyR, ↓Sl.val, ↓Ow.toD, ↓stE, ↓PL.isNon, ↓bC, ↓dLt, ↓dGt, List.getElem?_cons_zero, List.getElem?_cons_succ, List.set_cons_zero, List.set_cons_succ, List.map_cons, List.map_nil, List.length_cons, List.length_nil, List.nil_append, List.cons_append, List.replicate_succ, List.replicate_zero, List.append_nil, atI0, atI1, atI2, atI3, atI4, cmpOk_int, cmpOk_bl, cmpOk_non, deq_int, deq_bl, true_and, and_true, Nat.reduceAdd, Nat.reduceSub, Nat.reduceLeDiff, Nat.reduceLT, Bool.not_eq_true', Bool.false_eq_true, if_false, if_true, decide_eq_true_eq, decide_eq_false_iff_not, Nat.zero_add, Nat.sub_zero, Nat.add_zero, Nat.sub_self, ixN31, ixN32, List.length_map, List.length_set, Int.reduceToNat, Int.reducePow, Int.reduceNeg, Int.reduceAdd, Int.reduceSub, Int.reduceMul, Int.reduceLT, Int.reduceLE, Int.reduceEq, Nat.reduceEqDiff, reduceCtorEq, List.mem_singleton, eq_self, not_true_eq_false, not_false_eq_true, or_true, true_or, cmpOk_lstA, cmpOk_tupA, ckA_lst, ckA_tup, ckAl_nil, ckAl_cons, ckAl_ints, ckAl_rangeL, ck_int, ck_bl, ck_non, ck_strI, cmpOk_str, deq_str, deq_tup, deq_lst, deqA_nil, deqA_cons, deqA_ints, Bool.and_true, Bool.true_and, Bool.and_false, Bool.false_and, decide_true, decide_false, Bool.not_true, Bool.not_false, ↓p_first_from])
theorem ok_within_stretch (T : TF K mg) : FnOk P w K mg base CX0 3 T.a_within_stretch T.x_within_stretch ["start", "end", "kind"] (liP K p_within_stretch) := by
  refine fn_P T.f_within_stretch sc_within_stretch (by intro ds M Q E h; unfold p_within_stretch at h; split at h <;> first | rfl | exact h.elim) (fun cdv A outer s H E z hz hr => (qs_cons (qs_set (i := 3) sc_within_stretch.nd rfl (by first | exact Or.inl rfl | exact Or.inr rfl) (qe_lst qa_nil))
    (qs_cons (qs_if (qt_cmp ob_gt (qb_of (qe_callB cb_len (by rfl) T.m_len (by decide +kernel) (qab_cons (qb_of (qe_ix (qb_var 2) qb_int)) qab_nil))) qb_int (nomark _))
    (qs_cons (qs_set (i := 4) sc_within_stretch.nd rfl (by first | exact Or.inl rfl | exact Or.inr rfl) (qe_call (ok_first_from T) hr (by rfl) T.g_first_from T.f_first_from.kp T.b_first_from pass0 (qa_cons (qe_ix (qb_var 2) qb_int) (qa_cons (qe_ix (qb_var 2) qb_int) (qa_cons (qe_var 0) qa_nil)))))
    (qs_end (qs_while PassesOwn.never (qt_cmp ob_lt (qb_var 4) (qb_var 1) (nomark _))
    (qs_cons (qs_append (i := 3) rfl (by first | exact Or.inl rfl | exact Or.inr (Or.inl rfl) | exact Or.inr (Or.inr rfl)) (qe_var 4))
    (qs_end (qs_set (i := 4) sc_within_stretch.nd rfl (by first | exact Or.inl rfl | exact Or.inr rfl) (qe_call (ok_first_from T) hr (by rfl) T.g_first_from T.f_first_from.kp T.b_first_from pass0 (qa_cons (qe_ix (qb_var 2) qb_int) (qa_cons (qe_ix (qb_var 2) qb_int) (qa_cons (qe_bin ob_add (qb_var 4) qb_int) qa_nil))))))))))
    qs_nil)
    (qs_end (qs_ret (qe_mov 3)))))) ?_
  intro ds M Q0 h
  unfold p_within_stretch at h
  split at h
  · skip
    obtain ⟨as, rfl, ⟨hp, hal, hc⟩, h⟩ := h
    rename_i s e p
    refine sSeq_i fun N1 h1 => ?_
    walk_at "pl"
    refine h1 _ _ ?_
    clear h1
    refine sSeq_i fun N1 h1 => ?_
    refine sIf_k fun N2 h2 => ?_
    walk_at "pl"
    refine h2 _ _ _ ?_
    clear h2
    have hp0 := hp.1
    by_cases c0 : as.length = 0
    · rw [if_neg (by rw [decide_eq_true_iff]; omega)]
      walk_at "pl"
      refine h1 _ _ ?_
      clear h1
      walk_at "pl"
      have e0 : (rgI s e).filter (inR (p, as)) = [] := by
        rw [List.filter_eq_nil_iff, List.eq_nil_of_length_eq_zero c0]
        simp
      rw [e0] at h
      exact h
    rw [if_pos (by rw [decide_eq_true_iff]; omega)]
    refine sSeq_i fun N2 h2 => ?_
    walk_at "pl"
    refine ⟨as, rfl, hp.2.1, ⟨hp0, by omega⟩, h2 _ _ ?_⟩
    clear h2
    obtain ⟨n1, n2, n3, n4⟩ := nextR_spec hp (by omega : 0 < as.length) s
    refine sWhile_i (fun k ρ M2 => M2 = M ∧ ∃ y : Int, k = (e - y).toNat ∧ y % p ∈ as ∧ s ≤ y ∧ ρ = [.va (.int s), .va (.int e), .va (.tup [.int p, .tup (as.map D.int)]), .ow (.lst (((rgI s (min y e)).filter (inR (p, as))).map D.int)), .va (.int y)]) _ ⟨rfl, nextR p as s, rfl, n2, n1, ?_⟩ ?_
    · have : (rgI s (min (nextR p as s) e)).filter (inR (p, as)) = [] := by
        rw [List.filter_eq_nil_iff]
        intro x hx w
        rw [rgI_mem] at hx
        have := n4 x hx.1 (by simpa using w)
        omega
      rw [this]
      rfl
    · rintro k J2 hJ2 ρ M2 ⟨rfl, y, rfl, hy, hsy, rfl⟩
      walk_at "pl"
      by_cases c2 : y < e
      · rw [if_pos c2]
        obtain ⟨k1, k2, k3, k4⟩ := nextR_spec hp (by omega : 0 < as.length) (y + 1)
        have hfy : inR (p, as) y = true := decide_eq_true hy
        have hle := cntF_lt (f := inR (p, as)) (a := s) (b := e) hsy hfy c2
        rw [show min y e = y by omega]
        refine ⟨by unfold cntF at hle hc; omega, as, rfl, hp.2.1, ⟨hp0, by omega⟩, hJ2 _ _ _ ?_ ⟨rfl, nextR p as (y + 1), rfl, k2, by omega, ?_⟩⟩
        · omega
        · rw [show ∀ l : List Int, l.map D.int ++ [D.int y] = (l ++ [y]).map D.int from fun l => by simp, filt_snoc (by omega) hfy]
          have : (rgI s (y + 1)).filter (inR (p, as)) = (rgI s (min (nextR p as (y + 1)) e)).filter (inR (p, as)) := by
            refine filt_ext fun x h1 h2 => ?_
            by_cases c3 : y + 1 ≤ x
            · have := k4 x c3 (by simpa using h2)
              omega
            · omega
          rw [this]
      · rw [if_neg c2, show min y e = e by omega]
        refine h1 _ _ ?_
        clear h1
        walk_at "pl"
        exact h
  · exact h.elim

local macro_rules | `(tactic| walk_at "go") => `(tactic| repeat' (first | assumption | with_reducible apply And.intro | walk_at "cs"))
local macro_rules | `(tactic| walk_at "ex") => `(tactic| simp only [List.cons.injEq, Sl.va.injEq, Sl.ow.injEq, Ow.lst.injEq, D.int.injEq, D.bl.injEq, D.str.injEq, D.lst.injEq, D.tup.injEq, true_and, and_true])
local macro_rules | `(tactic| walk_at "gn") => `(tactic| simp only [↓gN, ↓gsNil, ↓gsCons, ↓gT, ↓gSq, List.length_cons, List.length_nil, Nat.reduceAdd, true_and, List.set_cons_zero, List.set_cons_succ])
local macro_rules | `(tactic| walk_at "sp") => `(tactic| repeat' (first | split | with_reducible apply And.intro))
local macro_rules | `(tactic| walk_at "cs") => `(tactic| first | (unfold CMulP; omega) | (unfold CPowP; omega) | (unfold CModP; omega) | (unfold CDivP; omega))
local macro_rules | `(tactic| walk_at "pl") => `(tactic| simp only [↓sSeq, ↓sRet, ↓sRetN, ↓sIf, ↓sDrop, ↓sNext, ↓sTgt, ↓eVar, ↓bVar, ↓bE, ↓eBin, ↓tE, ↓eChain_eq, chS_bl, chS_true, chS_false, wipeE_nil, wipeE_cons, ↓qOr, ↓qNot, ↓aNil, ↓aCons, Option.isSome_some, lk_int, lk_str, ↓gN, ↓gsNil, ↓gsCons, ↓eCall, ↓dI2, ↓dEq, ↓dIx, ↓gSq, natc0, natc1, natc2, List.findIdx?_cons, List.findIdx?_nil, intsOf_ints, boolsOf_bls, plAnyI, plAnyR, ↓Sl.val, ↓Ow.toD, ↓stE, ↓PL.isNon, ↓eC, ↓bC, ↓dLt, ↓dLe, ↓dGe, List.getElem?_cons_zero, List.getElem?_cons_succ, List.set_cons_zero, List.set_cons_succ, List.map_cons, List.map_nil, List.length_cons, List.length_nil, List.nil_append, List.cons_append, List.replicate_succ, List.replicate_zero, List.append_nil, atI0, atI1, atI2, atI3, atI4, cmpOk_int, cmpOk_bl, cmpOk_non, deq_int, deq_bl, true_and, and_true, Nat.reduceAdd, Nat.reduceSub, Nat.reduceLeDiff, Nat.reduceLT, Bool.not_eq_true', Bool.false_eq_true, if_false, if_true, decide_eq_true_eq, decide_eq_false_iff_not, Nat.zero_add, Nat.sub_zero, Nat.add_zero, Nat.sub_self, ixN31, ixN32, List.length_map, List.length_set, Int.reduceToNat, Int.reducePow, Int.reduceNeg, Int.reduceAdd, Int.reduceSub, Int.reduceMul, Int.reduceLT, Int.reduceLE, Int.reduceEq, Nat.reduceEqDiff, reduceCtorEq, List.mem_singleton, eq_self, not_true_eq_false, not_false_eq_true, or_true, true_or, cmpOk_lstA, cmpOk_tupA, ckA_lst, ckA_tup, ckAl_nil, ckAl_cons, ckAl_ints, ckAl_rangeL, ck_int, ck_bl, ck_non, ck_strI, cmpOk_str, deq_str, deq_tup, deq_lst, deqA_nil, deqA_cons, deqA_ints, Bool.and_true, Bool.true_and, Bool.and_false, Bool.false_and, decide_true, decide_false, Bool.not_true, Bool.not_false, ↓p_picks_fit])
theorem ok_rule_fits (T : TF K mg) : FnOk P w K mg base CX0 3 T.a_rule_fits T.x_rule_fits ["rule"] (liP K p_rule_fits) := by
  refine fn_P T.f_rule_fits sc_rule_fits (by intro ds M Q E h; unfold p_rule_fits at h; split at h <;> first | rfl | exact h.elim) (fun cdv A outer s H E z hz hr => (qs_cons (qs_asg (qe_var 0) (qg_seq (n := 5) rfl (qgs_cons (qg_name (i := 1) sc_rule_fits.nd rfl (by first | exact Or.inl rfl | exact Or.inr rfl)) (qgs_cons (qg_name (i := 2) sc_rule_fits.nd rfl (by first | exact Or.inl rfl | exact Or.inr rfl)) (qgs_cons (qg_name (i := 3) sc_rule_fits.nd rfl (by first | exact Or.inl rfl | exact Or.inr rfl)) (qgs_cons (qg_name (i := 4) sc_rule_fits.nd rfl (by first | exact Or.inl rfl | exact Or.inr rfl)) (qgs_cons (qg_name (i := 5) sc_rule_fits.nd rfl (by first | exact Or.inl rfl | exact Or.inr rfl)) qgs_nil)))))))
    (qs_cons (qs_if (PW.pt (qw_or (qt_not (qt_chain ob_le ob_le qb_int (qb_var 2) (qb_of (qe_con (pe_glob (by rfl) T.g_INTERVAL_MOST T.r_INTERVAL_MOST) (fun _ => by first | exact Rp.int _ | exact Rp.str _ | exact T.d_INTERVAL_MOST _ (by first | assumption | rfl)))))) (qw_or (qt_cmp ob_lt (qb_var 4) qb_int (nomark _)) (qw_or1 (qt_not (qt_val (qe_call (ok_picks_fit T) hr (by rfl) T.g_picks_fit T.f_picks_fit.kp T.b_picks_fit pass0 (qa_cons (qe_var 1) (qa_cons (qe_var 3) qa_nil)))))))))
    (qs_end (qs_ret qe_bl))
    qs_nil)
    (qs_cons (qs_if (qt_cmp (ob_eq (hu64 hr)) (qb_of (qe_ix (qb_var 5) qb_int)) qb_str (nomark _))
    (qs_end (qs_ret (qe_cmp ob_ge (qb_of (qe_ix (qb_var 5) qb_int)) (qb_var 4) (nomark _))))
    qs_nil)
    (qs_cons (qs_if (qt_cmp (ob_eq (hu64 hr)) (qb_of (qe_ix (qb_var 5) qb_int)) qb_str (nomark _))
    (qs_end (qs_ret (qe_chain ob_le ob_le qb_int (qb_of (qe_ix (qb_var 5) qb_int)) (qb_of (qe_con (pe_glob (by rfl) T.g_COUNT_MOST T.r_COUNT_MOST) (fun _ => by first | exact Rp.int _ | exact Rp.str _ | exact T.d_COUNT_MOST _ (by first | assumption | rfl)))))))
    qs_nil)
    (qs_end (qs_ret qe_bl))))))) ?_
  intro ds M Q0 h
  unfold p_rule_fits at h
  split at h
  · skip
    obtain ⟨r, rfl, hr, h⟩ := h
    have hi := hr.iv
    have hs := hr.st
    have hf := hr.fin
    unfold rulD
    refine sSeq_i fun N1 h1 => ?_
    walk_at "pl"
    refine h1 _ _ ?_
    clear h1
    refine sSeq_i fun N1 h1 => ?_
    walk_at "pl"
    rw [if_pos hi.1, if_neg (by omega), if_neg (by omega)]
    refine ⟨r, rfl, rfl, hr, h1 _ _ ?_⟩
    clear h1
    cases hq : r.fin with
    | never =>
      simp only [endRD]
      walk_at "pl"
      refine ⟨by decide +kernel, ?_⟩
      rw [if_neg s_nu.1]
      refine ⟨by decide +kernel, ?_⟩
      rw [if_neg s_nu.2.1]
      exact h
    | till e =>
      rw [hq] at hf
      simp only [endRD]
      walk_at "pl"
      refine ⟨by decide +kernel, ?_⟩
      rw [decide_eq_true hf.1]
      exact h
    | count c =>
      rw [hq] at hf
      simp only [endRD]
      walk_at "pl"
      refine ⟨by decide +kernel, ?_⟩
      rw [if_neg s_nu.2.2.1]
      refine ⟨by decide +kernel, ?_⟩
      rw [if_pos hf.1, decide_eq_true (by omega)]
      exact h
  · exact h.elim

local macro_rules | `(tactic| walk_at "go") => `(tactic| repeat' (first | assumption | with_reducible apply And.intro | walk_at "cs"))
local macro_rules | `(tactic| walk_at "ex") => `(tactic| simp only [List.cons.injEq, Sl.va.injEq, Sl.ow.injEq, Ow.lst.injEq, D.int.injEq, D.bl.injEq, D.str.injEq, D.lst.injEq, D.tup.injEq, true_and, and_true])
local macro_rules | `(tactic| walk_at "gn") => `(tactic| simp only [↓gN, ↓gsNil, ↓gsCons, ↓gT, ↓gSq, List.length_cons, List.length_nil, Nat.reduceAdd, true_and, List.set_cons_zero, List.set_cons_succ])
local macro_rules | `(tactic| walk_at "sp") => `(tactic| repeat' (first | split | with_reducible apply And.intro))
local macro_rules | `(tactic| walk_at "cs") => `(tactic| first | (unfold CMulP; omega) | (unfold CPowP; omega) | (unfold CModP; omega) | (unfold CDivP; omega))
local macro_rules | `(tactic| walk_at "pl") => `(tactic| simp only [↓sSeq, ↓sAsg, ↓sRet, ↓sRetN, ↓sIf, ↓sDrop, ↓sNext, ↓eVar, ↓bVar, ↓bE, ↓eBin, ↓tE, chS_bl, chS_true, chS_false, wipeE_nil, wipeE_cons, ↓aNil, ↓aCons, ↓aConsB, ↓iSeq, Option.isSome_some, lk_int, lk_str, ↓gN, ↓eCall, ↓dI2, ↓dEq, ↓dIx, ↓oNone, ↓oSome, ↓eSl, ↓eB, ↓cMax2, natc0, natc1, natc2, List.findIdx?_cons, List.findIdx?_nil, intsOf_ints, boolsOf_bls, plAnyI, plAnyR, ↓Sl.val, ↓Ow.toD, ↓stE, ↓PL.isNon, ↓bC, ↓dLe, List.getElem?_cons_zero, List.getElem?_cons_succ, List.set_cons_zero, List.set_cons_succ, List.map_cons, List.map_nil, List.length_cons, List.length_nil, List.nil_append, List.cons_append, List.replicate_succ, List.replicate_zero, List.append_nil, atI0, atI1, atI2, atI3, atI4, cmpOk_int, cmpOk_bl, cmpOk_non, deq_int, deq_bl, true_and, and_true, Nat.reduceAdd, Nat.reduceSub, Nat.reduceLeDiff, Nat.reduceLT, Bool.not_eq_true', Bool.false_eq_true, if_false, if_true, decide_eq_true_eq, decide_eq_false_iff_not, Nat.zero_add, Nat.sub_zero, Nat.add_zero, Nat.sub_self, ixN31, ixN32, List.length_map, List.length_set, Int.reduceToNat, Int.reducePow, Int.reduceNeg, Int.reduceAdd, Int.reduceSub, Int.reduceMul, Int.reduceLT, Int.reduceLE, Int.reduceEq, Nat.reduceEqDiff, reduceCtorEq, List.mem_singleton, eq_self, not_true_eq_false, not_false_eq_true, or_true, true_or, cmpOk_lstA, cmpOk_tupA, ckA_lst, ckA_tup, ckAl_nil, ckAl_cons, ckAl_ints, ckAl_rangeL, ck_int, ck_bl, ck_non, ck_strI, cmpOk_str, deq_str, deq_tup, deq_lst, deqA_nil, deqA_cons, deqA_ints, Bool.and_true, Bool.true_and, Bool.and_false, Bool.false_and, decide_true, decide_false, Bool.not_true, Bool.not_false, ↓p__law_turns])
theorem ok__law_rule_days (T : TF K mg) : FnOk P w K mg base CX0 3 T.a__law_rule_days T.x__law_rule_days ["rule", "end"] (liP K p__law_rule_days) := by
  refine fn_P T.f__law_rule_days sc__law_rule_days (by intro ds M Q E h; unfold p__law_rule_days at h; split at h <;> first | rfl | exact h.elim) (fun cdv A outer s H E z hz hr => (qs_cons (qs_set (i := 2) sc__law_rule_days.nd rfl (by first | exact Or.inl rfl | exact Or.inr rfl) (qe_call (ok__law_turns T) hr (by rfl) T.g__law_turns T.f__law_turns.kp T.b__law_turns pass0 (qa_cons (qe_var 0) (qa_cons (qe_ix (qb_var 0) qb_int) (qa_cons (qe_callB (cb_max2 rfl) (by rfl) T.m_max (by decide +kernel) (qab_cons (qb_var 1) (qab_cons (qb_of (qe_ix (qb_var 0) qb_int)) qab_nil))) qa_nil)))))
    (qs_cons (qs_if (qt_cmp (ob_eq (hu64 hr)) (qb_of (qe_ix (qb_of (qe_ix (qb_var 0) qb_int)) qb_int)) qb_str (nomark _))
    (qs_end (qs_setLc (i := 2) rfl sc__law_rule_days.nd rfl rfl (sw_true rfl rfl rfl (by decide +kernel)) (own := [("day", 3)]) (qi_seq (h := (qe_var 2))) (blkOk_by (own := [("day", 3)]) (N := N__law_rule_days) (sc := defScope s__law_rule_days) (by decide +kernel)) (fun _ _ _ _ _ z hz => (qg_name (i := 3) sc__law_rule_days.nd rfl (by first | exact Or.inl rfl | exact Or.inr rfl))) (fun _ _ _ _ _ => an_t1 fun z hz => (qt_cmp ob_le (qb_var 3) (qb_of (qe_ix (qb_of (qe_ix (qb_var 0) qb_int)) qb_int)) (nomark _))) (fun _ _ _ _ _ z hz => (qe_var 3))))
    qs_nil)
    (qs_cons (qs_if (qt_cmp (ob_eq (hu64 hr)) (qb_of (qe_ix (qb_of (qe_ix (qb_var 0) qb_int)) qb_int)) qb_str (nomark _))
    (qs_end (qs_set (i := 2) sc__law_rule_days.nd rfl (by first | exact Or.inl rfl | exact Or.inr rfl) (qe_slice (qb_var 2) qo_none (qo_some (qb_of (qe_ix (qb_of (qe_ix (qb_var 0) qb_int)) qb_int))))))
    qs_nil)
    (qs_end (qs_ret (qe_var 2))))))) ?_
  intro ds M Q0 h
  unfold p__law_rule_days at h
  split at h
  · skip
    obtain ⟨r, rfl, hr, hb, h⟩ := h
    rename_i e
    have hs := hr.st
    have hf := hr.fin
    refine sSeq_i fun N1 h1 => ?_
    unfold rulD
    walk_at "pl"
    have em : (if r.first > e then r.first else e) = max e r.first := by split <;> omega
    rw [em]
    refine ⟨r, rfl, hr, ⟨by omega, by omega, by omega, by omega⟩, h1 _ _ ?_⟩
    clear h1
    have hE : ∀ n, (rgI r.first n).filter (turnC r) = (rgI 0 n).filter (turnB r) := fun n => by
      refine asc_ext (asc_filter asc_rgI) (asc_filter asc_rgI) fun x => ?_
      rw [List.mem_filter, List.mem_filter, rgI_mem, rgI_mem]
      unfold turnB
      rw [Bool.and_eq_true, decide_eq_true_eq]
      constructor
      · rintro ⟨⟨h1, h2⟩, h3⟩
        exact ⟨⟨by omega, h2⟩, h1, h3⟩
      · rintro ⟨⟨h1, h2⟩, h3, h4⟩
        exact ⟨⟨h3, h2⟩, h4⟩
    rw [hE]
    cases hq : r.fin with
    | never =>
      simp only [endRD]
      refine sSeq_i fun N1 h1 => ?_
      walk_at "pl"
      refine ⟨by decide +kernel, ?_⟩
      rw [if_neg s_nu.1]
      refine h1 _ _ ?_
      clear h1
      refine sSeq_i fun N1 h1 => ?_
      walk_at "pl"
      refine ⟨by decide +kernel, ?_⟩
      rw [if_neg s_nu.2.1]
      refine h1 _ _ ?_
      walk_at "pl"
      have : rulB r = turnB r := funext fun d => by unfold rulB finB; rw [hq]; exact Bool.and_true _
      rw [this] at h
      exact h
    | till en =>
      simp only [endRD]
      refine sSeq_i fun N1 h1 => ?_
      walk_at "pl"
      refine ⟨by decide +kernel, ?_⟩
      have hfl := List.length_filter_le (turnB r) (rgI 0 (max e r.first))
      rw [rgI_len] at hfl
      refine eLc_k fun N hN => ?_
      walk_at "pl"
      refine hN _ _ _ ?_
      clear hN
      refine eLc_fmj (pickI fun x => x ≤ en) (((rgI 0 (max e r.first)).filter (turnB r)).map D.int) _ _ (fun Q h => h) rfl (by rw [List.length_map]; omega) ?_ ?_
      · intro i d acc J hd hl hJ
        obtain ⟨v, rfl, hv⟩ := ints_get hd
        walk_at "pl"
        by_cases c : v ≤ en
        · rw [show pickI (fun x => x ≤ en) (.int v) = some (.int v) from if_pos c] at hJ
          rw [if_pos c]
          exact ⟨hl, hJ⟩
        · rw [show pickI (fun x => x ≤ en) (.int v) = none from if_neg c, Option.toList_none, List.append_nil] at hJ
          rw [if_neg c]
          exact hJ
      rw [pickI_map, List.filter_filter]
      have : (fun a => decide (a ≤ en) && turnB r a) = rulB r := funext fun d => by unfold rulB finB; rw [hq, Bool.and_comm]
      rw [this]
      refine h1 _ _ ?_
      clear h1
      refine sSeq_i fun N1 h1 => ?_
      walk_at "pl"
      refine ⟨by decide +kernel, ?_⟩
      rw [if_neg s_nu.2.2.2.1]
      refine h1 _ _ ?_
      walk_at "pl"
      exact h
    | count c =>
      simp only [endRD]
      refine sSeq_i fun N1 h1 => ?_
      walk_at "pl"
      refine ⟨by decide +kernel, ?_⟩
      rw [if_neg s_nu.2.2.1]
      refine h1 _ _ ?_
      clear h1
      refine sSeq_i fun N1 h1 => ?_
      walk_at "pl"
      rw [hq] at hf
      refine ⟨by decide +kernel, h1 _ _ ?_⟩
      clear h1
      walk_at "pl"
      have e1 : cutL (((rgI 0 (max e r.first)).filter (turnB r)).map D.int) none (some c) = ((rgI 0 (max e r.first)).filter (rulB r)).map D.int := by
        rw [show c = ((c.toNat : Nat) : Int) by omega, cutL_upto, ← List.map_take]
        have := take_cnt (f := turnB r) (c := c.toNat) (max e r.first).toNat
        rw [Int.toNat_of_nonneg (by omega)] at this
        rw [this]
        congr 1
        refine List.filter_congr fun d _ => ?_
        unfold rulB finB
        rw [hq, Int.toNat_of_nonneg (by omega)]
      rw [e1]
      exact h
  · exact h.elim

local macro_rules | `(tactic| walk_at "go") => `(tactic| repeat' (first | assumption | with_reducible apply And.intro | walk_at "cs"))
local macro_rules | `(tactic| walk_at "ex") => `(tactic| simp only [List.cons.injEq, Sl.va.injEq, Sl.ow.injEq, Ow.lst.injEq, D.int.injEq, D.bl.injEq, D.str.injEq, D.lst.injEq, D.tup.injEq, true_and, and_true])
local macro_rules | `(tactic| walk_at "gn") => `(tactic| simp only [↓gN, ↓gsNil, ↓gsCons, ↓gT, ↓gSq, List.length_cons, List.length_nil, Nat.reduceAdd, true_and, List.set_cons_zero, List.set_cons_succ])
local macro_rules | `(tactic| walk_at "sp") => `(tactic| repeat' (first | split | with_reducible apply And.intro))
local macro_rules | `(tactic| walk_at "cs") => `(tactic| first | (unfold CMulP; omega) | (unfold CPowP; omega) | (unfold CModP; omega) | (unfold CDivP; omega))
local macro_rules | `(tactic| walk_at "pl") => `(tactic| simp only [↓sSeq, ↓sAsg, ↓sRet, ↓sRetN, ↓sIf, ↓sDrop, ↓sNext, ↓eVar, ↓bE, ↓eBin, ↓tE, chS_bl, chS_true, chS_false, wipeE_nil, wipeE_cons, ↓aNil, ↓aCons, ↓eTup, Option.isSome_some, lk_int, lk_str, ↓eCall, ↓dAdd, ↓dEq, natc0, natc1, natc2, List.findIdx?_cons, List.findIdx?_nil, intsOf_ints, boolsOf_bls, plAnyI, plAnyR, ↓Sl.val, ↓Ow.toD, ↓stE, ↓PL.isNon, ↓eC, ↓bC, List.getElem?_cons_zero, List.getElem?_cons_succ, List.set_cons_zero, List.set_cons_succ, List.map_cons, List.map_nil, List.length_cons, List.length_nil, List.nil_append, List.cons_append, List.replicate_succ, List.replicate_zero, List.append_nil, atI0, atI1, atI2, atI3, atI4, cmpOk_int, cmpOk_bl, cmpOk_non, deq_int, deq_bl, true_and, and_true, Nat.reduceAdd, Nat.reduceSub, Nat.reduceLeDiff, Nat.reduceLT, Bool.not_eq_true', Bool.false_eq_true, if_false, if_true, decide_eq_true_eq, decide_eq_false_iff_not, Nat.zero_add, Nat.sub_zero, Nat.add_zero, Nat.sub_self, ixN31, ixN32, List.length_map, List.length_set, Int.reduceToNat, Int.reducePow, Int.reduceNeg, Int.reduceAdd, Int.reduceSub, Int.reduceMul, Int.reduceLT, Int.reduceLE, Int.reduceEq, Nat.reduceEqDiff, reduceCtorEq, List.mem_singleton, eq_self, not_true_eq_false, not_false_eq_true, or_true, true_or, cmpOk_lstA, cmpOk_tupA, ckA_lst, ckA_tup, ckAl_nil, ckAl_cons, ckAl_ints, ckAl_rangeL, ck_int, ck_bl, ck_non, ck_strI, cmpOk_str, deq_str, deq_tup, deq_lst, deqA_nil, deqA_cons, deqA_ints, Bool.and_true, Bool.true_and, Bool.and_false, Bool.false_and, decide_true, decide_false, Bool.not_true, Bool.not_false, ↓pDraw, ↓p__law_ascending, ↓p__law_rule_end])
theorem ok__law_small_rule (T : TF K mg) : FnOk P w K mg base CX0 3 T.a__law_small_rule T.x__law_small_rule ["tape", "most"] (liP K p__law_small_rule) := by
  refine fn_P T.f__law_small_rule sc__law_small_rule (by intro ds M Q E h; unfold p__law_small_rule at h; split at h <;> first | rfl | exact h.elim) (fun cdv A outer s H E z hz hr => (qs_cons (qs_set (i := 2) sc__law_small_rule.nd rfl (by first | exact Or.inl rfl | exact Or.inr rfl) (qe_bin ob_add qb_int (qb_of (qe_call (ok__law_draw T) (hr.mono (by decide)) (by rfl) T.g__law_draw T.f__law_draw.kp T.b__law_draw pass0 (qa_cons (qe_var 0) (qa_cons qe_int qa_nil))))))
    (qs_cons (qs_set (i := 3) sc__law_small_rule.nd rfl (by first | exact Or.inl rfl | exact Or.inr rfl) (qe_call (ok__law_draw T) (hr.mono (by decide)) (by rfl) T.g__law_draw T.f__law_draw.kp T.b__law_draw pass0 (qa_cons (qe_var 0) (qa_cons (qe_var 1) qa_nil))))
    (qs_cons (qs_if (qt_cmp (ob_eq (hu64 hr)) (qb_of (qe_call (ok__law_draw T) (hr.mono (by decide)) (by rfl) T.g__law_draw T.f__law_draw.kp T.b__law_draw pass0 (qa_cons (qe_var 0) (qa_cons qe_int qa_nil)))) qb_int (nomark _))
    (qs_end (qs_ret (qe_tup (qa_cons qe_str (qa_cons (qe_var 2) (qa_cons (qe_tup qa_nil) (qa_cons (qe_var 3) (qa_cons (qe_call (ok__law_rule_end T) hr (by rfl) T.g__law_rule_end T.f__law_rule_end.kp T.b__law_rule_end pass0 (qa_cons (qe_var 0) (qa_cons (qe_var 3) qa_nil))) qa_nil))))))))
    qs_nil)
    (qs_end (qs_ret (qe_tup (qa_cons qe_str (qa_cons (qe_var 2) (qa_cons (qe_call (ok__law_ascending T) hr (by rfl) T.g__law_ascending T.f__law_ascending.kp T.b__law_ascending pass0 (qa_cons (qe_var 0) (qa_cons qe_int (qa_cons qe_int qa_nil)))) (qa_cons (qe_var 3) (qa_cons (qe_call (ok__law_rule_end T) hr (by rfl) T.g__law_rule_end T.f__law_rule_end.kp T.b__law_rule_end pass0 (qa_cons (qe_var 0) (qa_cons (qe_var 3) qa_nil))) qa_nil)))))))))))) ?_
  intro ds M Q0 h
  unfold p__law_small_rule at h
  split at h
  · skip
    obtain ⟨⟨hT, h0, h1m⟩, h⟩ := h
    rename_i T most
    refine sSeq_i fun N1 h1 => ?_
    walk_at "pl"
    refine ⟨hT, fun k k0 k1 => h1 _ _ ?_⟩
    clear h1
    refine sSeq_i fun N1 h1 => ?_
    walk_at "pl"
    refine ⟨⟨hT, by omega, by omega⟩, fun f f0 f1 => h1 _ _ ?_⟩
    clear h1
    refine sSeq_i fun N1 h1 => ?_
    refine sIf_k fun N2 h2 => ?_
    walk_at "pl"
    refine ⟨hT, fun u u0 u1 => h2 _ _ _ ?_⟩
    clear h2
    have fin : ∀ en : EndR, (match en with | .never => True | .till e => f ≤ e ∧ e < f + 500 | .count c => 1 ≤ c ∧ c ≤ 12) → (match en with | .never => True | .till e => f ≤ e ∧ e ≤ 1000 | .count c => 1 ≤ c ∧ c ≤ 12) := fun en he => by
      cases en with
      | never => trivial
      | till e => exact ⟨he.1, by have := he.2; omega⟩
      | count c => exact he
    by_cases c : u = 0
    · rw [decide_eq_true c, if_pos rfl]
      walk_at "pl"
      refine ⟨hT, fun en he => ?_⟩
      exact h ⟨false, 1 + k, [], f, en⟩ ⟨⟨by show 1 ≤ 1 + k; omega, ⟨by show 1 + k ≤ 8; omega, by show 1 + k ≠ 5; omega, by show 1 + k ≠ 7; omega⟩⟩, ⟨f0, by show f ≤ 300; omega⟩, rfl, fin en he⟩ ⟨by show f < most; omega, fun e ee => by cases (show en = .till e from ee); have := he.2; omega⟩
    · rw [decide_eq_false c, if_neg Bool.false_ne_true]
      walk_at "pl"
      refine h1 _ _ ?_
      clear h1
      walk_at "pl"
      refine ⟨hT, fun ns n1 n2 n3 => ⟨hT, fun en he => ?_⟩⟩
      exact h ⟨true, 1 + k, ns, f, en⟩ ⟨⟨by show 1 ≤ 1 + k; omega, ⟨by show 1 + k ≤ 8; omega, by show 1 + k ≠ 5; omega, by show 1 + k ≠ 7; omega⟩⟩, ⟨f0, by show f ≤ 300; omega⟩, ⟨n1, n2, fun p hp => by have := n3 p hp; omega⟩, fin en he⟩ ⟨by show f < most; omega, fun e ee => by cases (show en = .till e from ee); have := he.2; omega⟩
  · exact h.elim

local macro_rules | `(tactic| walk_at "go") => `(tactic| repeat' (first | assumption | with_reducible apply And.intro | walk_at "cs"))
local macro_rules | `(tactic| walk_at "ex") => `(tactic| simp only [List.cons.injEq, Sl.va.injEq, Sl.ow.injEq, Ow.lst.injEq, D.int.injEq, D.bl.injEq, D.str.injEq, D.lst.injEq, D.tup.injEq, true_and, and_true])
local macro_rules | `(tactic| walk_at "gn") => `(tactic| simp only [↓gN, ↓gsNil, ↓gsCons, ↓gT, ↓gSq, List.length_cons, List.length_nil, Nat.reduceAdd, true_and, List.set_cons_zero, List.set_cons_succ])
local macro_rules | `(tactic| walk_at "sp") => `(tactic| repeat' (first | split | with_reducible apply And.intro))
local macro_rules | `(tactic| walk_at "cs") => `(tactic| first | (unfold CMulP; omega) | (unfold CPowP; omega) | (unfold CModP; omega) | (unfold CDivP; omega))
local macro_rules | `(tactic| walk_at "pl") => `(tactic| simp only [↓sSeq, ↓sRet, ↓sRetN, ↓sIf, ↓sDrop, ↓sNext, ↓eVar, ↓bVar, ↓eBin, ↓tE, chS_bl, chS_true, chS_false, wipeE_nil, wipeE_cons, ↓aNil, ↓aCons, ↓eTup, ↓eLst, Option.isSome_some, lk_int, lk_str, ↓eCall, ↓dI2, natc0, natc1, natc2, List.findIdx?_cons, List.findIdx?_nil, intsOf_ints, boolsOf_bls, plAnyI, plAnyR, ↓Sl.val, ↓Ow.toD, ↓stE, ↓PL.isNon, ↓eC, ↓bC, ↓dLe, List.getElem?_cons_zero, List.getElem?_cons_succ, List.set_cons_zero, List.set_cons_succ, List.map_cons, List.map_nil, List.length_cons, List.length_nil, List.nil_append, List.cons_append, List.replicate_succ, List.replicate_zero, List.append_nil, atI0, atI1, atI2, atI3, atI4, cmpOk_int, cmpOk_bl, cmpOk_non, deq_int, deq_bl, true_and, and_true, Nat.reduceAdd, Nat.reduceSub, Nat.reduceLeDiff, Nat.reduceLT, Bool.not_eq_true', Bool.false_eq_true, if_false, if_true, decide_eq_true_eq, decide_eq_false_iff_not, Nat.zero_add, Nat.sub_zero, Nat.add_zero, Nat.sub_self, ixN31, ixN32, List.length_map, List.length_set, Int.reduceToNat, Int.reducePow, Int.reduceNeg, Int.reduceAdd, Int.reduceSub, Int.reduceMul, Int.reduceLT, Int.reduceLE, Int.reduceEq, Nat.reduceEqDiff, reduceCtorEq, List.mem_singleton, eq_self, not_true_eq_false, not_false_eq_true, or_true, true_or, cmpOk_lstA, cmpOk_tupA, ckA_lst, ckA_tup, ckAl_nil, ckAl_cons, ckAl_ints, ckAl_rangeL, ck_int, ck_bl, ck_non, ck_strI, cmpOk_str, deq_str, deq_tup, deq_lst, deqA_nil, deqA_cons, deqA_ints, Bool.and_true, Bool.true_and, Bool.and_false, Bool.false_and, decide_true, decide_false, Bool.not_true, Bool.not_false, ↓p_tidied])
theorem ok_from_day (T : TF K mg) : FnOk P w K mg base CX0 4 T.a_from_day T.x_from_day ["start", "period", "residues"] (liP K p_from_day) := by
  refine fn_P T.f_from_day sc_from_day (by intro ds M Q E h; unfold p_from_day at h; split at h <;> first | rfl | exact h.elim) (fun cdv A outer s H E z hz hr => (qs_cons (qs_if (qt_cmp ob_le (qb_var 0) qb_int (nomark _))
    (qs_end (qs_ret (qe_call (ok_tidied T) hr (by rfl) T.g_tidied T.f_tidied.kp T.b_tidied pass0 (qa_cons (qe_lst (qa_cons (qe_tup (qa_cons qe_int (qa_cons (qe_var 1) (qa_cons (qe_var 2) qa_nil)))) qa_nil)) qa_nil))))
    qs_nil)
    (qs_end (qs_ret (qe_call (ok_tidied T) hr (by rfl) T.g_tidied T.f_tidied.kp T.b_tidied pass0 (qa_cons (qe_lst (qa_cons (qe_tup (qa_cons qe_int (qa_cons qe_int (qa_cons (qe_tup qa_nil) qa_nil)))) (qa_cons (qe_tup (qa_cons (qe_var 0) (qa_cons (qe_var 1) (qa_cons (qe_var 2) qa_nil)))) qa_nil))) qa_nil)))))) ?_
  intro ds M Q0 h
  unfold p_from_day at h
  split at h
  · skip
    obtain ⟨ns, rfl, hk, h⟩ := h
    rename_i s P
    have hk1 : KdOk (1, []) := ⟨⟨by omega, by simp, by simp⟩, by decide, by decide⟩
    walk_at "pl"
    by_cases c : s ≤ 0
    · rw [if_pos c]
      refine ⟨[(0, P, ns)], rfl, ⟨⟨⟨_, _, rfl⟩, by simp, by simpa using hk⟩, by simp⟩, fun fs t1 t2 t3 t4 => h fs t1 (fun d => ?_) (by simp at t3; omega) fun f hf => ?_⟩
      rotate_left
      · obtain ⟨p, hp, e1, e2, e3⟩ := t4 f hf
        rw [List.mem_singleton.mp hp] at e1 e2 e3
        exact ⟨e2, e3, .inl e1⟩
      rw [t2]
      show (if (0 : Int) ≤ d then decide (d % P ∈ ns) else false) = _
      by_cases c2 : 0 ≤ d
      · rw [if_pos c2, decide_eq_true (show 0 ≤ d ∧ s ≤ d by omega), Bool.true_and]
      · rw [if_neg c2, decide_eq_false (show ¬ (0 ≤ d ∧ s ≤ d) by omega), Bool.false_and]
    · rw [if_neg c]
      refine ⟨[(0, 1, []), (s, P, ns)], rfl, ⟨⟨⟨_, _, rfl⟩, by simp; omega, ?_⟩, by simp⟩, fun fs t1 t2 t3 t4 => h fs t1 (fun d => ?_) (by simpa using t3) fun f hf => ?_⟩
      · intro p hp
        rcases List.mem_cons.mp hp with rfl | hp
        · exact hk1
        · rw [List.mem_singleton.mp hp]; exact hk
      · rw [t2]
        show (if s ≤ d then decide (d % P ∈ ns) else if (0 : Int) ≤ d then inPc (0, 1, []) d else false) = _
        by_cases c2 : s ≤ d
        · rw [if_pos c2, decide_eq_true (show 0 ≤ d ∧ s ≤ d by omega), Bool.true_and]
        · rw [if_neg c2, decide_eq_false (show ¬ (0 ≤ d ∧ s ≤ d) by omega), Bool.false_and]
          split <;> simp [inPc]
      · obtain ⟨p, hp, e1, e2, e3⟩ := t4 f hf
        have hP : 0 < P := hk.1.1
        rcases List.mem_cons.mp hp with rfl | hp
        · exact ⟨Int.le_trans e2 hP, Nat.le_trans e3 (Nat.zero_le _), .inl e1⟩
        · rw [List.mem_singleton.mp hp] at e1 e2 e3
          exact ⟨e2, e3, .inr e1⟩
  · exact h.elim

local macro_rules | `(tactic| walk_at "go") => `(tactic| repeat' (first | assumption | with_reducible apply And.intro | walk_at "cs"))
local macro_rules | `(tactic| walk_at "ex") => `(tactic| simp only [List.cons.injEq, Sl.va.injEq, Sl.ow.injEq, Ow.lst.injEq, D.int.injEq, D.bl.injEq, D.str.injEq, D.lst.injEq, D.tup.injEq, true_and, and_true])
local macro_rules | `(tactic| walk_at "gn") => `(tactic| simp only [↓gN, ↓gsNil, ↓gsCons, ↓gT, ↓gSq, List.length_cons, List.length_nil, Nat.reduceAdd, true_and, List.set_cons_zero, List.set_cons_succ])
local macro_rules | `(tactic| walk_at "sp") => `(tactic| repeat' (first | split | with_reducible apply And.intro))
local macro_rules | `(tactic| walk_at "cs") => `(tactic| first | (unfold CMulP; omega) | (unfold CPowP; omega) | (unfold CModP; omega) | (unfold CDivP; omega))
local macro_rules | `(tactic| walk_at "pl") => `(tactic| simp only [↓sSeq, ↓sAsg, ↓sRet, ↓sRetN, ↓sIf, ↓sDrop, ↓sNext, ↓eVar, ↓bVar, ↓bE, ↓eBin, ↓tE, chS_bl, chS_true, chS_false, wipeE_nil, wipeE_cons, ↓qNot, ↓aNil, ↓aCons, ↓aConsB, ↓eTup, ↓iSeq, ↓eSortSet, Option.isSome_some, lk_int, lk_str, ↓gN, ↓eCall, ↓dI2, ↓dAdd, ↓dEq, ↓dIx, ↓eB, ↓cTuple, ↓cSorted, natc0, natc1, natc2, List.findIdx?_cons, List.findIdx?_nil, intsOf_ints, boolsOf_bls, plAnyI, plAnyR, ↓Sl.val, ↓Ow.toD, ↓stE, ↓tYes', ↓PL.isNon, ↓bC, ↓dSub, ↓dMod, List.getElem?_cons_zero, List.getElem?_cons_succ, List.set_cons_zero, List.set_cons_succ, List.map_cons, List.map_nil, List.length_cons, List.length_nil, List.nil_append, List.cons_append, List.replicate_succ, List.replicate_zero, List.append_nil, atI0, atI1, atI2, atI3, atI4, cmpOk_int, cmpOk_bl, cmpOk_non, deq_int, deq_bl, true_and, and_true, Nat.reduceAdd, Nat.reduceSub, Nat.reduceLeDiff, Nat.reduceLT, Bool.not_eq_true', Bool.false_eq_true, if_false, if_true, decide_eq_true_eq, decide_eq_false_iff_not, Nat.zero_add, Nat.sub_zero, Nat.add_zero, Nat.sub_self, ixN31, ixN32, List.length_map, List.length_set, Int.reduceToNat, Int.reducePow, Int.reduceNeg, Int.reduceAdd, Int.reduceSub, Int.reduceMul, Int.reduceLT, Int.reduceLE, Int.reduceEq, Nat.reduceEqDiff, reduceCtorEq, List.mem_singleton, eq_self, not_true_eq_false, not_false_eq_true, or_true, true_or, cmpOk_lstA, cmpOk_tupA, ckA_lst, ckA_tup, ckAl_nil, ckAl_cons, ckAl_ints, ckAl_rangeL, ck_int, ck_bl, ck_non, ck_strI, cmpOk_str, deq_str, deq_tup, deq_lst, deqA_nil, deqA_cons, deqA_ints, Bool.and_true, Bool.true_and, Bool.and_false, Bool.false_and, decide_true, decide_false, Bool.not_true, Bool.not_false, ↓p_has, ↓p_within_stretch])
theorem ok_short_stretch (T : TF K mg) : FnOk P w K mg base CX0 4 T.a_short_stretch T.x_short_stretch ["way", "start", "end", "a", "b"] (liP K p_short_stretch) := by
  refine fn_P T.f_short_stretch sc_short_stretch (by intro ds M Q E h; unfold p_short_stretch at h; split at h <;> first | rfl | exact h.elim) (fun cdv A outer s H E z hz hr => (qs_cons (qs_set (i := 5) sc_short_stretch.nd rfl (by first | exact Or.inl rfl | exact Or.inr rfl) (qe_call (ok_within_stretch T) hr (by rfl) T.g_within_stretch T.f_within_stretch.kp T.b_within_stretch pass0 (qa_cons (qe_var 1) (qa_cons (qe_var 2) (qa_cons (qe_var 3) qa_nil)))))
    (qs_cons (qs_if (qt_cmp (ob_eq (hu64 hr)) (qb_var 0) qb_str (nomark _))
    (qs_end (qs_setLc (i := 5) rfl sc_short_stretch.nd rfl rfl (sw_true rfl rfl rfl (by decide +kernel)) (own := [("day", 7)]) (qi_seq (h := (qe_var 5))) (blkOk_by (own := [("day", 7)]) (N := N_short_stretch) (sc := defScope s_short_stretch) (by decide +kernel)) (fun _ _ _ _ _ z hz => (qg_name (i := 7) sc_short_stretch.nd rfl (by first | exact Or.inl rfl | exact Or.inr rfl))) (fun _ _ _ _ _ => an_t1 fun z hz => (qt_val (qe_call (ok_has T) (hr.mono (by decide)) (by rfl) T.g_has T.f_has.kp T.b_has pass0 (qa_cons (qe_ix (qb_var 4) qb_int) (qa_cons (qe_ix (qb_var 4) qb_int) (qa_cons (qe_var 7) qa_nil)))))) (fun _ _ _ _ _ z hz => (qe_var 7))))
    (qs_end (qs_if (qt_cmp (ob_eq (hu64 hr)) (qb_var 0) qb_str (nomark _))
    (qs_end (qs_set (i := 5) sc_short_stretch.nd rfl (by first | exact Or.inl rfl | exact Or.inr rfl) (qe_sortSet rfl (by rfl) T.m_sorted (by rfl) T.m_set (qb_of (qe_bin ob_add (qb_var 5) (qb_of (qe_call (ok_within_stretch T) hr (by rfl) T.g_within_stretch T.f_within_stretch.kp T.b_within_stretch pass0 (qa_cons (qe_var 1) (qa_cons (qe_var 2) (qa_cons (qe_var 4) qa_nil))))))))))
    (qs_end (qs_setLc (i := 5) rfl sc_short_stretch.nd rfl rfl (sw_true rfl rfl rfl (by decide +kernel)) (own := [("day", 7)]) (qi_seq (h := (qe_var 5))) (blkOk_by (own := [("day", 7)]) (N := N_short_stretch) (sc := defScope s_short_stretch) (by decide +kernel)) (fun _ _ _ _ _ z hz => (qg_name (i := 7) sc_short_stretch.nd rfl (by first | exact Or.inl rfl | exact Or.inr rfl))) (fun _ _ _ _ _ => an_t1 fun z hz => (qt_not (qt_val (qe_call (ok_has T) (hr.mono (by decide)) (by rfl) T.g_has T.f_has.kp T.b_has pass0 (qa_cons (qe_ix (qb_var 4) qb_int) (qa_cons (qe_ix (qb_var 4) qb_int) (qa_cons (qe_var 7) qa_nil))))))) (fun _ _ _ _ _ z hz => (qe_var 7)))))))
    (qs_cons (qs_set (i := 6) sc_short_stretch.nd rfl (by first | exact Or.inl rfl | exact Or.inr rfl) (qe_bin ob_sub (qb_var 2) (qb_var 1)))
    (qs_end (qs_ret (qe_tup (qa_cons (qe_var 6) (qa_cons (qe_callTy cb_tuple (by rfl) T.m_tuple (by decide +kernel) (qab_cons (qb_of (qe_callB cb_sorted (by rfl) T.m_sorted (by decide +kernel) (qab_cons (qb_of (qe_lc rfl sc_short_stretch.nd (own := [("day", 7)]) (qi_seq (h := (qe_var 5))) (blkOk_by (own := [("day", 7)]) (N := N_short_stretch) (sc := defScope s_short_stretch) (by decide +kernel)) (fun _ _ _ _ _ z hz => (qg_name (i := 7) sc_short_stretch.nd rfl (by first | exact Or.inl rfl | exact Or.inr rfl))) (fun _ _ _ _ _ => an_t0) (fun _ _ _ _ _ z hz => (qe_bin ob_mod (qb_var 7) (qb_var 6))))) qab_nil))) qab_nil)) qa_nil))))))))) ?_
  intro ds M Q0 h
  unfold p_short_stretch at h
  split at h
  · skip
    obtain ⟨as, bs, rfl, rfl, ⟨hw, hc, hse, hsl⟩, h⟩ := h
    rename_i w s e p q
    refine sSeq_i fun N1 h1 => ?_
    walk_at "pl"
    obtain ⟨hka, hkb, hcw⟩ := hc
    have hp0 : 0 < p := hka.1.1
    have hq0 : 0 < q := hkb.1.1
    have hp9 : p < 1000000000 := hka.2.1
    have hL := lcmI_pos hp0 hq0
    have ha4 : as.length < 4000 := hka.2.2
    have hb4 : bs.length < 4000 := hkb.2.2
    have hw19 : e - s < 1900 → ∀ f : Int → Bool, ((rgI s e).filter f).length < 1900 := fun h f => by
      have := List.length_filter_le f (rgI s e)
      rw [rgI_len] at this
      omega
    have hcA : cntF (inR (p, as)) s e < 16000000 := by
      unfold cntF
      rcases hcw with hc | hc
      · have := cnt_res (s := s) (e := e) hka.1 (lcmI_l (m := p) (n := q)) hL (by show e - s ≤ lcmI p q; omega)
        have h2 : lcmI p q / p * as.length < 16000000 := hc.d
        have h3 : (((rgI s e).filter (inR (p, as))).length : Int) ≤ lcmI p q / p * as.length := this
        omega
      · have := hw19 hc (inR (p, as))
        omega
    have hcB : cntF (inR (q, bs)) s e < 16000000 ∨ w ≠ Str.ofString "either" := by
      by_cases c2 : w = Str.ofString "either"
      · left
        unfold cntF
        rcases hcw with hc | hc
        · have := cnt_res (s := s) (e := e) hkb.1 (lcmI_r (n := q) hp0) hL (by show e - s ≤ lcmI p q; omega)
          have h3 : (((rgI s e).filter (inR (q, bs))).length : Int) ≤ lcmI p q / q * bs.length := this
          have h4 := hc.c
          unfold bndW at h4
          rw [if_neg (show ¬ w = wBoth from fun w' => w_ne.1 (c2.symm.trans w')), if_pos (show w = wEither from c2)] at h4
          have h4 : lcmI p q / p * as.length + lcmI p q / q * bs.length < 4000 := h4
          have h5 : (0 : Int) ≤ lcmI p q / p * as.length := Int.mul_nonneg (Int.ediv_nonneg (by omega) (by omega)) (by omega)
          omega
        · have := hw19 hc (inR (q, bs))
          omega
      · exact .inr c2
    have hcnt : ((rgI s e).filter fun x => combB w (inR (p, as) x) (inR (q, bs) x)).length < 4000 := by
      rcases hcw with hc | hc
      · have := cnt_comb (s := s) (e := e) hc (by show e - s ≤ lcmI p q; omega)
        have h2 := hc.c
        omega
      · have := hw19 hc fun x => combB w (inR (p, as) x) (inR (q, bs) x)
        omega
    refine ⟨as, rfl, ⟨hka.1, by omega, by omega⟩, h1 _ _ ?_⟩
    clear h1
    refine sSeq_i fun N1 h1 => ?_
    have h2 : ∀ K : List Int, K = (rgI s e).filter (fun x => combB w (inR (p, as) x) (inR (q, bs) x)) →
        N1 [.va (.str w), .va (.int s), .va (.int e), .va (.tup [.int p, .tup (as.map D.int)]), .va (.tup [.int q, .tup (bs.map D.int)]), .ow (.lst (K.map D.int)), .un, .un] M := by
      intro K hK
      refine h1 _ _ ?_
      clear h1
      refine sSeq_i fun N2 h2 => ?_
      walk_at "pl"
      refine h2 _ _ ?_
      clear h2
      walk_at "pl"
      rw [← hK] at hcnt
      refine eLc_k fun N hN => ?_
      walk_at "pl"
      refine hN _ _ _ ?_
      clear hN
      refine eLc_fm (mapI fun x => x % (e - s)) (K.map D.int) (fun Q h => h) rfl (by rw [List.length_map]; omega) ?_ ?_
      · intro i d acc J hd hl2 hJ
        obtain ⟨v, rfl, _⟩ := ints_get hd
        walk_at "pl"
        exact ⟨by walk_at "cs", hl2, hJ⟩
      rw [mapI_map]
      walk_at "pl"
      intro ms m1 m2
      rw [hK] at m1
      obtain ⟨r1, r2, r3⟩ := width_res hse m1 m2
      rw [← hK] at r3
      exact h ms r1 r2 (by omega)
    clear h1 h
    walk_at "pl"
    refine ⟨by first | exact hw | exact ⟨hw, by decide +kernel⟩, ?_⟩
    by_cases c1 : w = Str.ofString "both"
    · rw [if_pos c1]
      refine eLc_k fun N hN => ?_
      walk_at "pl"
      refine hN _ _ _ ?_
      clear hN
      refine eLc_fm (pickI fun x => x % q ∈ bs) (((rgI s e).filter (inR (p, as))).map D.int) (fun Q h => h) rfl (by rw [List.length_map]; unfold cntF at hcA; omega) ?_ ?_
      · intro i d acc J hd hl2 hJ
        obtain ⟨v, rfl, _⟩ := ints_get hd
        walk_at "pl"
        refine ⟨bs, rfl, hkb.1.2.1, hq0, ?_⟩
        have := pickI_J hl2 hJ
        simpa using this
      rw [pickI_map]
      refine h2 _ ?_
      rw [List.filter_filter]
      congr 1
      funext x
      unfold combB
      rw [if_pos (show w = wBoth from c1), Bool.and_comm]
    rw [if_neg c1]
    refine ⟨by first | exact hw | exact ⟨hw, by decide +kernel⟩, ?_⟩
    by_cases c2 : w = Str.ofString "either"
    · rw [if_pos c2]
      have hcB := hcB.resolve_right fun w => w c2
      have hAB : ((rgI s e).filter (inR (p, as))).length + ((rgI s e).filter (inR (q, bs))).length < 4000 := by
        rcases hcw with hc | hc
        · have h3 : (((rgI s e).filter (inR (q, bs))).length : Int) ≤ lcmI p q / q * bs.length := cnt_res hkb.1 (lcmI_r (n := q) hp0) hL (by show e - s ≤ lcmI p q; omega)
          have h2 : (((rgI s e).filter (inR (p, as))).length : Int) ≤ lcmI p q / p * as.length := cnt_res hka.1 (lcmI_l (n := q)) hL (by show e - s ≤ lcmI p q; omega)
          have h4 := hc.c
          unfold bndW at h4
          rw [if_neg (show ¬ w = wBoth from c1), if_pos (show w = wEither from c2)] at h4
          have h4 : lcmI p q / p * as.length + lcmI p q / q * bs.length < 4000 := h4
          omega
        · have h1 := hw19 hc (inR (p, as))
          have h2 := hw19 hc (inR (q, bs))
          omega
      refine ⟨bs, rfl, ⟨hkb.1, by have : q < 1000000000 := hkb.2.1; omega, by omega⟩, by omega, _, .inl (by rw [← List.map_append]), by rw [List.length_append]; omega, fun ms m1 m2 => h2 ms ?_⟩
      refine asc_ext m1 (asc_filter asc_rgI) fun x => ?_
      rw [m2, List.mem_append, List.mem_filter, List.mem_filter, List.mem_filter]
      unfold combB
      rw [if_neg (show ¬ w = wBoth from c1), if_pos (show w = wEither from c2), Bool.or_eq_true]
      constructor
      · rintro (u | u)
        · exact ⟨u.1, .inl u.2⟩
        · exact ⟨u.1, .inr u.2⟩
      · rintro ⟨u, v | v⟩
        · exact .inl ⟨u, v⟩
        · exact .inr ⟨u, v⟩
    rw [if_neg c2]
    refine eLc_k fun N hN => ?_
    walk_at "pl"
    refine hN _ _ _ ?_
    clear hN
    refine eLc_fm (pickI fun x => ¬ x % q ∈ bs) (((rgI s e).filter (inR (p, as))).map D.int) (fun Q h => h) rfl (by rw [List.length_map]; unfold cntF at hcA; omega) ?_ ?_
    · intro i d acc J hd hl2 hJ
      obtain ⟨v, rfl, _⟩ := ints_get hd
      walk_at "pl"
      refine ⟨bs, rfl, hkb.1.2.1, hq0, ?_⟩
      have := pickI_J hl2 hJ
      simpa using this
    rw [pickI_map]
    refine h2 _ ?_
    rw [List.filter_filter]
    congr 1
    funext x
    unfold combB
    rw [if_neg (show ¬ w = wBoth from c1), if_neg (show ¬ w = wEither from c2), Bool.and_comm]
    congr 1
    simp
  · exact h.elim

local macro_rules | `(tactic| walk_at "go") => `(tactic| repeat' (first | assumption | with_reducible apply And.intro | walk_at "cs"))
local macro_rules | `(tactic| walk_at "ex") => `(tactic| simp only [List.cons.injEq, Sl.va.injEq, Sl.ow.injEq, Ow.lst.injEq, D.int.injEq, D.bl.injEq, D.str.injEq, D.lst.injEq, D.tup.injEq, true_and, and_true])
local macro_rules | `(tactic| walk_at "gn") => `(tactic| simp only [↓gN, ↓gsNil, ↓gsCons, ↓gT, ↓gSq, List.length_cons, List.length_nil, Nat.reduceAdd, true_and, List.set_cons_zero, List.set_cons_succ])
local macro_rules | `(tactic| walk_at "sp") => `(tactic| repeat' (first | split | with_reducible apply And.intro))
local macro_rules | `(tactic| walk_at "cs") => `(tactic| first | (unfold CMulP; omega) | (unfold CPowP; omega) | (unfold CModP; omega) | (unfold CDivP; omega))
local macro_rules | `(tactic| walk_at "pl") => `(tactic| simp only [↓sSeq, ↓sAsg, ↓sRet, ↓sRetN, ↓sIf, ↓sDrop, ↓sNext, ↓sApp, ↓sPop, ↓eVar, ↓bVar, ↓bE, ↓eBin, ↓tE, chS_bl, chS_true, chS_false, wipeE_nil, wipeE_cons, ↓eUn, ↓qAnd, ↓qOr, ↓aNil, ↓aCons, ↓aConsB, ↓eTup, ↓eLst, ↓iSeq, Option.isSome_some, lk_int, lk_str, ↓cMax3, ↓gN, ↓gsNil, ↓gsCons, ↓eCall, ↓dI2, ↓dAdd, ↓dEq, ↓dIsN, ↓dNotN, ↓dIx, ↓eB, ↓cMax2, ↓gSq, natc0, natc1, natc2, List.findIdx?_cons, List.findIdx?_nil, intsOf_ints, boolsOf_bls, plAnyI, plAnyR, ↓Sl.val, ↓Ow.toD, ↓stE, ↓PL.isNon, ↓eC, ↓bC, ↓dLt, ↓dGt, List.getElem?_cons_zero, List.getElem?_cons_succ, List.set_cons_zero, List.set_cons_succ, List.map_cons, List.map_nil, List.length_cons, List.length_nil, List.nil_append, List.cons_append, List.replicate_succ, List.replicate_zero, List.append_nil, atI0, atI1, atI2, atI3, atI4, cmpOk_int, cmpOk_bl, cmpOk_non, deq_int, deq_bl, true_and, and_true, Nat.reduceAdd, Nat.reduceSub, Nat.reduceLeDiff, Nat.reduceLT, Bool.not_eq_true', Bool.false_eq_true, if_false, if_true, decide_eq_true_eq, decide_eq_false_iff_not, Nat.zero_add, Nat.sub_zero, Nat.add_zero, Nat.sub_self, ixN31, ixN32, List.length_map, List.length_set, Int.reduceToNat, Int.reducePow, Int.reduceNeg, Int.reduceAdd, Int.reduceSub, Int.reduceMul, Int.reduceLT, Int.reduceLE, Int.reduceEq, Nat.reduceEqDiff, reduceCtorEq, List.mem_singleton, eq_self, not_true_eq_false, not_false_eq_true, or_true, true_or, cmpOk_lstA, cmpOk_tupA, ckA_lst, ckA_tup, ckAl_nil, ckAl_cons, ckAl_ints, ckAl_rangeL, ck_int, ck_bl, ck_non, ck_strI, cmpOk_str, deq_str, deq_tup, deq_lst, deqA_nil, deqA_cons, deqA_ints, Bool.and_true, Bool.true_and, Bool.and_false, Bool.false_and, decide_true, decide_false, Bool.not_true, Bool.not_false, ↓p_tidied, ↓p_windows])
theorem ok_limited (T : TF K mg) : FnOk P w K mg base CX0 4 T.a_limited T.x_limited ["pattern", "first", "end"] (liP K p_limited) := by
  refine fn_P T.f_limited sc_limited (by intro ds M Q E h; unfold p_limited at h; split at h <;> first | rfl | exact h.elim) (fun cdv A outer s H E z hz hr => (qs_cons (qs_set (i := 3) sc_limited.nd rfl (by first | exact Or.inl rfl | exact Or.inr rfl) (qe_lst (qa_cons (qe_tup (qa_cons qe_int (qa_cons qe_int (qa_cons (qe_tup qa_nil) qa_nil)))) qa_nil)))
    (qs_cons (qs_for PassesOwn.never rfl (qi_seq (h := (qe_call (ok_windows T) (hr.mono (by decide)) (by rfl) T.g_windows T.f_windows.kp T.b_windows pass0 (qa_cons (qe_var 0) qa_nil)))) (qg_seq (n := 3) rfl (qgs_cons (qg_name (i := 4) sc_limited.nd rfl (by first | exact Or.inl rfl | exact Or.inr rfl)) (qgs_cons (qg_name (i := 5) sc_limited.nd rfl (by first | exact Or.inl rfl | exact Or.inr rfl)) (qgs_cons (qg_name (i := 6) sc_limited.nd rfl (by first | exact Or.inl rfl | exact Or.inr rfl)) qgs_nil))))
    (qs_cons (qs_set (i := 7) sc_limited.nd rfl (by first | exact Or.inl rfl | exact Or.inr rfl) (qe_callB (cb_max3 rfl) (by rfl) T.m_max (by decide +kernel) (qab_cons (qb_var 4) (qab_cons (qb_var 1) (qab_cons qb_int qab_nil)))))
    (qs_end (qs_if (PW.pt (qw_and (PW.pt (qw_or (qt_cmp ob_isN (qb_var 5) qb_non (nomark _)) (qw_or1 (qt_cmp ob_lt (qb_var 7) (qb_var 5) (nomark _))))) (qw_and1 (PW.pt (qw_or (qt_cmp ob_isN (qb_var 2) qb_non (nomark _)) (qw_or1 (qt_cmp ob_lt (qb_var 7) (qb_var 2) (nomark _))))))))
    (qs_cons (qs_if (qt_cmp (ob_eq (hu64 hr)) (qb_of (qe_ix (qb_of (qe_ix (qb_var 3) (qb_of (qe_un ub_neg qb_int)))) qb_int)) (qb_var 7) (nomark _))
    (qs_end (qs_pop (i := 3) rfl (by first | exact Or.inl rfl | exact Or.inr (Or.inl rfl) | exact Or.inr (Or.inr rfl))))
    qs_nil)
    (qs_end (qs_append (i := 3) rfl (by first | exact Or.inl rfl | exact Or.inr (Or.inl rfl) | exact Or.inr (Or.inr rfl)) (qe_bin ob_add (qb_of (qe_tup (qa_cons (qe_var 7) qa_nil))) (qb_var 6)))))
    qs_nil))))
    (qs_cons (qs_if (PW.pt (qw_and (qt_cmp ob_notN (qb_var 2) qb_non (nomark _)) (qw_and1 (qt_cmp ob_gt (qb_var 2) (qb_of (qe_callB (cb_max2 rfl) (by rfl) T.m_max (by decide +kernel) (qab_cons (qb_var 1) (qab_cons qb_int qab_nil)))) (nomark _)))))
    (qs_end (qs_append (i := 3) rfl (by first | exact Or.inl rfl | exact Or.inr (Or.inl rfl) | exact Or.inr (Or.inr rfl)) (qe_tup (qa_cons (qe_var 2) (qa_cons qe_int (qa_cons (qe_tup qa_nil) qa_nil))))))
    qs_nil)
    (qs_end (qs_ret (qe_call (ok_tidied T) hr (by rfl) T.g_tidied T.f_tidied.kp T.b_tidied pass0 (qa_cons (qe_var 3) qa_nil)))))))) ?_
  intro ds M Q0 h
  unfold p_limited at h
  split at h
  · skip
    obtain ⟨ps, en, rfl, rfl, ⟨hp, hl⟩, h⟩ := h
    rename_i first
    refine sSeq_i fun N1 h1 => ?_
    walk_at "pl"
    refine h1 _ _ ?_
    clear h1
    refine sSeq_i fun N1 h1 => ?_
    refine sFor_k fun N hN => ?_
    walk_at "pl"
    refine ⟨ps, rfl, by omega, hN _ _ _ ?_⟩
    clear hN
    refine loop_i (fun i ρ M1 => M1 = M ∧ ∃ (gs : List Pc) (a b c d : Sl), LimInv ps first en i gs ∧ ρ = [.va (.tup (ps.map pcD)), .va (.int first), .va (optD en), .ow (.lst (gs.map pcD)), a, b, c, d]) ⟨rfl, [(0, 1, [])], _, _, _, _, LimInv.start hp, rfl⟩ ?_ ?_
    · rintro J hJ i dd ρ M1 hd ⟨rfl, gs, a, b, c, d, hin, rfl⟩
      obtain ⟨s, P, ns, hi, hd⟩ := winD_get hd
      have hil := (List.getElem?_eq_some_iff.mp hi).1
      have hgl := hin.len
      obtain rfl : dd = .tup [.int s, optD ((ps[i + 1]?).map (·.1)), .tup [.int P, .tup (ns.map D.int)]] := by
        rcases hd with ⟨q, hq, rfl⟩ | ⟨_, hq, rfl⟩
        · rw [hq]; rfl
        · rw [hq]; rfl
      clear hd
      walk_at "gn"
      refine sSeq_i fun N2 h2 => ?_
      walk_at "pl"
      refine h2 _ _ ?_
      clear h2
      refine sIf_k fun N3 h3 => ?_
      have hskip : ((∃ q, ps[i + 1]? = some q ∧ q.1 ≤ max (max s first) 0) ∨ ltO (max (max s first) 0) en = false) → ∀ x y z w : Sl, N3 false [.va (.tup (ps.map pcD)), .va (.int first), .va (optD en), .ow (.lst (gs.map pcD)), x, y, z, w] M1 := by
        intro hn x y z w
        refine h3 _ _ _ ?_
        rw [if_neg Bool.false_ne_true]
        walk_at "pl"
        exact hJ _ _ _ ⟨rfl, gs, x, y, z, w, lim_else hp hin hi hn, rfl⟩
      have hadd : (∀ q, ps[i + 1]? = some q → max (max s first) 0 < q.1) → ltO (max (max s first) 0) en = true → ∀ x y : Sl, N3 true [.va (.tup (ps.map pcD)), .va (.int first), .va (optD en), .ow (.lst (gs.map pcD)), x, y, .va (.tup [.int P, .tup (ns.map D.int)]), .va (.int (max (max s first) 0))] M1 := by
        intro g1 g2 x y
        obtain ⟨l1, l2⟩ := lim_add hp hin hi g1 g2
        refine h3 _ _ _ ?_
        rw [if_pos rfl]
        refine sSeq_i fun N4 h4 => ?_
        obtain ⟨as, t, T, ms, e⟩ := pat_last hin.ok
        have hlen : ∀ hs : List Pc, hs.length ≤ gs.length → ∀ K, N4 [.va (.tup (ps.map pcD)), .va (.int first), .va (optD en), .ow (.lst (hs.map pcD)), x, y, .va (.tup [.int P, .tup (ns.map D.int)]), .va (.int (max (max s first) 0))] M1 ∨ K → N4 [.va (.tup (ps.map pcD)), .va (.int first), .va (optD en), .ow (.lst (hs.map pcD)), x, y, .va (.tup [.int P, .tup (ns.map D.int)]), .va (.int (max (max s first) 0))] M1 ∨ K := fun _ _ _ h => h
        clear hlen
        have fin : ∀ hs : List Pc, hs.length ≤ gs.length → LimInv ps first en (i + 1) (hs ++ [(max (max s first) 0, P, ns)]) → N4 [.va (.tup (ps.map pcD)), .va (.int first), .va (optD en), .ow (.lst (hs.map pcD)), x, y, .va (.tup [.int P, .tup (ns.map D.int)]), .va (.int (max (max s first) 0))] M1 := by
          intro hs hl2 hinv
          refine h4 _ _ ?_
          walk_at "pl"
          refine ⟨by omega, hJ _ _ _ ⟨rfl, _, x, y, .va (.tup [.int P, .tup (ns.map D.int)]), .va (.int (max (max s first) 0)), hinv, ?_⟩⟩
          rw [List.map_append, List.map_singleton, pcD_eq]
        have hc : (gs.map (·.1)).getLast? = some t := by rw [e, List.map_append, List.map_singleton, List.getLast?_concat]
        rw [hc] at l2
        have hat := atI_snoc (ds := as.map pcD) (d := pcD (t, T, ms))
        rw [pcD_eq] at hat
        have eg : gs.map pcD = as.map pcD ++ [.tup [.int t, .int T, .tup (ms.map D.int)]] := by rw [e, List.map_append, List.map_singleton, pcD_eq]
        rw [eg]
        simp only [↓sSeq, ↓sAsg, ↓sRet, ↓sRetN, ↓sIf, ↓sDrop, ↓sNext, ↓sApp, ↓sPop, ↓eVar, ↓bVar, ↓bE, ↓eBin, ↓tE, chS_bl, chS_true, chS_false, wipeE_nil, wipeE_cons, ↓eUn, ↓qAnd, ↓qOr, ↓aNil, ↓aCons, ↓aConsB, ↓eTup, ↓eLst, ↓iSeq, Option.isSome_some, lk_int, lk_str, ↓cMax3, ↓gN, ↓gsNil, ↓gsCons, ↓eCall, ↓dI2, ↓dAdd, ↓dEq, ↓dIsN, ↓dNotN, ↓dIx, ↓eB, ↓cMax2, ↓gSq, natc0, natc1, natc2, List.findIdx?_cons, List.findIdx?_nil, intsOf_ints, boolsOf_bls, plAnyI, plAnyR, ↓Sl.val, ↓Ow.toD, ↓stE, ↓PL.isNon, ↓eC, ↓bC, ↓dLt, ↓dGt, List.getElem?_cons_zero, List.getElem?_cons_succ, List.set_cons_zero, List.set_cons_succ, List.map_cons, List.map_nil, List.length_cons, List.length_nil, List.nil_append, List.cons_append, List.replicate_succ, List.replicate_zero, List.append_nil, atI0, atI1, atI2, atI3, atI4, cmpOk_int, cmpOk_bl, cmpOk_non, deq_int, deq_bl, true_and, and_true, Nat.reduceAdd, Nat.reduceSub, Nat.reduceLeDiff, Nat.reduceLT, Bool.not_eq_true', Bool.false_eq_true, if_false, if_true, decide_eq_true_eq, decide_eq_false_iff_not, Nat.zero_add, Nat.sub_zero, Nat.add_zero, Nat.sub_self, ixN31, ixN32, List.length_map, List.length_set, Int.reduceToNat, Int.reducePow, Int.reduceNeg, Int.reduceAdd, Int.reduceSub, Int.reduceMul, Int.reduceLT, Int.reduceLE, Int.reduceEq, Nat.reduceEqDiff, reduceCtorEq, List.mem_singleton, eq_self, not_true_eq_false, not_false_eq_true, or_true, true_or, cmpOk_lstA, cmpOk_tupA, ckA_lst, ckA_tup, ckAl_nil, ckAl_cons, ckAl_ints, ckAl_rangeL, ck_int, ck_bl, ck_non, ck_strI, cmpOk_str, deq_str, deq_tup, deq_lst, deqA_nil, deqA_cons, deqA_ints, Bool.and_true, Bool.true_and, Bool.and_false, Bool.false_and, decide_true, decide_false, Bool.not_true, Bool.not_false, ↓p_tidied, ↓p_windows, hat]
        by_cases c1 : t = max (max s first) 0
        · rw [if_pos c1]
          rw [if_pos (by rw [c1])] at l2
          have e0 := l1 as t (T, ms) e c1
          rw [e0] at eg ⊢
          have hd0 : gs.dropLast = [] := by rw [e, e0]; rfl
          rw [hd0] at l2
          have := fin [] (Nat.zero_le _) l2
          exact ⟨by simp, this⟩
        · rw [if_neg c1]
          rw [if_neg fun w => c1 (Option.some.inj w)] at l2
          have := fin gs (Nat.le_refl _) l2
          rw [eg] at this
          exact this
      clear h3
      cases hq : ps[i + 1]? with
      | none =>
        have g1 : ∀ q, ps[i + 1]? = some q → max (max s first) 0 < q.1 := fun q hq2 => by rw [hq] at hq2; cases hq2
        cases en with
        | none =>
          simp only [↓sSeq, ↓sAsg, ↓sRet, ↓sRetN, ↓sIf, ↓sDrop, ↓sNext, ↓sApp, ↓sPop, ↓eVar, ↓bVar, ↓bE, ↓eBin, ↓tE, chS_bl, chS_true, chS_false, wipeE_nil, wipeE_cons, ↓eUn, ↓qAnd, ↓qOr, ↓aNil, ↓aCons, ↓aConsB, ↓eTup, ↓eLst, ↓iSeq, Option.isSome_some, lk_int, lk_str, ↓cMax3, ↓gN, ↓gsNil, ↓gsCons, ↓eCall, ↓dI2, ↓dAdd, ↓dEq, ↓dIsN, ↓dNotN, ↓dIx, ↓eB, ↓cMax2, ↓gSq, natc0, natc1, natc2, List.findIdx?_cons, List.findIdx?_nil, intsOf_ints, boolsOf_bls, plAnyI, plAnyR, ↓Sl.val, ↓Ow.toD, ↓stE, ↓PL.isNon, ↓eC, ↓bC, ↓dLt, ↓dGt, List.getElem?_cons_zero, List.getElem?_cons_succ, List.set_cons_zero, List.set_cons_succ, List.map_cons, List.map_nil, List.length_cons, List.length_nil, List.nil_append, List.cons_append, List.replicate_succ, List.replicate_zero, List.append_nil, atI0, atI1, atI2, atI3, atI4, cmpOk_int, cmpOk_bl, cmpOk_non, deq_int, deq_bl, true_and, and_true, Nat.reduceAdd, Nat.reduceSub, Nat.reduceLeDiff, Nat.reduceLT, Bool.not_eq_true', Bool.false_eq_true, if_false, if_true, decide_eq_true_eq, decide_eq_false_iff_not, Nat.zero_add, Nat.sub_zero, Nat.add_zero, Nat.sub_self, ixN31, ixN32, List.length_map, List.length_set, Int.reduceToNat, Int.reducePow, Int.reduceNeg, Int.reduceAdd, Int.reduceSub, Int.reduceMul, Int.reduceLT, Int.reduceLE, Int.reduceEq, Nat.reduceEqDiff, reduceCtorEq, List.mem_singleton, eq_self, not_true_eq_false, not_false_eq_true, or_true, true_or, cmpOk_lstA, cmpOk_tupA, ckA_lst, ckA_tup, ckAl_nil, ckAl_cons, ckAl_ints, ckAl_rangeL, ck_int, ck_bl, ck_non, ck_strI, cmpOk_str, deq_str, deq_tup, deq_lst, deqA_nil, deqA_cons, deqA_ints, Bool.and_true, Bool.true_and, Bool.and_false, Bool.false_and, decide_true, decide_false, Bool.not_true, Bool.not_false, ↓p_tidied, ↓p_windows, optD]
          exact hadd g1 rfl _ _
        | some e =>
          simp only [↓sSeq, ↓sAsg, ↓sRet, ↓sRetN, ↓sIf, ↓sDrop, ↓sNext, ↓sApp, ↓sPop, ↓eVar, ↓bVar, ↓bE, ↓eBin, ↓tE, chS_bl, chS_true, chS_false, wipeE_nil, wipeE_cons, ↓eUn, ↓qAnd, ↓qOr, ↓aNil, ↓aCons, ↓aConsB, ↓eTup, ↓eLst, ↓iSeq, Option.isSome_some, lk_int, lk_str, ↓cMax3, ↓gN, ↓gsNil, ↓gsCons, ↓eCall, ↓dI2, ↓dAdd, ↓dEq, ↓dIsN, ↓dNotN, ↓dIx, ↓eB, ↓cMax2, ↓gSq, natc0, natc1, natc2, List.findIdx?_cons, List.findIdx?_nil, intsOf_ints, boolsOf_bls, plAnyI, plAnyR, ↓Sl.val, ↓Ow.toD, ↓stE, ↓PL.isNon, ↓eC, ↓bC, ↓dLt, ↓dGt, List.getElem?_cons_zero, List.getElem?_cons_succ, List.set_cons_zero, List.set_cons_succ, List.map_cons, List.map_nil, List.length_cons, List.length_nil, List.nil_append, List.cons_append, List.replicate_succ, List.replicate_zero, List.append_nil, atI0, atI1, atI2, atI3, atI4, cmpOk_int, cmpOk_bl, cmpOk_non, deq_int, deq_bl, true_and, and_true, Nat.reduceAdd, Nat.reduceSub, Nat.reduceLeDiff, Nat.reduceLT, Bool.not_eq_true', Bool.false_eq_true, if_false, if_true, decide_eq_true_eq, decide_eq_false_iff_not, Nat.zero_add, Nat.sub_zero, Nat.add_zero, Nat.sub_self, ixN31, ixN32, List.length_map, List.length_set, Int.reduceToNat, Int.reducePow, Int.reduceNeg, Int.reduceAdd, Int.reduceSub, Int.reduceMul, Int.reduceLT, Int.reduceLE, Int.reduceEq, Nat.reduceEqDiff, reduceCtorEq, List.mem_singleton, eq_self, not_true_eq_false, not_false_eq_true, or_true, true_or, cmpOk_lstA, cmpOk_tupA, ckA_lst, ckA_tup, ckAl_nil, ckAl_cons, ckAl_ints, ckAl_rangeL, ck_int, ck_bl, ck_non, ck_strI, cmpOk_str, deq_str, deq_tup, deq_lst, deqA_nil, deqA_cons, deqA_ints, Bool.and_true, Bool.true_and, Bool.and_false, Bool.false_and, decide_true, decide_false, Bool.not_true, Bool.not_false, ↓p_tidied, ↓p_windows, optD]
          by_cases c : max (max s first) 0 < e
          · rw [decide_eq_true c]
            exact hadd g1 (by simpa [ltO] using c) _ _
          · rw [decide_eq_false c]
            exact hskip (.inr (by simpa [ltO] using c)) _ _ _ _
      | some q =>
        by_cases c1 : max (max s first) 0 < q.1
        · have g1 : ∀ q', ps[i + 1]? = some q' → max (max s first) 0 < q'.1 := fun q' hq2 => by rw [hq] at hq2; cases hq2; exact c1
          cases en with
          | none =>
            simp only [↓sSeq, ↓sAsg, ↓sRet, ↓sRetN, ↓sIf, ↓sDrop, ↓sNext, ↓sApp, ↓sPop, ↓eVar, ↓bVar, ↓bE, ↓eBin, ↓tE, chS_bl, chS_true, chS_false, wipeE_nil, wipeE_cons, ↓eUn, ↓qAnd, ↓qOr, ↓aNil, ↓aCons, ↓aConsB, ↓eTup, ↓eLst, ↓iSeq, Option.isSome_some, lk_int, lk_str, ↓cMax3, ↓gN, ↓gsNil, ↓gsCons, ↓eCall, ↓dI2, ↓dAdd, ↓dEq, ↓dIsN, ↓dNotN, ↓dIx, ↓eB, ↓cMax2, ↓gSq, natc0, natc1, natc2, List.findIdx?_cons, List.findIdx?_nil, intsOf_ints, boolsOf_bls, plAnyI, plAnyR, ↓Sl.val, ↓Ow.toD, ↓stE, ↓PL.isNon, ↓eC, ↓bC, ↓dLt, ↓dGt, List.getElem?_cons_zero, List.getElem?_cons_succ, List.set_cons_zero, List.set_cons_succ, List.map_cons, List.map_nil, List.length_cons, List.length_nil, List.nil_append, List.cons_append, List.replicate_succ, List.replicate_zero, List.append_nil, atI0, atI1, atI2, atI3, atI4, cmpOk_int, cmpOk_bl, cmpOk_non, deq_int, deq_bl, true_and, and_true, Nat.reduceAdd, Nat.reduceSub, Nat.reduceLeDiff, Nat.reduceLT, Bool.not_eq_true', Bool.false_eq_true, if_false, if_true, decide_eq_true_eq, decide_eq_false_iff_not, Nat.zero_add, Nat.sub_zero, Nat.add_zero, Nat.sub_self, ixN31, ixN32, List.length_map, List.length_set, Int.reduceToNat, Int.reducePow, Int.reduceNeg, Int.reduceAdd, Int.reduceSub, Int.reduceMul, Int.reduceLT, Int.reduceLE, Int.reduceEq, Nat.reduceEqDiff, reduceCtorEq, List.mem_singleton, eq_self, not_true_eq_false, not_false_eq_true, or_true, true_or, cmpOk_lstA, cmpOk_tupA, ckA_lst, ckA_tup, ckAl_nil, ckAl_cons, ckAl_ints, ckAl_rangeL, ck_int, ck_bl, ck_non, ck_strI, cmpOk_str, deq_str, deq_tup, deq_lst, deqA_nil, deqA_cons, deqA_ints, Bool.and_true, Bool.true_and, Bool.and_false, Bool.false_and, decide_true, decide_false, Bool.not_true, Bool.not_false, ↓p_tidied, ↓p_windows, optD, Option.map_some]
            rw [if_pos c1]
            exact hadd g1 rfl _ _
          | some e =>
            simp only [↓sSeq, ↓sAsg, ↓sRet, ↓sRetN, ↓sIf, ↓sDrop, ↓sNext, ↓sApp, ↓sPop, ↓eVar, ↓bVar, ↓bE, ↓eBin, ↓tE, chS_bl, chS_true, chS_false, wipeE_nil, wipeE_cons, ↓eUn, ↓qAnd, ↓qOr, ↓aNil, ↓aCons, ↓aConsB, ↓eTup, ↓eLst, ↓iSeq, Option.isSome_some, lk_int, lk_str, ↓cMax3, ↓gN, ↓gsNil, ↓gsCons, ↓eCall, ↓dI2, ↓dAdd, ↓dEq, ↓dIsN, ↓dNotN, ↓dIx, ↓eB, ↓cMax2, ↓gSq, natc0, natc1, natc2, List.findIdx?_cons, List.findIdx?_nil, intsOf_ints, boolsOf_bls, plAnyI, plAnyR, ↓Sl.val, ↓Ow.toD, ↓stE, ↓PL.isNon, ↓eC, ↓bC, ↓dLt, ↓dGt, List.getElem?_cons_zero, List.getElem?_cons_succ, List.set_cons_zero, List.set_cons_succ, List.map_cons, List.map_nil, List.length_cons, List.length_nil, List.nil_append, List.cons_append, List.replicate_succ, List.replicate_zero, List.append_nil, atI0, atI1, atI2, atI3, atI4, cmpOk_int, cmpOk_bl, cmpOk_non, deq_int, deq_bl, true_and, and_true, Nat.reduceAdd, Nat.reduceSub, Nat.reduceLeDiff, Nat.reduceLT, Bool.not_eq_true', Bool.false_eq_true, if_false, if_true, decide_eq_true_eq, decide_eq_false_iff_not, Nat.zero_add, Nat.sub_zero, Nat.add_zero, Nat.sub_self, ixN31, ixN32, List.length_map, List.length_set, Int.reduceToNat, Int.reducePow, Int.reduceNeg, Int.reduceAdd, Int.reduceSub, Int.reduceMul, Int.reduceLT, Int.reduceLE, Int.reduceEq, Nat.reduceEqDiff, reduceCtorEq, List.mem_singleton, eq_self, not_true_eq_false, not_false_eq_true, or_true, true_or, cmpOk_lstA, cmpOk_tupA, ckA_lst, ckA_tup, ckAl_nil, ckAl_cons, ckAl_ints, ckAl_rangeL, ck_int, ck_bl, ck_non, ck_strI, cmpOk_str, deq_str, deq_tup, deq_lst, deqA_nil, deqA_cons, deqA_ints, Bool.and_true, Bool.true_and, Bool.and_false, Bool.false_and, decide_true, decide_false, Bool.not_true, Bool.not_false, ↓p_tidied, ↓p_windows, optD, Option.map_some]
            rw [if_pos c1]
            by_cases c : max (max s first) 0 < e
            · rw [decide_eq_true c]
              exact hadd g1 (by simpa [ltO] using c) _ _
            · rw [decide_eq_false c]
              exact hskip (.inr (by simpa [ltO] using c)) _ _ _ _
        · simp only [↓sSeq, ↓sAsg, ↓sRet, ↓sRetN, ↓sIf, ↓sDrop, ↓sNext, ↓sApp, ↓sPop, ↓eVar, ↓bVar, ↓bE, ↓eBin, ↓tE, chS_bl, chS_true, chS_false, wipeE_nil, wipeE_cons, ↓eUn, ↓qAnd, ↓qOr, ↓aNil, ↓aCons, ↓aConsB, ↓eTup, ↓eLst, ↓iSeq, Option.isSome_some, lk_int, lk_str, ↓cMax3, ↓gN, ↓gsNil, ↓gsCons, ↓eCall, ↓dI2, ↓dAdd, ↓dEq, ↓dIsN, ↓dNotN, ↓dIx, ↓eB, ↓cMax2, ↓gSq, natc0, natc1, natc2, List.findIdx?_cons, List.findIdx?_nil, intsOf_ints, boolsOf_bls, plAnyI, plAnyR, ↓Sl.val, ↓Ow.toD, ↓stE, ↓PL.isNon, ↓eC, ↓bC, ↓dLt, ↓dGt, List.getElem?_cons_zero, List.getElem?_cons_succ, List.set_cons_zero, List.set_cons_succ, List.map_cons, List.map_nil, List.length_cons, List.length_nil, List.nil_append, List.cons_append, List.replicate_succ, List.replicate_zero, List.append_nil, atI0, atI1, atI2, atI3, atI4, cmpOk_int, cmpOk_bl, cmpOk_non, deq_int, deq_bl, true_and, and_true, Nat.reduceAdd, Nat.reduceSub, Nat.reduceLeDiff, Nat.reduceLT, Bool.not_eq_true', Bool.false_eq_true, if_false, if_true, decide_eq_true_eq, decide_eq_false_iff_not, Nat.zero_add, Nat.sub_zero, Nat.add_zero, Nat.sub_self, ixN31, ixN32, List.length_map, List.length_set, Int.reduceToNat, Int.reducePow, Int.reduceNeg, Int.reduceAdd, Int.reduceSub, Int.reduceMul, Int.reduceLT, Int.reduceLE, Int.reduceEq, Nat.reduceEqDiff, reduceCtorEq, List.mem_singleton, eq_self, not_true_eq_false, not_false_eq_true, or_true, true_or, cmpOk_lstA, cmpOk_tupA, ckA_lst, ckA_tup, ckAl_nil, ckAl_cons, ckAl_ints, ckAl_rangeL, ck_int, ck_bl, ck_non, ck_strI, cmpOk_str, deq_str, deq_tup, deq_lst, deqA_nil, deqA_cons, deqA_ints, Bool.and_true, Bool.true_and, Bool.and_false, Bool.false_and, decide_true, decide_false, Bool.not_true, Bool.not_false, ↓p_tidied, ↓p_windows, optD, Option.map_some]
          rw [if_neg c1]
          exact hskip (.inl ⟨q, hq, by omega⟩) _ _ _ _
    · rintro ρ M1 ⟨rfl, gs, a, b, c, d, hin, rfl⟩
      rw [winD_len] at hin
      refine h1 _ _ ?_
      clear h1
      refine sSeq_i fun N1 h1 => ?_
      have hgl := hin.len
      have fin : ∀ hs : List Pc, PatOk hs → hs.length ≤ ps.length + 2 → (∀ d, 0 ≤ d → patB hs d = (patB ps d && decide (first ≤ d) && ltO d en)) → (∀ f ∈ hs, f.1 = 0 ∨ f.1 = first ∨ some f.1 = en ∨ ∃ p ∈ ps, f.1 = p.1) → N1 [.va (.tup (ps.map pcD)), .va (.int first), .va (optD en), .ow (.lst (hs.map pcD)), a, b, c, d] M1 := by
        intro hs q1 q2 q3 q4
        refine h1 _ _ ?_
        walk_at "pl"
        refine ⟨hs, rfl, ⟨q1, by omega⟩, fun fs t1 t2 t3 t4 => h fs t1 (fun d hd => (t2 d).trans (q3 d hd)) (fun f hf => ?_) (by omega)⟩
        obtain ⟨p, hp2, e, _⟩ := t4 f hf
        rw [e]
        exact q4 p hp2
      clear h1
      have hnone : ps[ps.length]? = none := List.getElem?_eq_none (Nat.le_refl _)
      have tell := fun d d0 he => hin.tell d d0 (fun p hp2 => by rw [hnone] at hp2; cases hp2) he
      have org : ∀ f ∈ gs, f.1 = 0 ∨ f.1 = first ∨ some f.1 = en ∨ ∃ p ∈ ps, f.1 = p.1 := fun f hf => by
        rcases hin.org f hf with w | w | w
        · exact .inl w
        · exact .inr (.inl w)
        · exact .inr (.inr (.inr w))
      cases en with
      | none =>
        simp only [↓sSeq, ↓sAsg, ↓sRet, ↓sRetN, ↓sIf, ↓sDrop, ↓sNext, ↓sApp, ↓sPop, ↓eVar, ↓bVar, ↓bE, ↓eBin, ↓tE, chS_bl, chS_true, chS_false, wipeE_nil, wipeE_cons, ↓eUn, ↓qAnd, ↓qOr, ↓aNil, ↓aCons, ↓aConsB, ↓eTup, ↓eLst, ↓iSeq, Option.isSome_some, lk_int, lk_str, ↓cMax3, ↓gN, ↓gsNil, ↓gsCons, ↓eCall, ↓dI2, ↓dAdd, ↓dEq, ↓dIsN, ↓dNotN, ↓dIx, ↓eB, ↓cMax2, ↓gSq, natc0, natc1, natc2, List.findIdx?_cons, List.findIdx?_nil, intsOf_ints, boolsOf_bls, plAnyI, plAnyR, ↓Sl.val, ↓Ow.toD, ↓stE, ↓PL.isNon, ↓eC, ↓bC, ↓dLt, ↓dGt, List.getElem?_cons_zero, List.getElem?_cons_succ, List.set_cons_zero, List.set_cons_succ, List.map_cons, List.map_nil, List.length_cons, List.length_nil, List.nil_append, List.cons_append, List.replicate_succ, List.replicate_zero, List.append_nil, atI0, atI1, atI2, atI3, atI4, cmpOk_int, cmpOk_bl, cmpOk_non, deq_int, deq_bl, true_and, and_true, Nat.reduceAdd, Nat.reduceSub, Nat.reduceLeDiff, Nat.reduceLT, Bool.not_eq_true', Bool.false_eq_true, if_false, if_true, decide_eq_true_eq, decide_eq_false_iff_not, Nat.zero_add, Nat.sub_zero, Nat.add_zero, Nat.sub_self, ixN31, ixN32, List.length_map, List.length_set, Int.reduceToNat, Int.reducePow, Int.reduceNeg, Int.reduceAdd, Int.reduceSub, Int.reduceMul, Int.reduceLT, Int.reduceLE, Int.reduceEq, Nat.reduceEqDiff, reduceCtorEq, List.mem_singleton, eq_self, not_true_eq_false, not_false_eq_true, or_true, true_or, cmpOk_lstA, cmpOk_tupA, ckA_lst, ckA_tup, ckAl_nil, ckAl_cons, ckAl_ints, ckAl_rangeL, ck_int, ck_bl, ck_non, ck_strI, cmpOk_str, deq_str, deq_tup, deq_lst, deqA_nil, deqA_cons, deqA_ints, Bool.and_true, Bool.true_and, Bool.and_false, Bool.false_and, decide_true, decide_false, Bool.not_true, Bool.not_false, ↓p_tidied, ↓p_windows, optD]
        exact fin gs hin.ok (by omega) (fun d hd => by rw [tell d hd rfl]; simp [ltO]) org
      | some e =>
        simp only [↓sSeq, ↓sAsg, ↓sRet, ↓sRetN, ↓sIf, ↓sDrop, ↓sNext, ↓sApp, ↓sPop, ↓eVar, ↓bVar, ↓bE, ↓eBin, ↓tE, chS_bl, chS_true, chS_false, wipeE_nil, wipeE_cons, ↓eUn, ↓qAnd, ↓qOr, ↓aNil, ↓aCons, ↓aConsB, ↓eTup, ↓eLst, ↓iSeq, Option.isSome_some, lk_int, lk_str, ↓cMax3, ↓gN, ↓gsNil, ↓gsCons, ↓eCall, ↓dI2, ↓dAdd, ↓dEq, ↓dIsN, ↓dNotN, ↓dIx, ↓eB, ↓cMax2, ↓gSq, natc0, natc1, natc2, List.findIdx?_cons, List.findIdx?_nil, intsOf_ints, boolsOf_bls, plAnyI, plAnyR, ↓Sl.val, ↓Ow.toD, ↓stE, ↓PL.isNon, ↓eC, ↓bC, ↓dLt, ↓dGt, List.getElem?_cons_zero, List.getElem?_cons_succ, List.set_cons_zero, List.set_cons_succ, List.map_cons, List.map_nil, List.length_cons, List.length_nil, List.nil_append, List.cons_append, List.replicate_succ, List.replicate_zero, List.append_nil, atI0, atI1, atI2, atI3, atI4, cmpOk_int, cmpOk_bl, cmpOk_non, deq_int, deq_bl, true_and, and_true, Nat.reduceAdd, Nat.reduceSub, Nat.reduceLeDiff, Nat.reduceLT, Bool.not_eq_true', Bool.false_eq_true, if_false, if_true, decide_eq_true_eq, decide_eq_false_iff_not, Nat.zero_add, Nat.sub_zero, Nat.add_zero, Nat.sub_self, ixN31, ixN32, List.length_map, List.length_set, Int.reduceToNat, Int.reducePow, Int.reduceNeg, Int.reduceAdd, Int.reduceSub, Int.reduceMul, Int.reduceLT, Int.reduceLE, Int.reduceEq, Nat.reduceEqDiff, reduceCtorEq, List.mem_singleton, eq_self, not_true_eq_false, not_false_eq_true, or_true, true_or, cmpOk_lstA, cmpOk_tupA, ckA_lst, ckA_tup, ckAl_nil, ckAl_cons, ckAl_ints, ckAl_rangeL, ck_int, ck_bl, ck_non, ck_strI, cmpOk_str, deq_str, deq_tup, deq_lst, deqA_nil, deqA_cons, deqA_ints, Bool.and_true, Bool.true_and, Bool.and_false, Bool.false_and, decide_true, decide_false, Bool.not_true, Bool.not_false, ↓p_tidied, ↓p_windows, optD]
        rw [show (if 0 > first then 0 else first) = max first 0 by split <;> omega]
        by_cases c : max first 0 < e
        · rw [if_pos c]
          have hk1 : KdOk (1, []) := ⟨⟨by decide, by simp, by simp⟩, by decide, by decide⟩
          have hlt : ∀ g ∈ gs, g.1 < e := fun g hg => by
            rcases hin.below g hg with w | ⟨_, w, _⟩
            · omega
            · simpa [ltO] using w
          refine ⟨by omega, ?_⟩
          have := fin (gs ++ [(e, 1, [])]) (hin.ok.snocP hk1 hlt) (by simp; omega) (fun d d0 => ?_) fun f hf => ?_
          · rw [List.map_append] at this
            exact this
          · rw [patB_snoc]
            by_cases c2 : e ≤ d
            · rw [if_pos c2]
              simp [inPc, ltO]
              omega
            · rw [if_neg c2, tell d d0 (by simp [ltO]; omega)]
              simp [ltO]
              omega
          · rcases List.mem_append.mp hf with w | w
            · exact org f w
            · rw [List.mem_singleton.mp w]
              exact .inr (.inr (.inl rfl))
        · rw [if_neg c]
          rcases hin.non with w | w
          · refine fin gs hin.ok (by omega) (fun d d0 => ?_) org
            rw [w]
            simp [patB, inPc, ltO]
            omega
          · exact absurd (by simpa [ltO] using w) c
  · exact h.elim

local macro_rules | `(tactic| walk_at "go") => `(tactic| repeat' (first | assumption | with_reducible apply And.intro | walk_at "cs"))
local macro_rules | `(tactic| walk_at "ex") => `(tactic| simp only [List.cons.injEq, Sl.va.injEq, Sl.ow.injEq, Ow.lst.injEq, D.int.injEq, D.bl.injEq, D.str.injEq, D.lst.injEq, D.tup.injEq, true_and, and_true])
local macro_rules | `(tactic| walk_at "gn") => `(tactic| simp only [↓gN, ↓gsNil, ↓gsCons, ↓gT, ↓gSq, List.length_cons, List.length_nil, Nat.reduceAdd, true_and, List.set_cons_zero, List.set_cons_succ])
local macro_rules | `(tactic| walk_at "sp") => `(tactic| repeat' (first | split | with_reducible apply And.intro))
local macro_rules | `(tactic| walk_at "cs") => `(tactic| first | (unfold CMulP; omega) | (unfold CPowP; omega) | (unfold CModP; omega) | (unfold CDivP; omega))
local macro_rules | `(tactic| walk_at "pl") => `(tactic| simp only [↓sSeq, ↓sAsg, ↓sRet, ↓sRetN, ↓sIf, ↓sDrop, ↓sNext, ↓sSet, ↓eVar, ↓bVar, ↓eBin, ↓tE, chS_bl, chS_true, chS_false, wipeE_nil, wipeE_cons, ↓aNil, ↓aCons, ↓iSeq, ↓iR1, Option.isSome_some, lk_int, lk_str, ↓gN, ↓eCall, ↓dI2, natc0, natc1, natc2, List.findIdx?_cons, List.findIdx?_nil, intsOf_ints, boolsOf_bls, plAnyI, plAnyR, ↓Sl.val, ↓Ow.toD, ↓stE, ↓tYes', ↓PL.isNon, ↓eC, ↓dLt, List.getElem?_cons_zero, List.getElem?_cons_succ, List.set_cons_zero, List.set_cons_succ, List.map_cons, List.map_nil, List.length_cons, List.length_nil, List.nil_append, List.cons_append, List.replicate_succ, List.replicate_zero, List.append_nil, atI0, atI1, atI2, atI3, atI4, cmpOk_int, cmpOk_bl, cmpOk_non, deq_int, deq_bl, true_and, and_true, Nat.reduceAdd, Nat.reduceSub, Nat.reduceLeDiff, Nat.reduceLT, Bool.not_eq_true', Bool.false_eq_true, if_false, if_true, decide_eq_true_eq, decide_eq_false_iff_not, Nat.zero_add, Nat.sub_zero, Nat.add_zero, Nat.sub_self, ixN31, ixN32, List.length_map, List.length_set, Int.reduceToNat, Int.reducePow, Int.reduceNeg, Int.reduceAdd, Int.reduceSub, Int.reduceMul, Int.reduceLT, Int.reduceLE, Int.reduceEq, Nat.reduceEqDiff, reduceCtorEq, List.mem_singleton, eq_self, not_true_eq_false, not_false_eq_true, or_true, true_or, cmpOk_lstA, cmpOk_tupA, ckA_lst, ckA_tup, ckAl_nil, ckAl_cons, ckAl_ints, ckAl_rangeL, ck_int, ck_bl, ck_non, ck_strI, cmpOk_str, deq_str, deq_tup, deq_lst, deqA_nil, deqA_cons, deqA_ints, Bool.and_true, Bool.true_and, Bool.and_false, Bool.false_and, decide_true, decide_false, Bool.not_true, Bool.not_false, ↓p__law_rule_days])
theorem ok__law_flags (T : TF K mg) : FnOk P w K mg base CX0 4 T.a__law_flags T.x__law_flags ["rule", "end"] (liP K p__law_flags) := by
  refine fn_P T.f__law_flags sc__law_flags (by intro ds M Q E h; unfold p__law_flags at h; split at h <;> first | rfl | exact h.elim) (fun cdv A outer s H E z hz hr => (qs_cons (qs_setLc (i := 2) rfl sc__law_flags.nd rfl rfl (sw_true rfl rfl rfl (by decide +kernel)) (own := [("day", 3)]) (qi_range1 (by rfl) T.m_range (qa_cons (qe_var 1) qa_nil)) (blkOk_by (own := [("day", 3)]) (N := N__law_flags) (sc := defScope s__law_flags) (by decide +kernel)) (fun _ _ _ _ _ z hz => (qg_name (i := 3) sc__law_flags.nd rfl (by first | exact Or.inl rfl | exact Or.inr rfl))) (fun _ _ _ _ _ => an_t0) (fun _ _ _ _ _ z hz => qe_bl))
    (qs_cons (qs_for PassesOwn.never rfl (qi_seq (h := (qe_call (ok__law_rule_days T) hr (by rfl) T.g__law_rule_days T.f__law_rule_days.kp T.b__law_rule_days pass0 (qa_cons (qe_var 0) (qa_cons (qe_var 1) qa_nil))))) (qg_name (i := 3) sc__law_flags.nd rfl (by first | exact Or.inl rfl | exact Or.inr rfl))
    (qs_end (qs_if (qt_cmp ob_lt (qb_var 3) (qb_var 1) (nomark _))
    (qs_end (qs_setItem (i := 2) rfl (by first | exact Or.inl rfl | exact Or.inr (Or.inl rfl) | exact Or.inr (Or.inr rfl)) qe_bl (qb_var 3)))
    qs_nil)))
    (qs_end (qs_ret (qe_var 2)))))) ?_
  intro ds M Q0 h
  unfold p__law_flags at h
  split at h
  · skip
    obtain ⟨r, rfl, ⟨hr, he0, he1⟩, h⟩ := h
    refine sSeq_i fun N1 h1 => ?_
    walk_at "pl"
    rename_i e
    refine eLc_fm (fun _ => some (.bl false)) (rangeL 0 e) (fun Q h => by walk_at "pl"; exact ⟨by omega, h⟩) rfl (by rw [rangeL_len]; omega) ?_ ?_
    · intro i d acc J hd hl2 hJ
      obtain ⟨rfl, hi⟩ := rangeL_get hd
      walk_at "pl"
      exact ⟨hl2, hJ⟩
    refine h1 _ _ ?_
    clear h1
    walk_at "pl"
    refine sFor_k fun N hN => ?_
    walk_at "pl"
    refine ⟨r, rfl, hr, ⟨he0, by omega⟩, hN _ _ _ ?_⟩
    clear hN
    generalize hDy : (rgI 0 (max e r.first)).filter (rulB r) = Dy
    have hmem : ∀ d, d ∈ Dy ↔ (0 ≤ d ∧ d < max e r.first) ∧ rulB r d = true := fun d => by rw [← hDy, List.mem_filter, rgI_mem]
    have hstart : (rangeL 0 e).filterMap (fun _ => some (D.bl false)) = (rgI 0 e).map fun d => D.bl (decide (d ∈ Dy.take 0)) := by
      rw [rangeL_rgI, List.filterMap_map]
      simp [Function.comp_def]
    rw [hstart]
    refine loop_i (fun j ρ M1 => M1 = M ∧ ∃ a : Sl, ρ = [.va (rulD r), .va (.int e), .ow (.lst ((rgI 0 e).map fun d => D.bl (decide (d ∈ Dy.take j)))), a]) ⟨rfl, _, rfl⟩ ?_ ?_
    · rintro J hJ j dd ρ M1 hd ⟨rfl, a, rfl⟩
      obtain ⟨v, rfl, hv⟩ := ints_get hd
      have hv2 := (hmem v).mp (List.mem_of_getElem? hv)
      walk_at "gn"
      walk_at "pl"
      split
      · rename_i hve
        have hix : ixN (rgI 0 e).length v = some v.toNat := by
          unfold ixN
          rw [rgI_len]
          simp only [hv2.1.1, if_true]
          rw [if_pos (by omega)]
        simp only [↓sSeq, ↓sAsg, ↓sRet, ↓sRetN, ↓sIf, ↓sDrop, ↓sNext, ↓sSet, ↓eVar, ↓bVar, ↓eBin, ↓tE, chS_bl, chS_true, chS_false, wipeE_nil, wipeE_cons, ↓aNil, ↓aCons, ↓iSeq, ↓iR1, Option.isSome_some, lk_int, lk_str, ↓gN, ↓eCall, ↓dI2, natc0, natc1, natc2, List.findIdx?_cons, List.findIdx?_nil, intsOf_ints, boolsOf_bls, plAnyI, plAnyR, ↓Sl.val, ↓Ow.toD, ↓stE, ↓tYes', ↓PL.isNon, ↓eC, ↓dLt, List.getElem?_cons_zero, List.getElem?_cons_succ, List.set_cons_zero, List.set_cons_succ, List.map_cons, List.map_nil, List.length_cons, List.length_nil, List.nil_append, List.cons_append, List.replicate_succ, List.replicate_zero, List.append_nil, atI0, atI1, atI2, atI3, atI4, cmpOk_int, cmpOk_bl, cmpOk_non, deq_int, deq_bl, true_and, and_true, Nat.reduceAdd, Nat.reduceSub, Nat.reduceLeDiff, Nat.reduceLT, Bool.not_eq_true', Bool.false_eq_true, if_false, if_true, decide_eq_true_eq, decide_eq_false_iff_not, Nat.zero_add, Nat.sub_zero, Nat.add_zero, Nat.sub_self, ixN31, ixN32, List.length_map, List.length_set, Int.reduceToNat, Int.reducePow, Int.reduceNeg, Int.reduceAdd, Int.reduceSub, Int.reduceMul, Int.reduceLT, Int.reduceLE, Int.reduceEq, Nat.reduceEqDiff, reduceCtorEq, List.mem_singleton, eq_self, not_true_eq_false, not_false_eq_true, or_true, true_or, cmpOk_lstA, cmpOk_tupA, ckA_lst, ckA_tup, ckAl_nil, ckAl_cons, ckAl_ints, ckAl_rangeL, ck_int, ck_bl, ck_non, ck_strI, cmpOk_str, deq_str, deq_tup, deq_lst, deqA_nil, deqA_cons, deqA_ints, Bool.and_true, Bool.true_and, Bool.and_false, Bool.false_and, decide_true, decide_false, Bool.not_true, Bool.not_false, ↓p__law_rule_days, hix]
        have := hJ (j + 1) [.va (rulD r), .va (.int e), .ow (.lst ((rgI 0 e).map fun d => D.bl (decide (d ∈ Dy.take (j + 1))))), .va (.int v)] M1 ⟨rfl, _, rfl⟩
        rw [List.take_add_one, hv] at this
        rw [show (((rgI 0 e).map fun d => D.bl (decide (d ∈ Dy.take j))).set v.toNat (D.bl true)) = (rgI 0 e).map fun d => D.bl (decide (d ∈ Dy.take j ++ (some v).toList)) from by
          refine List.ext_getElem? fun q => ?_
          rw [List.getElem?_set, List.getElem?_map, List.getElem?_map, List.length_map, rgI_len]
          cases hq : (rgI 0 e)[q]? with
          | none =>
            have := List.getElem?_eq_none_iff.mp hq
            rw [rgI_len] at this
            split
            · rw [if_neg (by omega)]; rfl
            · rfl
          | some d =>
            obtain ⟨rfl, hq2⟩ := rgI_get hq
            split
            · rename_i hvq
              rw [if_pos (by omega)]
              show some (D.bl true) = some (D.bl _)
              rw [decide_eq_true (show (0 : Int) + (q : Int) ∈ Dy.take j ++ (some v).toList from List.mem_append.mpr (.inr (by simp; omega)))]
            · rename_i hvq
              show some (D.bl _) = some (D.bl _)
              congr 2
              refine decide_eq_decide.mpr ?_
              rw [List.mem_append]
              refine ⟨.inl, fun w => w.elim id fun w => ?_⟩
              have h1 : (0 : Int) + (q : Int) = v := by simpa using w
              omega]
        exact this
      · rename_i hve
        have := hJ (j + 1) [.va (rulD r), .va (.int e), .ow (.lst ((rgI 0 e).map fun d => D.bl (decide (d ∈ Dy.take (j + 1))))), .va (.int v)] M1 ⟨rfl, _, rfl⟩
        rw [List.take_add_one, hv] at this
        rw [show ((rgI 0 e).map fun d => D.bl (decide (d ∈ Dy.take j))) = (rgI 0 e).map fun d => D.bl (decide (d ∈ Dy.take j ++ (some v).toList)) from List.map_congr_left fun d hd => by
          congr 1
          refine decide_eq_decide.mpr ?_
          rw [List.mem_append]
          refine ⟨.inl, fun w => w.elim id fun w => ?_⟩
          have h1 : d = v := by simpa using w
          have := (rgI_mem.mp hd).2
          omega]
        exact this
    · rintro ρ M1 ⟨rfl, a, rfl⟩
      rw [List.length_map, List.take_length]
      walk_at "pl"
      have : flagD e r = .lst ((rgI 0 e).map fun d => D.bl (decide (d ∈ Dy))) := by
        unfold flagD
        congr 1
        refine List.map_congr_left fun d hd => ?_
        have := rgI_mem.mp hd
        congr 1
        rw [Bool.eq_iff_iff, decide_eq_true_iff, hmem]
        exact ⟨fun w => ⟨⟨this.1, by omega⟩, w⟩, fun w => w.2⟩
      rw [this] at h
      exact h
  · exact h.elim

local macro_rules | `(tactic| walk_at "go") => `(tactic| repeat' (first | assumption | with_reducible apply And.intro | walk_at "cs"))
local macro_rules | `(tactic| walk_at "ex") => `(tactic| simp only [List.cons.injEq, Sl.va.injEq, Sl.ow.injEq, Ow.lst.injEq, D.int.injEq, D.bl.injEq, D.str.injEq, D.lst.injEq, D.tup.injEq, true_and, and_true])
local macro_rules | `(tactic| walk_at "gn") => `(tactic| simp only [↓gN, ↓gsNil, ↓gsCons, ↓gT, ↓gSq, List.length_cons, List.length_nil, Nat.reduceAdd, true_and, List.set_cons_zero, List.set_cons_succ])
local macro_rules | `(tactic| walk_at "sp") => `(tactic| repeat' (first | split | with_reducible apply And.intro))
local macro_rules | `(tactic| walk_at "cs") => `(tactic| first | (unfold CMulP; omega) | (unfold CPowP; omega) | (unfold CModP; omega) | (unfold CDivP; omega))
local macro_rules | `(tactic| walk_at "pl") => `(tactic| simp only [↓sSeq, ↓sAsg, ↓sRet, ↓sRetN, ↓sIf, ↓sDrop, ↓sNext, ↓sApp, ↓eVar, ↓bVar, ↓bE, ↓eBin, ↓tE, chS_bl, chS_true, chS_false, wipeE_nil, wipeE_cons, ↓qAnd, ↓aNil, ↓aCons, ↓aConsB, ↓eTup, ↓eLst, ↓iSeq, Option.isSome_some, lk_int, lk_str, ↓gN, ↓gsNil, ↓gsCons, ↓eCall, ↓dI2, ↓dAdd, ↓dEq, ↓dNotN, ↓dIx, ↓eB, ↓gSq, natc0, natc1, natc2, List.findIdx?_cons, List.findIdx?_nil, intsOf_ints, boolsOf_bls, plAnyI, plAnyR, ↓cLcm, ↓Sl.val, ↓Ow.toD, ↓stE, ↓PL.isNon, ↓bC, ↓dSub, ↓dLt, List.getElem?_cons_zero, List.getElem?_cons_succ, List.set_cons_zero, List.set_cons_succ, List.map_cons, List.map_nil, List.length_cons, List.length_nil, List.nil_append, List.cons_append, List.replicate_succ, List.replicate_zero, List.append_nil, atI0, atI1, atI2, atI3, atI4, cmpOk_int, cmpOk_bl, cmpOk_non, deq_int, deq_bl, true_and, and_true, Nat.reduceAdd, Nat.reduceSub, Nat.reduceLeDiff, Nat.reduceLT, Bool.not_eq_true', Bool.false_eq_true, if_false, if_true, decide_eq_true_eq, decide_eq_false_iff_not, Nat.zero_add, Nat.sub_zero, Nat.add_zero, Nat.sub_self, ixN31, ixN32, List.length_map, List.length_set, Int.reduceToNat, Int.reducePow, Int.reduceNeg, Int.reduceAdd, Int.reduceSub, Int.reduceMul, Int.reduceLT, Int.reduceLE, Int.reduceEq, Nat.reduceEqDiff, reduceCtorEq, List.mem_singleton, eq_self, not_true_eq_false, not_false_eq_true, or_true, true_or, cmpOk_lstA, cmpOk_tupA, ckA_lst, ckA_tup, ckAl_nil, ckAl_cons, ckAl_ints, ckAl_rangeL, ck_int, ck_bl, ck_non, ck_strI, cmpOk_str, deq_str, deq_tup, deq_lst, deqA_nil, deqA_cons, deqA_ints, Bool.and_true, Bool.true_and, Bool.and_false, Bool.false_and, decide_true, decide_false, Bool.not_true, Bool.not_false, ↓p_joined, ↓p_met, ↓p_overlaps, ↓p_short_stretch, ↓p_tidied, ↓p_without])
theorem ok_put_together (T : TF K mg) : FnOk P w K mg base CX0 5 T.a_put_together T.x_put_together ["way", "first", "second"] (liP K p_put_together) := by
  refine fn_P T.f_put_together sc_put_together (by intro ds M Q E h; unfold p_put_together at h; split at h <;> first | rfl | exact h.elim) (fun cdv A outer s H E z hz hr => (qs_cons (qs_set (i := 3) sc_put_together.nd rfl (by first | exact Or.inl rfl | exact Or.inr rfl) (qe_lst qa_nil))
    (qs_cons (qs_for PassesOwn.never rfl (qi_seq (h := (qe_call (ok_overlaps T) (hr.mono (by decide)) (by rfl) T.g_overlaps T.f_overlaps.kp T.b_overlaps pass0 (qa_cons (qe_var 1) (qa_cons (qe_var 2) qa_nil))))) (qg_seq (n := 4) rfl (qgs_cons (qg_name (i := 4) sc_put_together.nd rfl (by first | exact Or.inl rfl | exact Or.inr rfl)) (qgs_cons (qg_name (i := 5) sc_put_together.nd rfl (by first | exact Or.inl rfl | exact Or.inr rfl)) (qgs_cons (qg_name (i := 6) sc_put_together.nd rfl (by first | exact Or.inl rfl | exact Or.inr rfl)) (qgs_cons (qg_name (i := 7) sc_put_together.nd rfl (by first | exact Or.inl rfl | exact Or.inr rfl)) qgs_nil)))))
    (qs_cons (qs_if (PW.pt (qw_and (qt_cmp ob_notN (qb_var 5) qb_non (nomark _)) (qw_and1 (qt_cmp ob_lt (qb_of (qe_bin ob_sub (qb_var 5) (qb_var 4))) (qb_of (qe_callF cb_lcm (by rfl) T.g_lcm (qab_cons (qb_of (qe_ix (qb_var 6) qb_int)) (qab_cons (qb_of (qe_ix (qb_var 7) qb_int)) qab_nil)))) (nomark _)))))
    (qs_end (qs_set (i := 8) sc_put_together.nd rfl (by first | exact Or.inl rfl | exact Or.inr rfl) (qe_call (ok_short_stretch T) hr (by rfl) T.g_short_stretch T.f_short_stretch.kp T.b_short_stretch pass0 (qa_cons (qe_var 0) (qa_cons (qe_var 4) (qa_cons (qe_var 5) (qa_cons (qe_var 6) (qa_cons (qe_var 7) qa_nil))))))))
    (qs_end (qs_if (qt_cmp (ob_eq (hu64 hr)) (qb_var 0) qb_str (nomark _))
    (qs_end (qs_set (i := 8) sc_put_together.nd rfl (by first | exact Or.inl rfl | exact Or.inr rfl) (qe_call (ok_met T) (hr.mono (by decide)) (by rfl) T.g_met T.f_met.kp T.b_met pass0 (qa_cons (qe_var 6) (qa_cons (qe_var 7) qa_nil)))))
    (qs_end (qs_if (qt_cmp (ob_eq (hu64 hr)) (qb_var 0) qb_str (nomark _))
    (qs_end (qs_set (i := 8) sc_put_together.nd rfl (by first | exact Or.inl rfl | exact Or.inr rfl) (qe_call (ok_joined T) (hr.mono (by decide)) (by rfl) T.g_joined T.f_joined.kp T.b_joined pass0 (qa_cons (qe_var 6) (qa_cons (qe_var 7) qa_nil)))))
    (qs_end (qs_set (i := 8) sc_put_together.nd rfl (by first | exact Or.inl rfl | exact Or.inr rfl) (qe_call (ok_without T) (hr.mono (by decide)) (by rfl) T.g_without T.f_without.kp T.b_without pass0 (qa_cons (qe_var 6) (qa_cons (qe_var 7) qa_nil))))))))))
    (qs_end (qs_append (i := 3) rfl (by first | exact Or.inl rfl | exact Or.inr (Or.inl rfl) | exact Or.inr (Or.inr rfl)) (qe_bin ob_add (qb_of (qe_tup (qa_cons (qe_var 4) qa_nil))) (qb_var 8))))))
    (qs_end (qs_ret (qe_call (ok_tidied T) (hr.mono (by decide)) (by rfl) T.g_tidied T.f_tidied.kp T.b_tidied pass0 (qa_cons (qe_var 3) qa_nil))))))) ?_
  intro ds M Q0 h
  unfold p_put_together at h
  split at h
  · skip
    obtain ⟨ps, qs, rfl, rfl, ⟨hw, hp, hq, hl, hc⟩, h⟩ := h
    rename_i w
    refine sSeq_i fun N1 h1 => ?_
    walk_at "pl"
    refine h1 _ _ ?_
    clear h1
    refine sSeq_i fun N1 h1 => ?_
    refine sFor_k fun N hN => ?_
    walk_at "pl"
    refine ⟨ps, qs, rfl, rfl, ⟨hp, hq, hl⟩, fun st hst => hN _ _ _ ?_⟩
    clear hN
    refine loop_i (fun k ρ M1 => M1 = M ∧ ∃ (gs : List Pc) (a b c d e : Sl), PtInv w ps qs st k gs ∧ ρ = [.va (.str w), .va (.tup (ps.map pcD)), .va (.tup (qs.map pcD)), .ow (.lst (gs.map pcD)), a, b, c, d, e]) ⟨rfl, [], _, _, _, _, _, PtInv.zero, rfl⟩ ?_ ?_
    · rintro J hJ k dd ρ M1 hd ⟨rfl, gs, a, b, c, d, e, hin, rfl⟩
      obtain ⟨k', hk', rfl⟩ := map_get hd
      obtain ⟨rfl, hkl⟩ : k = k' ∧ k < st.length := by
        have := List.getElem?_eq_some_iff.mp hk'
        obtain ⟨w1, w2⟩ := this
        rw [List.length_range] at w1
        rw [List.getElem_range] at w2
        exact ⟨w2, w1⟩
      obtain ⟨s, hs⟩ : ∃ s, st[k]? = some s := ⟨_, List.getElem?_eq_getElem hkl⟩
      have hs0 := starts_nn hp hq hst s (List.mem_of_getElem? hs)
      obtain ⟨pa, hpa, ea⟩ := kndAt_mem hp hs0
      obtain ⟨pb, hpb, eb⟩ := kndAt_mem hq hs0
      have hk1 : KdOk (kndAt ps s) := by rw [ea]; exact hp.ok pa hpa
      have hk2 : KdOk (kndAt qs s) := by rw [eb]; exact hq.ok pb hpb
      have hco := hc st hst k s hs
      have hov : ovD ps qs st k = .tup [.int s, endD st k, .tup [.int (kndAt ps s).1, .tup ((kndAt ps s).2.map D.int)], .tup [.int (kndAt qs s).1, .tup ((kndAt qs s).2.map D.int)]] := by
        unfold ovD
        rw [List.getD_eq_getElem?_getD, hs]
        rfl
      rw [hov]
      walk_at "gn"
      refine sSeq_i fun N2 h2 => ?_
      have hglen : gs.length = k := by
        have := congrArg List.length hin.starts
        rw [List.length_map, List.length_take] at this
        omega
      have hstl : st.length ≤ ps.length + qs.length := by
        have := len_of_sub (as := st) (bs := ps.map (·.1) ++ qs.map (·.1)) (hst.1.imp fun {a b} h => by omega) fun x hx => List.mem_append.mpr ((hst.2 x).mp hx)
        rw [List.length_append, List.length_map, List.length_map] at this
        exact this
      generalize hkA : kndAt ps s = A at *
      generalize hkB : kndAt qs s = B at *
      obtain ⟨p, as⟩ := A
      obtain ⟨q, bs⟩ := B
      have hp0 : 0 < p := hk1.1.1
      have hq0 : 0 < q := hk2.1.1
      have hL := lcmI_pos hp0 hq0
      have hp9 : p < 1000000000 := hk1.2.1
      have hq9 : q < 1000000000 := hk2.2.1
      have h3 : ∀ (P' : Int) (ns' : List Int), Res P' ns' → (∀ d, s ≤ d → (∀ e, st[k + 1]? = some e → d < e) → (d % P' ∈ ns' ↔ combB w (inR (p, as) d) (inR (q, bs) d) = true)) → P' ≤ lcmI p q → P' < 1000000000 → ns'.length < 4000 →
          N2 [.va (.str w), .va (.tup (ps.map pcD)), .va (.tup (qs.map pcD)), .ow (.lst (gs.map pcD)), .va (.int s), .va (endD st k), .va (.tup [.int p, .tup (as.map D.int)]), .va (.tup [.int q, .tup (bs.map D.int)]), .va (.tup [.int P', .tup (ns'.map D.int)])] M1 := by
        intro P' ns' r1 r2 r3 r4 r5
        refine h2 _ _ ?_
        clear h2
        walk_at "pl"
        have hin' := hin.add (kn := (P', ns')) hst hs ⟨r1, r4, r5⟩ hpa hpb (hkA.trans ea) (hkB.trans eb) (fun d h1 h2 => by
          rw [← ea, ← eb, Bool.eq_iff_iff]
          show decide (d % P' ∈ ns') = true ↔ _
          rw [decide_eq_true_iff]
          exact r2 d h1 h2) (by rw [← ea, ← eb]; exact r3)
        rw [show gs.map pcD ++ [D.tup [.int s, .int P', .tup (ns'.map D.int)]] = (gs ++ [(s, P', ns')]).map pcD by rw [List.map_append, List.map_singleton, pcD_eq]]
        exact ⟨by omega, hJ _ _ _ ⟨rfl, _, _, _, _, _, _, hin', rfl⟩⟩
      clear h2
      refine sIf_k fun N3 h4 => ?_
      have hlong : CombOk w (p, as) (q, bs) → N3 false [.va (.str w), .va (.tup (ps.map pcD)), .va (.tup (qs.map pcD)), .ow (.lst (gs.map pcD)), .va (.int s), .va (endD st k), .va (.tup [.int p, .tup (as.map D.int)]), .va (.tup [.int q, .tup (bs.map D.int)]), e] M1 := by
        intro hco
        have hl9 : lcmI p q < 1000000000 := hco.l
        have hbnd : bndW w (p, as) (q, bs) < 4000 := hco.c
        refine h4 _ _ _ ?_
        clear h4
        rw [if_neg Bool.false_ne_true]
        walk_at "pl"
        refine ⟨by first | exact hw | exact ⟨hw, by decide +kernel⟩, ?_⟩
        by_cases c1 : w = Str.ofString "both"
        · rw [if_pos c1]
          have hb2 : bndW w (p, as) (q, bs) = ((metBnd p as q bs : Nat) : Int) := by unfold bndW; rw [if_pos (show w = wBoth from c1)]
          rw [hb2] at hbnd
          refine ⟨as, bs, rfl, rfl, ⟨hco.ka, hco.kb, hl9, Int.ofNat_lt.mp hbnd⟩, fun P' ns' u1 u2 u3 u4 u5 => h3 P' ns' u1 (fun d _ _ => ?_) u2 (by omega) (by omega)⟩
          unfold combB
          rw [u3, if_pos (show w = wBoth from c1), Bool.and_eq_true, decide_eq_true_iff, decide_eq_true_iff]
        rw [if_neg c1]
        refine ⟨by first | exact hw | exact ⟨hw, by decide +kernel⟩, ?_⟩
        by_cases c2 : w = Str.ofString "either"
        · rw [if_pos c2]
          have hb2 : bndW w (p, as) (q, bs) = lcmI p q / p * as.length + lcmI p q / q * bs.length := by unfold bndW; rw [if_neg (show ¬ w = wBoth from c1), if_pos (show w = wEither from c2)]
          rw [hb2] at hbnd
          refine ⟨as, bs, rfl, rfl, ⟨hco.ka, hco.kb, hl9, hbnd⟩, fun P' ns' u1 u2 u3 u4 u5 => h3 P' ns' u1 (fun d _ _ => ?_) u2 (by omega) (by omega)⟩
          unfold combB
          rw [u3, if_neg (show ¬ w = wBoth from c1), if_pos (show w = wEither from c2), Bool.or_eq_true, decide_eq_true_iff, decide_eq_true_iff]
        · rw [if_neg c2]
          have hb2 : bndW w (p, as) (q, bs) = lcmI p q / p * as.length := by unfold bndW; rw [if_neg (show ¬ w = wBoth from c1), if_neg (show ¬ w = wEither from c2)]
          rw [hb2] at hbnd
          refine ⟨as, bs, rfl, rfl, ⟨hco.ka, hco.kb, hl9, hbnd⟩, fun P' ns' u1 u2 u3 u4 u5 => h3 P' ns' u1 (fun d _ _ => ?_) u2 (by omega) (by omega)⟩
          unfold combB
          rw [u3, if_neg (show ¬ w = wBoth from c1), if_neg (show ¬ w = wEither from c2), Bool.and_eq_true, decide_eq_true_iff]
          simp
      cases he : st[k + 1]? with
      | none =>
        have e3 : endD st k = .non := by unfold endD; rw [he]; rfl
        rw [e3] at hlong ⊢
        walk_at "pl"
        exact hlong (hco.1 he)
      | some en =>
        have e3 : endD st k = .int en := by unfold endD; rw [he]; rfl
        rw [e3] at hlong h3 ⊢
        have hsen : s < en := (asc_next hst.1 hs he).1
        walk_at "pl"
        rw [lcm_eq hp0 hq0]
        refine ⟨by omega, ?_⟩
        by_cases c : en - s < lcmI p q
        · rw [decide_eq_true c]
          refine h4 _ _ _ ?_
          clear h4 hlong
          rw [if_pos rfl]
          walk_at "pl"
          refine ⟨as, bs, rfl, rfl, ⟨hw, ⟨hk1, hk2, (hco.2 en he).symm⟩, hsen, c⟩, fun ns' u1 u2 u3 => h3 (en - s) ns' u1 (fun d h1 h2 => u2 d h1 (h2 en he)) (by omega) ?_ u3⟩
          rcases hco.2 en he with w | w
          · omega
          · have : lcmI p q < 1000000000 := w.l
            omega
        · rw [decide_eq_false c]
          refine hlong ?_
          rcases hco.2 en he with w | w
          · exact combOk_lcm hk1 hk2 (by show lcmI p q < 1950; omega)
          · exact w
    · rintro ρ M1 ⟨rfl, gs, a, b, c, d, e, hin, rfl⟩
      rw [List.length_map, List.length_range] at hin
      refine h1 _ _ ?_
      clear h1
      walk_at "pl"
      obtain ⟨f1, f2, f3, f4⟩ := hin.fin hp hq hst
      refine ⟨gs, rfl, ⟨f1, by omega⟩, fun fs t1 t2 t3 t4 => h fs t1 (fun d hd => (t2 d).trans (f3 d hd)) (by omega) fun f hf => ?_⟩
      obtain ⟨g, hg, g1, g2, g3⟩ := t4 f hf
      obtain ⟨r, hr, er⟩ := f4 g hg
      obtain ⟨a, ha, b, hb, u1⟩ := hin.size g hg
      exact ⟨⟨r, hr, g1.trans er⟩, a, ha, b, hb, by omega⟩
  · exact h.elim

local macro_rules | `(tactic| walk_at "go") => `(tactic| repeat' (first | assumption | with_reducible apply And.intro | walk_at "cs"))
local macro_rules | `(tactic| walk_at "ex") => `(tactic| simp only [List.cons.injEq, Sl.va.injEq, Sl.ow.injEq, Ow.lst.injEq, D.int.injEq, D.bl.injEq, D.str.injEq, D.lst.injEq, D.tup.injEq, true_and, and_true])
local macro_rules | `(tactic| walk_at "gn") => `(tactic| simp only [↓gN, ↓gsNil, ↓gsCons, ↓gT, ↓gSq, List.length_cons, List.length_nil, Nat.reduceAdd, true_and, List.set_cons_zero, List.set_cons_succ])
local macro_rules | `(tactic| walk_at "sp") => `(tactic| repeat' (first | split | with_reducible apply And.intro))
local macro_rules | `(tactic| walk_at "cs") => `(tactic| first | (unfold CMulP; omega) | (unfold CPowP; omega) | (unfold CModP; omega) | (unfold CDivP; omega))
local macro_rules | `(tactic| walk_at "pl") => `(tactic| simp only [↓sSeq, ↓sAsg, ↓sRet, ↓sRetN, ↓sIf, ↓sDrop, ↓sNext, ↓sTgt, ↓eVar, ↓bVar, ↓bE, ↓eBin, ↓tE, chS_bl, chS_true, chS_false, wipeE_nil, wipeE_cons, ↓qNot, ↓sNever, ↓aNil, ↓aCons, Option.isSome_some, lk_int, lk_str, ↓gN, ↓gsNil, ↓gsCons, ↓eCall, ↓dI2, ↓dAdd, ↓dEq, ↓dNotN, ↓dIx, ↓gSq, natc0, natc1, natc2, List.findIdx?_cons, List.findIdx?_nil, intsOf_ints, boolsOf_bls, plAnyI, plAnyR, ↓Sl.val, ↓Ow.toD, ↓stE, ↓PL.isNon, ↓eC, ↓bC, ↓dSub, List.getElem?_cons_zero, List.getElem?_cons_succ, List.set_cons_zero, List.set_cons_succ, List.map_cons, List.map_nil, List.length_cons, List.length_nil, List.nil_append, List.cons_append, List.replicate_succ, List.replicate_zero, List.append_nil, atI0, atI1, atI2, atI3, atI4, cmpOk_int, cmpOk_bl, cmpOk_non, deq_int, deq_bl, true_and, and_true, Nat.reduceAdd, Nat.reduceSub, Nat.reduceLeDiff, Nat.reduceLT, Bool.not_eq_true', Bool.false_eq_true, if_false, if_true, decide_eq_true_eq, decide_eq_false_iff_not, Nat.zero_add, Nat.sub_zero, Nat.add_zero, Nat.sub_self, ixN31, ixN32, List.length_map, List.length_set, Int.reduceToNat, Int.reducePow, Int.reduceNeg, Int.reduceAdd, Int.reduceSub, Int.reduceMul, Int.reduceLT, Int.reduceLE, Int.reduceEq, Nat.reduceEqDiff, reduceCtorEq, List.mem_singleton, eq_self, not_true_eq_false, not_false_eq_true, or_true, true_or, cmpOk_lstA, cmpOk_tupA, ckA_lst, ckA_tup, ckAl_nil, ckAl_cons, ckAl_ints, ckAl_rangeL, ck_int, ck_bl, ck_non, ck_strI, cmpOk_str, deq_str, deq_tup, deq_lst, deqA_nil, deqA_cons, deqA_ints, Bool.and_true, Bool.true_and, Bool.and_false, Bool.false_and, decide_true, decide_false, Bool.not_true, Bool.not_false, ↓p_from_day, ↓p_limited, ↓p_nth_of, ↓p_rule_fits, ↓p_turns_of])
theorem ok_unfolded (T : TF K mg) : FnOk P w K mg base CX0 5 T.a_unfolded T.x_unfolded ["rule"] (liP K p_unfolded) := by
  refine fn_P T.f_unfolded sc_unfolded (by intro ds M Q E h; unfold p_unfolded at h; split at h <;> first | rfl | exact h.elim) (fun cdv A outer s H E z hz hr => (qs_cons (qs_if (qt_not (qt_val (qe_call (ok_rule_fits T) (hr.mono (by decide)) (by rfl) T.g_rule_fits T.f_rule_fits.kp T.b_rule_fits pass0 (qa_cons (qe_var 0) qa_nil))))
    (qs_end qs_never)
    qs_nil)
    (qs_cons (qs_asg (qe_call (ok_turns_of T) (hr.mono (by decide)) (by rfl) T.g_turns_of T.f_turns_of.kp T.b_turns_of pass0 (qa_cons (qe_var 0) qa_nil)) (qg_seq (n := 2) rfl (qgs_cons (qg_name (i := 1) sc_unfolded.nd rfl (by first | exact Or.inl rfl | exact Or.inr rfl)) (qgs_cons (qg_name (i := 2) sc_unfolded.nd rfl (by first | exact Or.inl rfl | exact Or.inr rfl)) qgs_nil))))
    (qs_cons (qs_set (i := 3) sc_unfolded.nd rfl (by first | exact Or.inl rfl | exact Or.inr rfl) (qe_call (ok_from_day T) hr (by rfl) T.g_from_day T.f_from_day.kp T.b_from_day pass0 (qa_cons (qe_ix (qb_var 0) qb_int) (qa_cons (qe_var 1) (qa_cons (qe_var 2) qa_nil)))))
    (qs_cons (qs_set (i := 4) sc_unfolded.nd rfl (by first | exact Or.inl rfl | exact Or.inr rfl) (qe_ix (qb_var 0) qb_int))
    (qs_cons (qs_if (qt_cmp (ob_eq (hu64 hr)) (qb_of (qe_ix (qb_var 4) qb_int)) qb_str (nomark _))
    (qs_end (qs_ret (qe_call (ok_limited T) hr (by rfl) T.g_limited T.f_limited.kp T.b_limited pass0 (qa_cons (qe_var 3) (qa_cons qe_int (qa_cons (qe_bin ob_add (qb_of (qe_ix (qb_var 4) qb_int)) qb_int) qa_nil))))))
    qs_nil)
    (qs_cons (qs_if (qt_cmp (ob_eq (hu64 hr)) (qb_of (qe_ix (qb_var 4) qb_int)) qb_str (nomark _))
    (qs_cons (qs_set (i := 5) sc_unfolded.nd rfl (by first | exact Or.inl rfl | exact Or.inr rfl) (qe_call (ok_nth_of T) (hr.mono (by decide)) (by rfl) T.g_nth_of T.f_nth_of.kp T.b_nth_of pass0 (qa_cons (qe_var 3) (qa_cons (qe_bin ob_sub (qb_of (qe_ix (qb_var 4) qb_int)) qb_int) qa_nil))))
    (qs_end (qs_if (qt_cmp ob_notN (qb_var 5) qb_non (nomark _))
    (qs_end (qs_ret (qe_call (ok_limited T) hr (by rfl) T.g_limited T.f_limited.kp T.b_limited pass0 (qa_cons (qe_var 3) (qa_cons qe_int (qa_cons (qe_bin ob_add (qb_var 5) qb_int) qa_nil))))))
    qs_nil)))
    qs_nil)
    (qs_end (qs_ret (qe_var 3)))))))))) ?_
  intro ds M Q0 h
  unfold p_unfolded at h
  split at h
  · skip
    obtain ⟨r, rfl, hr, h⟩ := h
    have hi := hr.iv
    have hs := hr.st
    have hf := hr.fin
    refine sSeq_i fun N1 h1 => ?_
    walk_at "pl"
    refine ⟨r, rfl, hr, ?_⟩
    refine h1 _ _ ?_
    clear h1
    refine sSeq_i fun N1 h1 => ?_
    walk_at "pl"
    refine ⟨r, rfl, hr, fun ns k1 k2 k3 => h1 _ _ ?_⟩
    clear h1
    refine sSeq_i fun N1 h1 => ?_
    unfold rulD
    walk_at "pl"
    refine ⟨ns, rfl, k1, fun fs f1 f2 f3 f4 => h1 _ _ ?_⟩
    clear h1
    have fB : ∀ d, 0 ≤ d → patB fs d = turnB r d := fun d hd => by
      rw [f2]
      unfold turnB
      rw [show decide (0 ≤ d ∧ r.first ≤ d) = decide (r.first ≤ d) from decide_eq_decide.mpr ⟨fun w => w.2, fun w => ⟨hd, w⟩⟩]
      congr 1
      exact Bool.eq_iff_iff.mpr (by rw [decide_eq_true_eq]; exact k3 d)
    have fN : ∀ d, d < 0 → patB fs d = turnB r d := fun d hd => by
      rw [f2, decide_eq_false (show ¬ (0 ≤ d ∧ r.first ≤ d) by omega)]
      unfold turnB
      rw [decide_eq_false (show ¬ r.first ≤ d by omega)]
      rfl
    have fE : patB fs = turnB r := funext fun d => by
      rcases Int.lt_or_le d 0 with w | w
      · exact fN d w
      · exact fB d w
    have fS : ∀ f ∈ fs, f.1 ≤ 300 := fun f hf => by have := (f4 f hf).2.2; omega
    refine sSeq_i fun N1 h1 => ?_
    walk_at "pl"
    refine h1 _ _ ?_
    clear h1
    have fL := f1.toPatOk
    cases hq : r.fin with
    | never =>
      simp only [endRD]
      refine sSeq_i fun N1 h1 => ?_
      walk_at "pl"
      refine ⟨by decide +kernel, ?_⟩
      rw [if_neg s_nu.1]
      refine h1 _ _ ?_
      clear h1
      refine sSeq_i fun N1 h1 => ?_
      walk_at "pl"
      refine ⟨by decide +kernel, ?_⟩
      rw [if_neg s_nu.2.1]
      refine h1 _ _ ?_
      clear h1
      walk_at "pl"
      refine h fs f1 (fun d hd => ?_) (by omega) (unf_reg hr f1 (fun d hd => ?_) (fun f hf => by have := fS f hf; omega))
      · rw [fE]
        unfold rulB finB
        rw [hq]
        exact (Bool.and_true _).symm
      · rw [fE]
        unfold rulB finB
        rw [hq]
        exact (Bool.and_true _).symm
    | till e =>
      rw [hq] at hf
      simp only [endRD]
      refine sSeq_i fun N1 h1 => ?_
      walk_at "pl"
      refine ⟨by decide +kernel, ?_⟩
      refine ⟨fs, some (e + 1), rfl, rfl, ⟨fL, by omega⟩, fun gs g1 g2 g3 g4 => ?_⟩
      have gB : ∀ d, 0 ≤ d → patB gs d = rulB r d := fun d hd => by
        rw [g2 d hd, fE]
        unfold rulB finB ltO
        rw [hq, decide_eq_true hd, Bool.and_true]
        congr 1
        exact decide_eq_decide.mpr (by omega)
      refine h gs g1 gB (by omega) (unf_reg hr g1 gB fun f hf => ?_)
      rcases g3 f hf with w | w | w | ⟨p, hp, w⟩
      · omega
      · omega
      · have := Option.some.inj w; omega
      · have := fS p hp; omega
    | count c =>
      rw [hq] at hf
      simp only [endRD]
      refine sSeq_i fun N1 h1 => ?_
      walk_at "pl"
      refine ⟨by decide +kernel, ?_⟩
      rw [if_neg s_nu.2.2.1]
      refine h1 _ _ ?_
      clear h1
      refine sSeq_i fun N1 h1 => ?_
      walk_at "pl"
      refine ⟨by decide +kernel, fs, rfl, ⟨fL, by omega, by omega⟩, fun v hv => ?_⟩
      rw [fE] at hv
      cases v with
      | none =>
        have h4 := turn_cnt hr c.toNat
        rw [Int.toNat_of_nonneg (by omega)] at h4
        have := hv (r.first + c * perR r)
        omega
      | some v =>
        have hb := nth_bound hr (show 0 ≤ c - 1 by omega) hv
        simp only [↓sSeq, ↓sAsg, ↓sRet, ↓sRetN, ↓sIf, ↓sDrop, ↓sNext, ↓sTgt, ↓eVar, ↓bVar, ↓bE, ↓eBin, ↓tE, chS_bl, chS_true, chS_false, wipeE_nil, wipeE_cons, ↓qNot, ↓sNever, ↓aNil, ↓aCons, Option.isSome_some, lk_int, lk_str, ↓gN, ↓gsNil, ↓gsCons, ↓eCall, ↓dI2, ↓dAdd, ↓dEq, ↓dNotN, ↓dIx, ↓gSq, natc0, natc1, natc2, List.findIdx?_cons, List.findIdx?_nil, intsOf_ints, boolsOf_bls, plAnyI, plAnyR, ↓Sl.val, ↓Ow.toD, ↓stE, ↓PL.isNon, ↓eC, ↓bC, ↓dSub, List.getElem?_cons_zero, List.getElem?_cons_succ, List.set_cons_zero, List.set_cons_succ, List.map_cons, List.map_nil, List.length_cons, List.length_nil, List.nil_append, List.cons_append, List.replicate_succ, List.replicate_zero, List.append_nil, atI0, atI1, atI2, atI3, atI4, cmpOk_int, cmpOk_bl, cmpOk_non, deq_int, deq_bl, true_and, and_true, Nat.reduceAdd, Nat.reduceSub, Nat.reduceLeDiff, Nat.reduceLT, Bool.not_eq_true', Bool.false_eq_true, if_false, if_true, decide_eq_true_eq, decide_eq_false_iff_not, Nat.zero_add, Nat.sub_zero, Nat.add_zero, Nat.sub_self, ixN31, ixN32, List.length_map, List.length_set, Int.reduceToNat, Int.reducePow, Int.reduceNeg, Int.reduceAdd, Int.reduceSub, Int.reduceMul, Int.reduceLT, Int.reduceLE, Int.reduceEq, Nat.reduceEqDiff, reduceCtorEq, List.mem_singleton, eq_self, not_true_eq_false, not_false_eq_true, or_true, true_or, cmpOk_lstA, cmpOk_tupA, ckA_lst, ckA_tup, ckAl_nil, ckAl_cons, ckAl_ints, ckAl_rangeL, ck_int, ck_bl, ck_non, ck_strI, cmpOk_str, deq_str, deq_tup, deq_lst, deqA_nil, deqA_cons, deqA_ints, Bool.and_true, Bool.true_and, Bool.and_false, Bool.false_and, decide_true, decide_false, Bool.not_true, Bool.not_false, ↓p_from_day, ↓p_limited, ↓p_nth_of, ↓p_rule_fits, ↓p_turns_of, optD]
        refine ⟨fs, some (v + 1), rfl, rfl, ⟨fL, by omega⟩, fun gs g1 g2 g3 g4 => ?_⟩
        have gB : ∀ d, 0 ≤ d → patB gs d = rulB r d := fun d hd => by
          rw [g2 d hd, fE, decide_eq_true hd, Bool.and_true]
          exact fin_count hq hv hd
        refine h gs g1 gB (by omega) (unf_reg hr g1 gB fun f hf => ?_)
        rcases g3 f hf with w | w | w | ⟨p, hp, w⟩
        · omega
        · omega
        · have := Option.some.inj w; omega
        · have := fS p hp; omega
  · exact h.elim

local macro_rules | `(tactic| walk_at "go") => `(tactic| repeat' (first | assumption | with_reducible apply And.intro | walk_at "cs"))
local macro_rules | `(tactic| walk_at "ex") => `(tactic| simp only [List.cons.injEq, Sl.va.injEq, Sl.ow.injEq, Ow.lst.injEq, D.int.injEq, D.bl.injEq, D.str.injEq, D.lst.injEq, D.tup.injEq, true_and, and_true])
local macro_rules | `(tactic| walk_at "gn") => `(tactic| simp only [↓gN, ↓gsNil, ↓gsCons, ↓gT, ↓gSq, List.length_cons, List.length_nil, Nat.reduceAdd, true_and, List.set_cons_zero, List.set_cons_succ])
local macro_rules | `(tactic| walk_at "sp") => `(tactic| repeat' (first | split | with_reducible apply And.intro))
local macro_rules | `(tactic| walk_at "cs") => `(tactic| first | (unfold CMulP; omega) | (unfold CPowP; omega) | (unfold CModP; omega) | (unfold CDivP; omega))
local macro_rules | `(tactic| walk_at "pl") => `(tactic| simp only [↓sRet, ↓sRetN, ↓sDrop, ↓sNext, ↓eVar, chS_bl, chS_true, chS_false, wipeE_nil, wipeE_cons, ↓aNil, ↓aCons, Option.isSome_some, lk_int, lk_str, ↓eCall, natc0, natc1, natc2, List.findIdx?_cons, List.findIdx?_nil, intsOf_ints, boolsOf_bls, plAnyI, plAnyR, ↓Sl.val, ↓Ow.toD, ↓stE, ↓PL.isNon, ↓eC, List.getElem?_cons_zero, List.getElem?_cons_succ, List.set_cons_zero, List.set_cons_succ, List.map_cons, List.map_nil, List.length_cons, List.length_nil, List.nil_append, List.cons_append, List.replicate_succ, List.replicate_zero, List.append_nil, atI0, atI1, atI2, atI3, atI4, cmpOk_int, cmpOk_bl, cmpOk_non, deq_int, deq_bl, true_and, and_true, Nat.reduceAdd, Nat.reduceSub, Nat.reduceLeDiff, Nat.reduceLT, Bool.not_eq_true', Bool.false_eq_true, if_false, if_true, decide_eq_true_eq, decide_eq_false_iff_not, Nat.zero_add, Nat.sub_zero, Nat.add_zero, Nat.sub_self, ixN31, ixN32, List.length_map, List.length_set, Int.reduceToNat, Int.reducePow, Int.reduceNeg, Int.reduceAdd, Int.reduceSub, Int.reduceMul, Int.reduceLT, Int.reduceLE, Int.reduceEq, Nat.reduceEqDiff, reduceCtorEq, List.mem_singleton, eq_self, not_true_eq_false, not_false_eq_true, or_true, true_or, cmpOk_lstA, cmpOk_tupA, ckA_lst, ckA_tup, ckAl_nil, ckAl_cons, ckAl_ints, ckAl_rangeL, ck_int, ck_bl, ck_non, ck_strI, cmpOk_str, deq_str, deq_tup, deq_lst, deqA_nil, deqA_cons, deqA_ints, Bool.and_true, Bool.true_and, Bool.and_false, Bool.false_and, decide_true, decide_false, Bool.not_true, Bool.not_false, ↓p_put_together])
theorem ok_union (T : TF K mg) : FnOk P w K mg base CX0 6 T.a_union T.x_union ["first", "second"] (liP K p_union) := by
  refine fn_P T.f_union sc_union (by intro ds M Q E h; unfold p_union at h; split at h <;> first | rfl | exact h.elim) (fun cdv A outer s H E z hz hr => (qs_end (qs_ret (qe_call (ok_put_together T) hr (by rfl) T.g_put_together T.f_put_together.kp T.b_put_together pass0 (qa_cons qe_str (qa_cons (qe_var 0) (qa_cons (qe_var 1) qa_nil))))))) ?_
  intro ds M Q0 h
  unfold p_union at h
  split at h
  · skip
    obtain ⟨ps, qs, rfl, rfl, ⟨hp, hq, hl, hc⟩, h⟩ := h
    walk_at "pl"
    refine ⟨ps, qs, rfl, rfl, ?_, fun fs t1 t2 t3 t4 => h fs t1 (fun d hd => ?_) t3 t4⟩
    · first | exact ⟨hp, hq, hl, hc⟩ | exact ⟨by decide +kernel, hp, hq, hl, hc⟩
    rw [t2 d hd]
    exact combB_either
  · exact h.elim

local macro_rules | `(tactic| walk_at "go") => `(tactic| repeat' (first | assumption | with_reducible apply And.intro | walk_at "cs"))
local macro_rules | `(tactic| walk_at "ex") => `(tactic| simp only [List.cons.injEq, Sl.va.injEq, Sl.ow.injEq, Ow.lst.injEq, D.int.injEq, D.bl.injEq, D.str.injEq, D.lst.injEq, D.tup.injEq, true_and, and_true])
local macro_rules | `(tactic| walk_at "gn") => `(tactic| simp only [↓gN, ↓gsNil, ↓gsCons, ↓gT, ↓gSq, List.length_cons, List.length_nil, Nat.reduceAdd, true_and, List.set_cons_zero, List.set_cons_succ])
local macro_rules | `(tactic| walk_at "sp") => `(tactic| repeat' (first | split | with_reducible apply And.intro))
local macro_rules | `(tactic| walk_at "cs") => `(tactic| first | (unfold CMulP; omega) | (unfold CPowP; omega) | (unfold CModP; omega) | (unfold CDivP; omega))
local macro_rules | `(tactic| walk_at "pl") => `(tactic| simp only [↓sRet, ↓sRetN, ↓sDrop, ↓sNext, ↓eVar, chS_bl, chS_true, chS_false, wipeE_nil, wipeE_cons, ↓aNil, ↓aCons, Option.isSome_some, lk_int, lk_str, ↓eCall, natc0, natc1, natc2, List.findIdx?_cons, List.findIdx?_nil, intsOf_ints, boolsOf_bls, plAnyI, plAnyR, ↓Sl.val, ↓Ow.toD, ↓stE, ↓PL.isNon, ↓eC, List.getElem?_cons_zero, List.getElem?_cons_succ, List.set_cons_zero, List.set_cons_succ, List.map_cons, List.map_nil, List.length_cons, List.length_nil, List.nil_append, List.cons_append, List.replicate_succ, List.replicate_zero, List.append_nil, atI0, atI1, atI2, atI3, atI4, cmpOk_int, cmpOk_bl, cmpOk_non, deq_int, deq_bl, true_and, and_true, Nat.reduceAdd, Nat.reduceSub, Nat.reduceLeDiff, Nat.reduceLT, Bool.not_eq_true', Bool.false_eq_true, if_false, if_true, decide_eq_true_eq, decide_eq_false_iff_not, Nat.zero_add, Nat.sub_zero, Nat.add_zero, Nat.sub_self, ixN31, ixN32, List.length_map, List.length_set, Int.reduceToNat, Int.reducePow, Int.reduceNeg, Int.reduceAdd, Int.reduceSub, Int.reduceMul, Int.reduceLT, Int.reduceLE, Int.reduceEq, Nat.reduceEqDiff, reduceCtorEq, List.mem_singleton, eq_self, not_true_eq_false, not_false_eq_true, or_true, true_or, cmpOk_lstA, cmpOk_tupA, ckA_lst, ckA_tup, ckAl_nil, ckAl_cons, ckAl_ints, ckAl_rangeL, ck_int, ck_bl, ck_non, ck_strI, cmpOk_str, deq_str, deq_tup, deq_lst, deqA_nil, deqA_cons, deqA_ints, Bool.and_true, Bool.true_and, Bool.and_false, Bool.false_and, decide_true, decide_false, Bool.not_true, Bool.not_false, ↓p_put_together])
theorem ok_minus (T : TF K mg) : FnOk P w K mg base CX0 6 T.a_minus T.x_minus ["first", "second"] (liP K p_minus) := by
  refine fn_P T.f_minus sc_minus (by intro ds M Q E h; unfold p_minus at h; split at h <;> first | rfl | exact h.elim) (fun cdv A outer s H E z hz hr => (qs_end (qs_ret (qe_call (ok_put_together T) hr (by rfl) T.g_put_together T.f_put_together.kp T.b_put_together pass0 (qa_cons qe_str (qa_cons (qe_var 0) (qa_cons (qe_var 1) qa_nil))))))) ?_
  intro ds M Q0 h
  unfold p_minus at h
  split at h
  · skip
    obtain ⟨ps, qs, rfl, rfl, ⟨hp, hq, hl, hc⟩, h⟩ := h
    walk_at "pl"
    refine ⟨ps, qs, rfl, rfl, ?_, fun fs t1 t2 t3 t4 => h fs t1 (fun d hd => ?_) t3 t4⟩
    · first | exact ⟨hp, hq, hl, hc⟩ | exact ⟨by decide +kernel, hp, hq, hl, hc⟩
    rw [t2 d hd]
    exact combB_first
  · exact h.elim

local macro_rules | `(tactic| walk_at "go") => `(tactic| repeat' (first | assumption | with_reducible apply And.intro | walk_at "cs"))
local macro_rules | `(tactic| walk_at "ex") => `(tactic| simp only [List.cons.injEq, Sl.va.injEq, Sl.ow.injEq, Ow.lst.injEq, D.int.injEq, D.bl.injEq, D.str.injEq, D.lst.injEq, D.tup.injEq, true_and, and_true])
local macro_rules | `(tactic| walk_at "gn") => `(tactic| simp only [↓gN, ↓gsNil, ↓gsCons, ↓gT, ↓gSq, List.length_cons, List.length_nil, Nat.reduceAdd, true_and, List.set_cons_zero, List.set_cons_succ])
local macro_rules | `(tactic| walk_at "sp") => `(tactic| repeat' (first | split | with_reducible apply And.intro))
local macro_rules | `(tactic| walk_at "cs") => `(tactic| first | (unfold CMulP; omega) | (unfold CPowP; omega) | (unfold CModP; omega) | (unfold CDivP; omega))
local macro_rules | `(tactic| walk_at "pl") => `(tactic| simp only [↓sRet, ↓sRetN, ↓sDrop, ↓sNext, ↓eVar, ↓bE, ↓eBin, chS_bl, chS_true, chS_false, wipeE_nil, wipeE_cons, ↓aNil, ↓aCons, Option.isSome_some, lk_int, lk_str, ↓eCall, ↓dIsN, natc0, natc1, natc2, List.findIdx?_cons, List.findIdx?_nil, intsOf_ints, boolsOf_bls, plAnyI, plAnyR, ↓Sl.val, ↓Ow.toD, ↓stE, ↓PL.isNon, ↓eC, ↓bC, List.getElem?_cons_zero, List.getElem?_cons_succ, List.set_cons_zero, List.set_cons_succ, List.map_cons, List.map_nil, List.length_cons, List.length_nil, List.nil_append, List.cons_append, List.replicate_succ, List.replicate_zero, List.append_nil, atI0, atI1, atI2, atI3, atI4, cmpOk_int, cmpOk_bl, cmpOk_non, deq_int, deq_bl, true_and, and_true, Nat.reduceAdd, Nat.reduceSub, Nat.reduceLeDiff, Nat.reduceLT, Bool.not_eq_true', Bool.false_eq_true, if_false, if_true, decide_eq_true_eq, decide_eq_false_iff_not, Nat.zero_add, Nat.sub_zero, Nat.add_zero, Nat.sub_self, ixN31, ixN32, List.length_map, List.length_set, Int.reduceToNat, Int.reducePow, Int.reduceNeg, Int.reduceAdd, Int.reduceSub, Int.reduceMul, Int.reduceLT, Int.reduceLE, Int.reduceEq, Nat.reduceEqDiff, reduceCtorEq, List.mem_singleton, eq_self, not_true_eq_false, not_false_eq_true, or_true, true_or, cmpOk_lstA, cmpOk_tupA, ckA_lst, ckA_tup, ckAl_nil, ckAl_cons, ckAl_ints, ckAl_rangeL, ck_int, ck_bl, ck_non, ck_strI, cmpOk_str, deq_str, deq_tup, deq_lst, deqA_nil, deqA_cons, deqA_ints, Bool.and_true, Bool.true_and, Bool.and_false, Bool.false_and, decide_true, decide_false, Bool.not_true, Bool.not_false, ↓p_minus, ↓p_next_from])
theorem ok_within (T : TF K mg) : FnOk P w K mg base CX0 7 T.a_within T.x_within ["first", "second"] (liP K p_within) := by
  refine fn_P T.f_within sc_within (by intro ds M Q E h; unfold p_within at h; split at h <;> first | rfl | exact h.elim) (fun cdv A outer s H E z hz hr => (qs_end (qs_ret (qe_cmp ob_isN (qb_of (qe_call (ok_next_from T) (hr.mono (by decide)) (by rfl) T.g_next_from T.f_next_from.kp T.b_next_from pass0 (qa_cons (qe_call (ok_minus T) hr (by rfl) T.g_minus T.f_minus.kp T.b_minus pass0 (qa_cons (qe_var 0) (qa_cons (qe_var 1) qa_nil))) (qa_cons qe_int qa_nil)))) qb_non (nomark _))))) ?_
  intro ds M Q0 h
  unfold p_within at h
  split at h
  · skip
    obtain ⟨ps, qs, rfl, rfl, ⟨hp, hq, hl, hc⟩, h⟩ := h
    walk_at "pl"
    refine ⟨ps, qs, rfl, rfl, ⟨hp, hq, hl, hc⟩, fun fs t1 t2 t3 t4 => ⟨fs, rfl, ⟨t1.toPatOk, by omega⟩, fun r hr => ?_⟩⟩
    cases r with
    | none =>
      have hr : ∀ x, 0 ≤ x → patB fs x = false := hr
      refine h true ?_
      refine ⟨fun _ d hd h1 => ?_, fun _ => rfl⟩
      have := hr d hd
      rw [t2 d hd, h1] at this
      simpa using this
    | some r =>
      obtain ⟨r0, r1, _⟩ := hr
      refine h false ?_
      refine ⟨fun w => (by cases w), fun w => ?_⟩
      rw [t2 r r0, Bool.and_eq_true] at r1
      have := w r r0 r1.1
      rw [this] at r1
      exact absurd r1.2 (by decide)
  · exact h.elim

local macro_rules | `(tactic| walk_at "go") => `(tactic| repeat' (first | assumption | with_reducible apply And.intro | walk_at "cs"))
local macro_rules | `(tactic| walk_at "ex") => `(tactic| simp only [List.cons.injEq, Sl.va.injEq, Sl.ow.injEq, Ow.lst.injEq, D.int.injEq, D.bl.injEq, D.str.injEq, D.lst.injEq, D.tup.injEq, true_and, and_true])
local macro_rules | `(tactic| walk_at "gn") => `(tactic| simp only [↓gN, ↓gsNil, ↓gsCons, ↓gT, ↓gSq, List.length_cons, List.length_nil, Nat.reduceAdd, true_and, List.set_cons_zero, List.set_cons_succ])
local macro_rules | `(tactic| walk_at "sp") => `(tactic| repeat' (first | split | with_reducible apply And.intro))
local macro_rules | `(tactic| walk_at "cs") => `(tactic| first | (unfold CMulP; omega) | (unfold CPowP; omega) | (unfold CModP; omega) | (unfold CDivP; omega))
local macro_rules | `(tactic| walk_at "pl") => `(tactic| simp only [↓sSeq, ↓sAsg, ↓sRet, ↓sRetN, ↓sIf, ↓sDrop, ↓sNext, ↓sApp, ↓eVar, ↓bVar, ↓bE, ↓eBin, ↓tE, chS_bl, chS_true, chS_false, wipeE_nil, wipeE_cons, ↓eIf, ↓aNil, ↓aCons, ↓aConsB, ↓eTup, ↓eLst, ↓iSeq, Option.isSome_some, lk_int, lk_str, ↓gN, ↓gsNil, ↓gsCons, ↓eCall, ↓dI2, ↓dNotN, ↓eB, ↓cLen, ↓cMin, ↓gSq, natc0, natc1, natc2, List.findIdx?_cons, List.findIdx?_nil, intsOf_ints, boolsOf_bls, plAnyI, plAnyR, ↓Sl.val, ↓Ow.toD, ↓stE, ↓PL.isNon, ↓eC, ↓bC, ↓dGt, List.getElem?_cons_zero, List.getElem?_cons_succ, List.set_cons_zero, List.set_cons_succ, List.map_cons, List.map_nil, List.length_cons, List.length_nil, List.nil_append, List.cons_append, List.replicate_succ, List.replicate_zero, List.append_nil, atI0, atI1, atI2, atI3, atI4, cmpOk_int, cmpOk_bl, cmpOk_non, deq_int, deq_bl, true_and, and_true, Nat.reduceAdd, Nat.reduceSub, Nat.reduceLeDiff, Nat.reduceLT, Bool.not_eq_true', Bool.false_eq_true, if_false, if_true, decide_eq_true_eq, decide_eq_false_iff_not, Nat.zero_add, Nat.sub_zero, Nat.add_zero, Nat.sub_self, ixN31, ixN32, List.length_map, List.length_set, Int.reduceToNat, Int.reducePow, Int.reduceNeg, Int.reduceAdd, Int.reduceSub, Int.reduceMul, Int.reduceLT, Int.reduceLE, Int.reduceEq, Nat.reduceEqDiff, reduceCtorEq, List.mem_singleton, eq_self, not_true_eq_false, not_false_eq_true, or_true, true_or, cmpOk_lstA, cmpOk_tupA, ckA_lst, ckA_tup, ckAl_nil, ckAl_cons, ckAl_ints, ckAl_rangeL, ck_int, ck_bl, ck_non, ck_strI, cmpOk_str, deq_str, deq_tup, deq_lst, deqA_nil, deqA_cons, deqA_ints, Bool.and_true, Bool.true_and, Bool.and_false, Bool.false_and, decide_true, decide_false, Bool.not_true, Bool.not_false, ↓p_minus, ↓p_next_from])
theorem ok_first_difference (T : TF K mg) : FnOk P w K mg base CX0 7 T.a_first_difference T.x_first_difference ["first", "second"] (liP K p_first_difference) := by
  refine fn_P T.f_first_difference sc_first_difference (by intro ds M Q E h; unfold p_first_difference at h; split at h <;> first | rfl | exact h.elim) (fun cdv A outer s H E z hz hr => (qs_cons (qs_set (i := 2) sc_first_difference.nd rfl (by first | exact Or.inl rfl | exact Or.inr rfl) (qe_lst qa_nil))
    (qs_cons (qs_for PassesOwn.never rfl (qi_seq (h := (qe_tup (qa_cons (qe_tup (qa_cons (qe_var 0) (qa_cons (qe_var 1) qa_nil))) (qa_cons (qe_tup (qa_cons (qe_var 1) (qa_cons (qe_var 0) qa_nil))) qa_nil))))) (qg_seq (n := 2) rfl (qgs_cons (qg_name (i := 3) sc_first_difference.nd rfl (by first | exact Or.inl rfl | exact Or.inr rfl)) (qgs_cons (qg_name (i := 4) sc_first_difference.nd rfl (by first | exact Or.inl rfl | exact Or.inr rfl)) qgs_nil)))
    (qs_cons (qs_set (i := 5) sc_first_difference.nd rfl (by first | exact Or.inl rfl | exact Or.inr rfl) (qe_call (ok_next_from T) (hr.mono (by decide)) (by rfl) T.g_next_from T.f_next_from.kp T.b_next_from pass0 (qa_cons (qe_call (ok_minus T) hr (by rfl) T.g_minus T.f_minus.kp T.b_minus pass0 (qa_cons (qe_var 3) (qa_cons (qe_var 4) qa_nil))) (qa_cons qe_int qa_nil))))
    (qs_end (qs_if (qt_cmp ob_notN (qb_var 5) qb_non (nomark _))
    (qs_end (qs_append (i := 2) rfl (by first | exact Or.inl rfl | exact Or.inr (Or.inl rfl) | exact Or.inr (Or.inr rfl)) (qe_var 5)))
    qs_nil))))
    (qs_end (qs_ret (qe_ifExp (qt_cmp ob_gt (qb_of (qe_callB cb_len (by rfl) T.m_len (by decide +kernel) (qab_cons (qb_var 2) qab_nil))) qb_int (nomark _)) (qe_callB (cb_min rfl) (by rfl) T.m_min (by decide +kernel) (qab_cons (qb_var 2) qab_nil)) qe_non)))))) ?_
  intro ds M Q0 h
  unfold p_first_difference at h
  split at h
  · skip
    obtain ⟨ps, qs, L, B, rfl, rfl, ⟨⟨hL, hL2⟩, ⟨hB, hB2⟩, hp, hq⟩, h⟩ := h
    refine sSeq_i fun N1 h1 => ?_
    walk_at "pl"
    refine h1 _ _ ?_
    clear h1
    refine sSeq_i fun N1 h1 => ?_
    refine sFor_k fun N hN => ?_
    walk_at "pl"
    refine hN _ _ _ ?_
    clear hN
    have hdf : ∀ a b : Bool, (a != b) = true ↔ ((a && !b) = true ∨ (b && !a) = true) := by decide
    refine loop_i (fun i ρ M1 => M1 = M ∧ ∃ (F : List (Option Int)) (a b c : Sl), (F.length = i ∧ (∀ r, F[0]? = some r → IsNext (fun d => patB ps d && !patB qs d) 0 r) ∧ ∀ r, F[1]? = some r → IsNext (fun d => patB qs d && !patB ps d) 0 r) ∧ ρ = [.va (.tup (ps.map pcD)), .va (.tup (qs.map pcD)), .ow (.lst ((F.filterMap id).map D.int)), a, b, c]) ⟨rfl, [], _, _, _, ⟨rfl, by simp, by simp⟩, rfl⟩ ?_ ?_
    · rintro J hJ i dd ρ M1 hd ⟨rfl, F, a, b, c, ⟨g1, g2, g3⟩, rfl⟩
      obtain ⟨us, vs, hu, hv, rfl, hF⟩ : ∃ us vs : List Pc, Reg L B us ∧ Reg L B vs ∧ dd = .tup [.tup (us.map pcD), .tup (vs.map pcD)] ∧ ∀ r, IsNext (fun d => patB us d && !patB vs d) 0 r →
          ((F ++ [r]).length = i + 1 ∧ (∀ r', (F ++ [r])[0]? = some r' → IsNext (fun d => patB ps d && !patB qs d) 0 r') ∧ ∀ r', (F ++ [r])[1]? = some r' → IsNext (fun d => patB qs d && !patB ps d) 0 r') := by
        cases i with
        | zero =>
          cases hd
          have : F = [] := List.eq_nil_of_length_eq_zero g1
          subst this
          exact ⟨ps, qs, hp, hq, rfl, fun r hr => ⟨rfl, fun r' e => by cases e; exact hr, fun r' e => by cases e⟩⟩
        | succ i =>
          cases i with
          | zero =>
            cases hd
            obtain ⟨r0, rfl⟩ : ∃ r0, F = [r0] := List.length_eq_one_iff.mp g1
            exact ⟨qs, ps, hq, hp, rfl, fun r hr => ⟨rfl, fun r' e => g2 r' e, fun r' e => by cases e; exact hr⟩⟩
          | succ i => simp at hd
      have ul := hu.len
      have vl := hv.len
      walk_at "gn"
      walk_at "pl"
      refine ⟨us, vs, rfl, rfl, ⟨hu.ok, hv.ok, by omega, hu.steps hv hL hL2 (by omega)⟩, fun ms m1 m2 m3 m4 => ⟨ms, rfl, ⟨m1.toPatOk, by omega⟩, fun r hr => ?_⟩⟩
      have hr2 : IsNext (fun d => patB us d && !patB vs d) 0 r := by
        cases r with
        | none => exact fun d hd => (m2 d hd).symm.trans (hr d hd)
        | some v => exact ⟨hr.1, (m2 v hr.1).symm.trans hr.2.1, fun d hd hd2 => (m2 d hd).symm.trans (hr.2.2 d hd hd2)⟩
      have hfl := List.length_filterMap_le id F
      have hF := hF r hr2
      have hJ' : ∀ a b c, J (i + 1) [.va (.tup (ps.map pcD)), .va (.tup (qs.map pcD)), .ow (.lst (((F ++ [r]).filterMap id).map D.int)), a, b, c] M1 := fun a b c => hJ _ _ _ ⟨rfl, F ++ [r], _, _, _, hF, rfl⟩
      rw [List.filterMap_append] at hJ'
      have hil : i ≤ 2 := by have := (List.getElem?_eq_some_iff.mp hd).1; simp at this; omega
      cases r with
      | none =>
        simp only [↓sSeq, ↓sAsg, ↓sRet, ↓sRetN, ↓sIf, ↓sDrop, ↓sNext, ↓sApp, ↓eVar, ↓bVar, ↓bE, ↓eBin, ↓tE, chS_bl, chS_true, chS_false, wipeE_nil, wipeE_cons, ↓eIf, ↓aNil, ↓aCons, ↓aConsB, ↓eTup, ↓eLst, ↓iSeq, Option.isSome_some, lk_int, lk_str, ↓gN, ↓gsNil, ↓gsCons, ↓eCall, ↓dI2, ↓dNotN, ↓eB, ↓cLen, ↓cMin, ↓gSq, natc0, natc1, natc2, List.findIdx?_cons, List.findIdx?_nil, intsOf_ints, boolsOf_bls, plAnyI, plAnyR, ↓Sl.val, ↓Ow.toD, ↓stE, ↓PL.isNon, ↓eC, ↓bC, ↓dGt, List.getElem?_cons_zero, List.getElem?_cons_succ, List.set_cons_zero, List.set_cons_succ, List.map_cons, List.map_nil, List.length_cons, List.length_nil, List.nil_append, List.cons_append, List.replicate_succ, List.replicate_zero, List.append_nil, atI0, atI1, atI2, atI3, atI4, cmpOk_int, cmpOk_bl, cmpOk_non, deq_int, deq_bl, true_and, and_true, Nat.reduceAdd, Nat.reduceSub, Nat.reduceLeDiff, Nat.reduceLT, Bool.not_eq_true', Bool.false_eq_true, if_false, if_true, decide_eq_true_eq, decide_eq_false_iff_not, Nat.zero_add, Nat.sub_zero, Nat.add_zero, Nat.sub_self, ixN31, ixN32, List.length_map, List.length_set, Int.reduceToNat, Int.reducePow, Int.reduceNeg, Int.reduceAdd, Int.reduceSub, Int.reduceMul, Int.reduceLT, Int.reduceLE, Int.reduceEq, Nat.reduceEqDiff, reduceCtorEq, List.mem_singleton, eq_self, not_true_eq_false, not_false_eq_true, or_true, true_or, cmpOk_lstA, cmpOk_tupA, ckA_lst, ckA_tup, ckAl_nil, ckAl_cons, ckAl_ints, ckAl_rangeL, ck_int, ck_bl, ck_non, ck_strI, cmpOk_str, deq_str, deq_tup, deq_lst, deqA_nil, deqA_cons, deqA_ints, Bool.and_true, Bool.true_and, Bool.and_false, Bool.false_and, decide_true, decide_false, Bool.not_true, Bool.not_false, ↓p_minus, ↓p_next_from, optD]
        simpa using hJ' _ _ _
      | some v =>
        simp only [↓sSeq, ↓sAsg, ↓sRet, ↓sRetN, ↓sIf, ↓sDrop, ↓sNext, ↓sApp, ↓eVar, ↓bVar, ↓bE, ↓eBin, ↓tE, chS_bl, chS_true, chS_false, wipeE_nil, wipeE_cons, ↓eIf, ↓aNil, ↓aCons, ↓aConsB, ↓eTup, ↓eLst, ↓iSeq, Option.isSome_some, lk_int, lk_str, ↓gN, ↓gsNil, ↓gsCons, ↓eCall, ↓dI2, ↓dNotN, ↓eB, ↓cLen, ↓cMin, ↓gSq, natc0, natc1, natc2, List.findIdx?_cons, List.findIdx?_nil, intsOf_ints, boolsOf_bls, plAnyI, plAnyR, ↓Sl.val, ↓Ow.toD, ↓stE, ↓PL.isNon, ↓eC, ↓bC, ↓dGt, List.getElem?_cons_zero, List.getElem?_cons_succ, List.set_cons_zero, List.set_cons_succ, List.map_cons, List.map_nil, List.length_cons, List.length_nil, List.nil_append, List.cons_append, List.replicate_succ, List.replicate_zero, List.append_nil, atI0, atI1, atI2, atI3, atI4, cmpOk_int, cmpOk_bl, cmpOk_non, deq_int, deq_bl, true_and, and_true, Nat.reduceAdd, Nat.reduceSub, Nat.reduceLeDiff, Nat.reduceLT, Bool.not_eq_true', Bool.false_eq_true, if_false, if_true, decide_eq_true_eq, decide_eq_false_iff_not, Nat.zero_add, Nat.sub_zero, Nat.add_zero, Nat.sub_self, ixN31, ixN32, List.length_map, List.length_set, Int.reduceToNat, Int.reducePow, Int.reduceNeg, Int.reduceAdd, Int.reduceSub, Int.reduceMul, Int.reduceLT, Int.reduceLE, Int.reduceEq, Nat.reduceEqDiff, reduceCtorEq, List.mem_singleton, eq_self, not_true_eq_false, not_false_eq_true, or_true, true_or, cmpOk_lstA, cmpOk_tupA, ckA_lst, ckA_tup, ckAl_nil, ckAl_cons, ckAl_ints, ckAl_rangeL, ck_int, ck_bl, ck_non, ck_strI, cmpOk_str, deq_str, deq_tup, deq_lst, deqA_nil, deqA_cons, deqA_ints, Bool.and_true, Bool.true_and, Bool.and_false, Bool.false_and, decide_true, decide_false, Bool.not_true, Bool.not_false, ↓p_minus, ↓p_next_from, optD]
        refine ⟨by omega, ?_⟩
        have := hJ' (.va (.tup (us.map pcD))) (.va (.tup (vs.map pcD))) (.va (.int v))
        rw [List.map_append] at this
        exact this
    · rintro ρ M1 ⟨rfl, F, a, b, c, ⟨g1, g2, g3⟩, rfl⟩
      refine h1 _ _ ?_
      clear h1
      walk_at "pl"
      obtain ⟨r0, r1, rfl⟩ : ∃ r0 r1, F = [r0, r1] := match F, g1 with | [a, b], _ => ⟨a, b, rfl⟩
      have e0 := g2 r0 rfl
      have e1 := g3 r1 rfl
      have hA : ∀ (f : Int → Bool) (r : Option Int), IsNext f 0 r → r ∈ [r0, r1] → ∀ x, 0 ≤ x → f x = true → ∃ y ∈ [r0, r1].filterMap id, y ≤ x := fun f r hr hm x x0 hx => by
        cases r with
        | none => have := hr x x0; rw [hx] at this; cases this
        | some y =>
          refine ⟨y, List.mem_filterMap.mpr ⟨some y, hm, rfl⟩, ?_⟩
          rcases Int.lt_or_le x y with w | w
          · have := hr.2.2 x x0 w; rw [hx] at this; cases this
          · exact w
      have hB : ∀ x, 0 ≤ x → (patB ps x != patB qs x) = true → ∃ y ∈ [r0, r1].filterMap id, y ≤ x := fun x x0 hx => by
        rcases (hdf _ _).mp hx with w | w
        · exact hA _ r0 e0 (by simp) x x0 w
        · exact hA _ r1 e1 (by simp) x x0 w
      have hC : ∀ y ∈ [r0, r1].filterMap id, 0 ≤ y ∧ (patB ps y != patB qs y) = true := fun y hy => by
        obtain ⟨r, hr, e⟩ := List.mem_filterMap.mp hy
        cases (show r = some y from e)
        rcases List.mem_cons.mp hr with w | w
        · subst w; exact ⟨e0.1, (hdf _ _).mpr (.inl e0.2.1)⟩
        · cases List.mem_singleton.mp w; exact ⟨e1.1, (hdf _ _).mpr (.inr e1.2.1)⟩
      split
      · refine ⟨by omega, fun m m1 m2 => h (some m) ⟨(hC m m1).1, (hC m m1).2, fun x x0 x1 => ?_⟩⟩
        cases hx : (patB ps x != patB qs x) with
        | false => exact hx
        | true =>
          obtain ⟨y, y1, y2⟩ := hB x x0 hx
          have := m2 y y1
          omega
      · rename_i hn
        refine h none fun x x0 => ?_
        cases hx : (patB ps x != patB qs x) with
        | false => exact hx
        | true =>
          obtain ⟨y, y1, y2⟩ := hB x x0 hx
          have := List.length_pos_of_mem y1
          omega
  · exact h.elim

local macro_rules | `(tactic| walk_at "go") => `(tactic| repeat' (first | assumption | with_reducible apply And.intro | walk_at "cs"))
local macro_rules | `(tactic| walk_at "ex") => `(tactic| simp only [List.cons.injEq, Sl.va.injEq, Sl.ow.injEq, Ow.lst.injEq, D.int.injEq, D.bl.injEq, D.str.injEq, D.lst.injEq, D.tup.injEq, true_and, and_true])
local macro_rules | `(tactic| walk_at "gn") => `(tactic| simp only [↓gN, ↓gsNil, ↓gsCons, ↓gT, ↓gSq, List.length_cons, List.length_nil, Nat.reduceAdd, true_and, List.set_cons_zero, List.set_cons_succ])
local macro_rules | `(tactic| walk_at "sp") => `(tactic| repeat' (first | split | with_reducible apply And.intro))
local macro_rules | `(tactic| walk_at "cs") => `(tactic| first | (unfold CMulP; omega) | (unfold CPowP; omega) | (unfold CModP; omega) | (unfold CDivP; omega))
local macro_rules | `(tactic| walk_at "pl") => `(tactic| simp only [↓sRet, ↓sRetN, ↓sDrop, ↓sNext, ↓eVar, ↓bE, ↓eBin, chS_bl, chS_true, chS_false, wipeE_nil, wipeE_cons, ↓aNil, ↓aCons, Option.isSome_some, lk_int, lk_str, ↓eCall, ↓dIsN, natc0, natc1, natc2, List.findIdx?_cons, List.findIdx?_nil, intsOf_ints, boolsOf_bls, plAnyI, plAnyR, ↓Sl.val, ↓Ow.toD, ↓stE, ↓PL.isNon, ↓bC, List.getElem?_cons_zero, List.getElem?_cons_succ, List.set_cons_zero, List.set_cons_succ, List.map_cons, List.map_nil, List.length_cons, List.length_nil, List.nil_append, List.cons_append, List.replicate_succ, List.replicate_zero, List.append_nil, atI0, atI1, atI2, atI3, atI4, cmpOk_int, cmpOk_bl, cmpOk_non, deq_int, deq_bl, true_and, and_true, Nat.reduceAdd, Nat.reduceSub, Nat.reduceLeDiff, Nat.reduceLT, Bool.not_eq_true', Bool.false_eq_true, if_false, if_true, decide_eq_true_eq, decide_eq_false_iff_not, Nat.zero_add, Nat.sub_zero, Nat.add_zero, Nat.sub_self, ixN31, ixN32, List.length_map, List.length_set, Int.reduceToNat, Int.reducePow, Int.reduceNeg, Int.reduceAdd, Int.reduceSub, Int.reduceMul, Int.reduceLT, Int.reduceLE, Int.reduceEq, Nat.reduceEqDiff, reduceCtorEq, List.mem_singleton, eq_self, not_true_eq_false, not_false_eq_true, or_true, true_or, cmpOk_lstA, cmpOk_tupA, ckA_lst, ckA_tup, ckAl_nil, ckAl_cons, ckAl_ints, ckAl_rangeL, ck_int, ck_bl, ck_non, ck_strI, cmpOk_str, deq_str, deq_tup, deq_lst, deqA_nil, deqA_cons, deqA_ints, Bool.and_true, Bool.true_and, Bool.and_false, Bool.false_and, decide_true, decide_false, Bool.not_true, Bool.not_false, ↓p_first_difference, ↓p_unfolded])
theorem ok_same_days (T : TF K mg) : FnOk P w K mg base CX0 8 T.a_same_days T.x_same_days ["rule", "other"] (liP K p_same_days) := by
  refine fn_P T.f_same_days sc_same_days (by intro ds M Q E h; unfold p_same_days at h; split at h <;> first | rfl | exact h.elim) (fun cdv A outer s H E z hz hr => (qs_end (qs_ret (qe_cmp ob_isN (qb_of (qe_call (ok_first_difference T) hr (by rfl) T.g_first_difference T.f_first_difference.kp T.b_first_difference pass0 (qa_cons (qe_call (ok_unfolded T) (hr.mono (by decide)) (by rfl) T.g_unfolded T.f_unfolded.kp T.b_unfolded pass0 (qa_cons (qe_var 0) qa_nil)) (qa_cons (qe_call (ok_unfolded T) (hr.mono (by decide)) (by rfl) T.g_unfolded T.f_unfolded.kp T.b_unfolded pass0 (qa_cons (qe_var 1) qa_nil)) qa_nil)))) qb_non (nomark _))))) ?_
  intro ds M Q0 h
  unfold p_same_days at h
  split at h
  · skip
    obtain ⟨r, s, rfl, rfl, ⟨hr, hs⟩, h⟩ := h
    walk_at "pl"
    refine ⟨r, rfl, hr, fun fs f1 f2 f3 f4 => ⟨s, rfl, hs, fun gs g1 g2 g3 g4 => ⟨fs, gs, 168, 1001, rfl, rfl, ⟨by decide, by decide, f4, g4⟩, fun q hq => h _ ?_⟩⟩⟩
    cases q with
    | none =>
      refine ⟨fun _ d hd => ?_, fun _ => rfl⟩
      have := hq d hd
      rw [← f2 d hd, ← g2 d hd]
      simpa using this
    | some v =>
      refine ⟨fun w => (by cases w), fun w => ?_⟩
      have h1 : (patB fs v != patB gs v) = true := hq.2.1
      rw [f2 v hq.1, g2 v hq.1, w v hq.1] at h1
      simp at h1
  · exact h.elim

local macro_rules | `(tactic| walk_at "go") => `(tactic| repeat' (first | assumption | with_reducible apply And.intro | walk_at "cs"))
local macro_rules | `(tactic| walk_at "ex") => `(tactic| simp only [List.cons.injEq, Sl.va.injEq, Sl.ow.injEq, Ow.lst.injEq, D.int.injEq, D.bl.injEq, D.str.injEq, D.lst.injEq, D.tup.injEq, true_and, and_true])
local macro_rules | `(tactic| walk_at "gn") => `(tactic| simp only [↓gN, ↓gsNil, ↓gsCons, ↓gT, ↓gSq, List.length_cons, List.length_nil, Nat.reduceAdd, true_and, List.set_cons_zero, List.set_cons_succ])
local macro_rules | `(tactic| walk_at "sp") => `(tactic| repeat' (first | split | with_reducible apply And.intro))
local macro_rules | `(tactic| walk_at "cs") => `(tactic| first | (unfold CMulP; omega) | (unfold CPowP; omega) | (unfold CModP; omega) | (unfold CDivP; omega))
local macro_rules | `(tactic| walk_at "pl") => `(tactic| simp only [↓sSeq, ↓sAsg, ↓sRet, ↓sRetN, ↓sDrop, ↓sNext, ↓eVar, chS_bl, chS_true, chS_false, wipeE_nil, wipeE_cons, ↓aNil, ↓aCons, ↓iSeq, Option.isSome_some, lk_int, lk_str, ↓gN, ↓eCall, natc0, natc1, natc2, List.findIdx?_cons, List.findIdx?_nil, intsOf_ints, boolsOf_bls, plAnyI, plAnyR, ↓Sl.val, ↓Ow.toD, ↓stE, ↓PL.isNon, ↓eC, List.getElem?_cons_zero, List.getElem?_cons_succ, List.set_cons_zero, List.set_cons_succ, List.map_cons, List.map_nil, List.length_cons, List.length_nil, List.nil_append, List.cons_append, List.replicate_succ, List.replicate_zero, List.append_nil, atI0, atI1, atI2, atI3, atI4, cmpOk_int, cmpOk_bl, cmpOk_non, deq_int, deq_bl, true_and, and_true, Nat.reduceAdd, Nat.reduceSub, Nat.reduceLeDiff, Nat.reduceLT, Bool.not_eq_true', Bool.false_eq_true, if_false, if_true, decide_eq_true_eq, decide_eq_false_iff_not, Nat.zero_add, Nat.sub_zero, Nat.add_zero, Nat.sub_self, ixN31, ixN32, List.length_map, List.length_set, Int.reduceToNat, Int.reducePow, Int.reduceNeg, Int.reduceAdd, Int.reduceSub, Int.reduceMul, Int.reduceLT, Int.reduceLE, Int.reduceEq, Nat.reduceEqDiff, reduceCtorEq, List.mem_singleton, eq_self, not_true_eq_false, not_false_eq_true, or_true, true_or, cmpOk_lstA, cmpOk_tupA, ckA_lst, ckA_tup, ckAl_nil, ckAl_cons, ckAl_ints, ckAl_rangeL, ck_int, ck_bl, ck_non, ck_strI, cmpOk_str, deq_str, deq_tup, deq_lst, deqA_nil, deqA_cons, deqA_ints, Bool.and_true, Bool.true_and, Bool.and_false, Bool.false_and, decide_true, decide_false, Bool.not_true, Bool.not_false, ↓p_unfolded, ↓p_union, ↓p_within])
theorem ok_implied_by (T : TF K mg) : FnOk P w K mg base CX0 8 T.a_implied_by T.x_implied_by ["rule", "rules"] (liP K p_implied_by) := by
  refine fn_P T.f_implied_by sc_implied_by (by intro ds M Q E h; unfold p_implied_by at h; split at h <;> first | rfl | exact h.elim) (fun cdv A outer s H E z hz hr => (qs_cons (qs_set (i := 2) sc_implied_by.nd rfl (by first | exact Or.inl rfl | exact Or.inr rfl) (qe_con (pe_glob (by rfl) T.g_EMPTY T.r_EMPTY) (fun _ => by first | exact Rp.int _ | exact Rp.str _ | exact T.d_EMPTY _ (by first | assumption | rfl))))
    (qs_cons (qs_for PassesOwn.never rfl (qi_seq (h := (qe_var 1))) (qg_name (i := 3) sc_implied_by.nd rfl (by first | exact Or.inl rfl | exact Or.inr rfl))
    (qs_end (qs_set (i := 2) sc_implied_by.nd rfl (by first | exact Or.inl rfl | exact Or.inr rfl) (qe_call (ok_union T) (hr.mono (by decide)) (by rfl) T.g_union T.f_union.kp T.b_union pass0 (qa_cons (qe_var 2) (qa_cons (qe_call (ok_unfolded T) (hr.mono (by decide)) (by rfl) T.g_unfolded T.f_unfolded.kp T.b_unfolded pass0 (qa_cons (qe_var 3) qa_nil)) qa_nil))))))
    (qs_end (qs_ret (qe_call (ok_within T) hr (by rfl) T.g_within T.f_within.kp T.b_within pass0 (qa_cons (qe_call (ok_unfolded T) (hr.mono (by decide)) (by rfl) T.g_unfolded T.f_unfolded.kp T.b_unfolded pass0 (qa_cons (qe_var 0) qa_nil)) (qa_cons (qe_var 2) qa_nil)))))))) ?_
  intro ds M Q0 h
  unfold p_implied_by at h
  split at h
  · skip
    obtain ⟨r, ss, rfl, hd1, ⟨hr, hs, hl⟩, h⟩ := h
    rename_i d1
    refine sSeq_i fun N1 h1 => ?_
    walk_at "pl"
    refine h1 _ _ ?_
    clear h1
    refine sSeq_i fun N1 h1 => ?_
    refine sFor_k fun N hN => ?_
    walk_at "pl"
    have hgo : N (ss.map rulD) [.va (rulD r), .va d1, .va (.tup [.tup [.int 0, .int 1, .tup []]]), .un] M := by
      refine hN _ _ _ ?_
      clear hN
      refine loop_i (fun i ρ M1 => M1 = M ∧ ∃ (gs : List Pc) (a : Sl), (Reg 168 1001 gs ∧ ∀ d, 0 ≤ d → patB gs d = (ss.take i).any fun s => rulB s d) ∧ ρ = [.va (rulD r), .va d1, .va (.tup (gs.map pcD)), a]) ⟨rfl, [(0, 1, [])], _, ⟨reg_empty (by decide), fun d hd => by simp [patB, inPc]⟩, rfl⟩ ?_ ?_
      · rintro J hJ i dd ρ M1 hd ⟨rfl, gs, a, ⟨g1, g2⟩, rfl⟩
        obtain ⟨s, hi, rfl⟩ := map_get hd
        have hss := hs s (List.mem_of_getElem? hi)
        have gl := g1.len
        walk_at "gn"
        walk_at "pl"
        refine ⟨s, rfl, hss, fun fs f1 f2 f3 f4 => ⟨gs, fs, rfl, rfl, ⟨g1.ok, f1.toPatOk, by omega, Reg.steps g1 f4 (by decide) (by decide) (by decide)⟩, fun us u1 u2 u3 u4 => ?_⟩⟩
        refine hJ _ _ _ ⟨rfl, us, .va (rulD s), ⟨Reg.put (w := wEither) g1 f4 (by decide) (by decide) u1 (fun d hd => by rw [u2 d hd, combB_either]) fun f hf => (u4 f hf).1, fun d hd => ?_⟩, rfl⟩
        rw [u2 d hd, g2 d hd, f2 d hd, List.take_add_one, hi]
        simp
      · rintro ρ M1 ⟨rfl, gs, a, ⟨g1, g2⟩, rfl⟩
        rw [List.length_map, List.take_length] at g2
        have gl := g1.len
        refine h1 _ _ ?_
        clear h1
        walk_at "pl"
        refine ⟨r, rfl, hr, fun fs f1 f2 f3 f4 => ⟨fs, gs, rfl, rfl, ⟨f1.toPatOk, g1.ok, by omega, Reg.steps f4 g1 (by decide) (by decide) (by decide)⟩, fun b hb => h b ?_⟩⟩
        rw [hb]
        refine forall_congr' fun d => forall_congr' fun hd => ?_
        rw [f2 d hd, g2 d hd, List.any_eq_true]
    rcases hd1 with rfl | rfl
    · exact hgo
    · exact hgo
  · exact h.elim

local macro_rules | `(tactic| walk_at "go") => `(tactic| repeat' (first | assumption | with_reducible apply And.intro | walk_at "cs"))
local macro_rules | `(tactic| walk_at "ex") => `(tactic| simp only [List.cons.injEq, Sl.va.injEq, Sl.ow.injEq, Ow.lst.injEq, D.int.injEq, D.bl.injEq, D.str.injEq, D.lst.injEq, D.tup.injEq, true_and, and_true])
local macro_rules | `(tactic| walk_at "gn") => `(tactic| simp only [↓gN, ↓gsNil, ↓gsCons, ↓gT, ↓gSq, List.length_cons, List.length_nil, Nat.reduceAdd, true_and, List.set_cons_zero, List.set_cons_succ])
local macro_rules | `(tactic| walk_at "sp") => `(tactic| repeat' (first | split | with_reducible apply And.intro))
local macro_rules | `(tactic| walk_at "cs") => `(tactic| first | (unfold CMulP; omega) | (unfold CPowP; omega) | (unfold CModP; omega) | (unfold CDivP; omega))
local macro_rules | `(tactic| walk_at "pl") => `(tactic| simp only [↓sSeq, ↓sAsg, ↓sRet, ↓sRetN, ↓sIf, ↓sDrop, ↓sNext, ↓eVar, ↓bVar, ↓bE, ↓eBin, ↓tE, chS_bl, chS_true, chS_false, wipeE_nil, wipeE_cons, ↓eUn, ↓aNil, ↓aCons, ↓aConsB, Option.isSome_some, lk_int, lk_str, ↓iR3, ↓gN, ↓eCall, ↓dI2, ↓dAdd, ↓dIx, ↓oNone, ↓oSome, ↓eSl, ↓eB, ↓cLen, ↓cList, ↓cTuple, natc0, natc1, natc2, List.findIdx?_cons, List.findIdx?_nil, intsOf_ints, boolsOf_bls, plAnyI, plAnyR, ↓Sl.val, ↓Ow.toD, ↓stE, ↓PL.isNon, ↓bC, ↓dSub, List.getElem?_cons_zero, List.getElem?_cons_succ, List.set_cons_zero, List.set_cons_succ, List.map_cons, List.map_nil, List.length_cons, List.length_nil, List.nil_append, List.cons_append, List.replicate_succ, List.replicate_zero, List.append_nil, atI0, atI1, atI2, atI3, atI4, cmpOk_int, cmpOk_bl, cmpOk_non, deq_int, deq_bl, true_and, and_true, Nat.reduceAdd, Nat.reduceSub, Nat.reduceLeDiff, Nat.reduceLT, Bool.not_eq_true', Bool.false_eq_true, if_false, if_true, decide_eq_true_eq, decide_eq_false_iff_not, Nat.zero_add, Nat.sub_zero, Nat.add_zero, Nat.sub_self, ixN31, ixN32, List.length_map, List.length_set, Int.reduceToNat, Int.reducePow, Int.reduceNeg, Int.reduceAdd, Int.reduceSub, Int.reduceMul, Int.reduceLT, Int.reduceLE, Int.reduceEq, Nat.reduceEqDiff, reduceCtorEq, List.mem_singleton, eq_self, not_true_eq_false, not_false_eq_true, or_true, true_or, cmpOk_lstA, cmpOk_tupA, ckA_lst, ckA_tup, ckAl_nil, ckAl_cons, ckAl_ints, ckAl_rangeL, ck_int, ck_bl, ck_non, ck_strI, cmpOk_str, deq_str, deq_tup, deq_lst, deqA_nil, deqA_cons, deqA_ints, Bool.and_true, Bool.true_and, Bool.and_false, Bool.false_and, decide_true, decide_false, Bool.not_true, Bool.not_false, ↓p_implied_by])
theorem ok_needed_rules (T : TF K mg) : FnOk P w K mg base CX0 9 T.a_needed_rules T.x_needed_rules ["rules"] (liP K p_needed_rules) := by
  refine fn_P T.f_needed_rules sc_needed_rules (by intro ds M Q E h; unfold p_needed_rules at h; split at h <;> first | rfl | exact h.elim) (fun cdv A outer s H E z hz hr => (qs_cons (qs_set (i := 1) sc_needed_rules.nd rfl (by first | exact Or.inl rfl | exact Or.inr rfl) (qe_callTy cb_list (by rfl) T.m_list (by decide +kernel) (qab_cons (qb_var 0) qab_nil)))
    (qs_cons (qs_for PassesOwn.never rfl (qi_range3 (by rfl) T.m_range (qa_cons (qe_bin ob_sub (qb_of (qe_callB cb_len (by rfl) T.m_len (by decide +kernel) (qab_cons (qb_var 0) qab_nil))) qb_int) (qa_cons (qe_un ub_neg qb_int) (qa_cons (qe_un ub_neg qb_int) qa_nil)))) (qg_name (i := 2) sc_needed_rules.nd rfl (by first | exact Or.inl rfl | exact Or.inr rfl))
    (qs_cons (qs_set (i := 3) sc_needed_rules.nd rfl (by first | exact Or.inl rfl | exact Or.inr rfl) (qe_bin ob_add (qb_of (qe_slice (qb_var 1) qo_none (qo_some (qb_var 2)))) (qb_of (qe_slice (qb_var 1) (qo_some (qb_of (qe_bin ob_add (qb_var 2) qb_int))) qo_none))))
    (qs_end (qs_if (qt_val (qe_call (ok_implied_by T) hr (by rfl) T.g_implied_by T.f_implied_by.kp T.b_implied_by pass0 (qa_cons (qe_ix (qb_var 1) (qb_var 2)) (qa_cons (qe_var 3) qa_nil))))
    (qs_end (qs_set (i := 1) sc_needed_rules.nd rfl (by first | exact Or.inl rfl | exact Or.inr rfl) (qe_var 3)))
    qs_nil))))
    (qs_end (qs_ret (qe_callTy cb_tuple (by rfl) T.m_tuple (by decide +kernel) (qab_cons (qb_var 1) qab_nil))))))) ?_
  intro ds M Q0 h
  unfold p_needed_rules at h
  split at h
  · skip
    obtain ⟨rs, rfl, ⟨hr, hl⟩, h⟩ := h
    obtain ⟨imp, himp⟩ : ∃ imp : Nat → List Nat → Bool, ∀ k K, imp k K = true ↔ ∀ d, 0 ≤ d → rulB (rs.getD k default) d = true → ∃ p ∈ K, rulB (rs.getD p default) d = true :=
      ⟨fun k K => @decide _ (Classical.propDecidable (∀ d, 0 ≤ d → rulB (rs.getD k default) d = true → ∃ p ∈ K, rulB (rs.getD p default) d = true)), fun k K => @decide_eq_true_iff _ (Classical.propDecidable _)⟩
    have h := h imp fun k K _ _ => himp k K
    refine sSeq_i fun N1 h1 => ?_
    walk_at "pl"
    refine h1 _ _ ?_
    clear h1
    refine sSeq_i fun N1 h1 => ?_
    refine sFor_k fun N hN => ?_
    walk_at "pl"
    refine ⟨by omega, hN _ _ _ ?_⟩
    clear hN
    generalize hn : rs.length = n at *
    have hg : ∀ k, k < n → rs[k]? = some (rs.getD k default) := fun k hk => by
      rw [List.getD_eq_getElem?_getD, List.getElem?_eq_getElem (by omega)]
      rfl
    have hmap : rs.map rulD = (List.range n).map fun k => rulD (rs.getD k default) := by
      refine List.ext_getElem? fun k => ?_
      rw [List.getElem?_map, List.getElem?_map]
      by_cases c : k < n
      · rw [hg k c, List.getElem?_range c]; rfl
      · rw [List.getElem?_eq_none (by omega), List.getElem?_eq_none (by rw [List.length_range]; omega)]; rfl
    refine loop_i (fun i ρ M1 => M1 = M ∧ ∃ (S : List Nat) (s1 b c : Sl), ((s1 = .ow (.lst ((List.range (n - i) ++ S).map fun k => rulD (rs.getD k default))) ∨ s1 = .va (.lst ((List.range (n - i) ++ S).map fun k => rulD (rs.getD k default)))) ∧ (∀ p ∈ S, n - i ≤ p ∧ p < n) ∧ S.length ≤ i ∧ needR imp n (List.range n) = needR imp (n - i) (List.range (n - i) ++ S)) ∧ ρ = [.va (.tup (rs.map rulD)), s1, b, c]) ⟨rfl, [], _, _, _, ⟨.inl (by rw [hmap, List.append_nil]; rfl), by simp, by simp, by rw [List.append_nil]; rfl⟩, rfl⟩ ?_ ?_
    · rintro J hJ i dd ρ M1 hd ⟨rfl, S, s1, b, c, ⟨g1, g2, g3, g4⟩, rfl⟩
      obtain ⟨rfl, hi⟩ := rangeC_get hd
      have hin : i < n := by omega
      obtain ⟨k, hk⟩ : ∃ k, n - i = k + 1 := ⟨n - i - 1, by omega⟩
      have hkn : k < n := by omega
      rw [hk] at g1 g2 g4
      rw [show (n : Int) - 1 + (i : Int) * -1 = (k : Int) by omega]
      have hcut : ∀ (xs : List D) (q : Nat), cutL xs none (some (q : Int)) = xs.take q := fun xs q => by
        unfold cutL
        rw [HT.sIx_none, HT.sIx_nat, List.drop_zero, Nat.sub_zero]
        by_cases c : q ≤ xs.length
        · rw [Nat.min_eq_left c]
        · rw [Nat.min_eq_right (by omega), List.take_of_length_le (Nat.le_refl _), List.take_of_length_le (by omega)]
      have hc1 : cutL ((List.range (k + 1) ++ S).map fun k => rulD (rs.getD k default)) none (some (k : Int)) = (List.range k).map fun k => rulD (rs.getD k default) := by
        rw [hcut, ← List.map_take, List.range_succ, List.append_assoc, List.take_left' (by rw [List.length_range])]
      have hc2 : cutL ((List.range (k + 1) ++ S).map fun k => rulD (rs.getD k default)) (some ((k : Int) + 1)) none = S.map fun k => rulD (rs.getD k default) := by
        rw [show (k : Int) + 1 = ((k + 1 : Nat) : Int) by omega, cutL_from, ← List.map_drop, List.drop_left' (by rw [List.length_range])]
      have hat : atI ((List.range (k + 1) ++ S).map fun k => rulD (rs.getD k default)) (k : Int) = some (rulD (rs.getD k default)) := at_map (by omega) (by
        rw [Int.toNat_natCast, List.getElem?_append_left (by rw [List.length_range]; omega), List.getElem?_range (by omega)])
      have hfil : (List.range (k + 1) ++ S).filter (fun p => decide (p ≠ k)) = List.range k ++ S := by
        rw [List.range_succ, List.filter_append, List.filter_append, List.filter_eq_self.mpr (fun p (hp : p ∈ List.range k) => by have := List.mem_range.mp hp; simp; omega), show [k].filter (fun p => decide (p ≠ k)) = [] from by simp, List.append_nil, List.filter_eq_self.mpr (fun p (hp : p ∈ S) => by have := (g2 p hp).1; simp; omega)]
      have hstep : needR imp n (List.range n) = needR imp k (if imp k (List.range k ++ S) = true then List.range k ++ S else List.range (k + 1) ++ S) := by
        rw [g4]
        show needR imp k (if imp k ((List.range (k + 1) ++ S).filter fun p => decide (p ≠ k)) = true then (List.range (k + 1) ++ S).filter (fun p => decide (p ≠ k)) else List.range (k + 1) ++ S) = _
        rw [hfil]
      have hni : n - (i + 1) = k := by omega
      have hrget : ∀ p, p < n → RulOk (rs.getD p default) := fun p hp => by
        have := hg p hp
        exact hr _ (List.mem_of_getElem? this)
      walk_at "gn"
      refine sSeq_i fun N2 h2 => ?_
      have hgo : ∀ s1 : Sl, (s1 = .ow (.lst ((List.range (k + 1) ++ S).map fun k => rulD (rs.getD k default))) ∨ s1 = .va (.lst ((List.range (k + 1) ++ S).map fun k => rulD (rs.getD k default)))) → N2 [.va (.tup (rs.map rulD)), s1, .va (.int (k : Int)), .ow (.lst ((List.range k ++ S).map fun k => rulD (rs.getD k default)))] M1 := by
        intro s1 hs1
        refine h2 _ _ ?_
        clear h2
        have hb1 : ∀ b : Bool, (b = true ↔ imp k (List.range k ++ S) = true) → b = imp k (List.range k ++ S) := fun b hb => by rw [Bool.eq_iff_iff]; exact hb
        have hend : ∀ (s3 s1' : Sl), (if imp k (List.range k ++ S) = true then s1' = .va (.lst ((List.range k ++ S).map fun k => rulD (rs.getD k default))) ∨ s1' = .ow (.lst ((List.range k ++ S).map fun k => rulD (rs.getD k default))) else s1' = s1) → J (i + 1) [.va (.tup (rs.map rulD)), s1', .va (.int (k : Int)), s3] M1 := by
          intro s3 s1' hs
          by_cases c : imp k (List.range k ++ S) = true
          · rw [if_pos c] at hs hstep
            refine hJ _ _ _ ⟨rfl, S, _, _, _, ⟨by rw [hni]; exact hs.symm, fun p hp => by have := g2 p hp; omega, by omega, by rw [hni]; exact hstep⟩, rfl⟩
          · rw [if_neg c] at hs hstep
            have e : List.range (k + 1) ++ S = List.range k ++ (k :: S) := by rw [List.range_succ, List.append_assoc]; rfl
            rw [e] at hs1 hstep
            refine hJ _ _ _ ⟨rfl, k :: S, _, _, _, ⟨by rw [hni, hs]; exact hs1, fun p hp => ?_, by rw [List.length_cons]; omega, by rw [hni]; exact hstep⟩, rfl⟩
            rcases List.mem_cons.mp hp with rfl | w
            · omega
            · have := g2 p w; omega
        rcases hs1 with rfl | rfl
        all_goals
          simp only [↓sSeq, ↓sAsg, ↓sRet, ↓sRetN, ↓sIf, ↓sDrop, ↓sNext, ↓eVar, ↓bVar, ↓bE, ↓eBin, ↓tE, chS_bl, chS_true, chS_false, wipeE_nil, wipeE_cons, ↓eUn, ↓aNil, ↓aCons, ↓aConsB, Option.isSome_some, lk_int, lk_str, ↓iR3, ↓gN, ↓eCall, ↓dI2, ↓dAdd, ↓dIx, ↓oNone, ↓oSome, ↓eSl, ↓eB, ↓cLen, ↓cList, ↓cTuple, natc0, natc1, natc2, List.findIdx?_cons, List.findIdx?_nil, intsOf_ints, boolsOf_bls, plAnyI, plAnyR, ↓Sl.val, ↓Ow.toD, ↓stE, ↓PL.isNon, ↓bC, ↓dSub, List.getElem?_cons_zero, List.getElem?_cons_succ, List.set_cons_zero, List.set_cons_succ, List.map_cons, List.map_nil, List.length_cons, List.length_nil, List.nil_append, List.cons_append, List.replicate_succ, List.replicate_zero, List.append_nil, atI0, atI1, atI2, atI3, atI4, cmpOk_int, cmpOk_bl, cmpOk_non, deq_int, deq_bl, true_and, and_true, Nat.reduceAdd, Nat.reduceSub, Nat.reduceLeDiff, Nat.reduceLT, Bool.not_eq_true', Bool.false_eq_true, if_false, if_true, decide_eq_true_eq, decide_eq_false_iff_not, Nat.zero_add, Nat.sub_zero, Nat.add_zero, Nat.sub_self, ixN31, ixN32, List.length_map, List.length_set, Int.reduceToNat, Int.reducePow, Int.reduceNeg, Int.reduceAdd, Int.reduceSub, Int.reduceMul, Int.reduceLT, Int.reduceLE, Int.reduceEq, Nat.reduceEqDiff, reduceCtorEq, List.mem_singleton, eq_self, not_true_eq_false, not_false_eq_true, or_true, true_or, cmpOk_lstA, cmpOk_tupA, ckA_lst, ckA_tup, ckAl_nil, ckAl_cons, ckAl_ints, ckAl_rangeL, ck_int, ck_bl, ck_non, ck_strI, cmpOk_str, deq_str, deq_tup, deq_lst, deqA_nil, deqA_cons, deqA_ints, Bool.and_true, Bool.true_and, Bool.and_false, Bool.false_and, decide_true, decide_false, Bool.not_true, Bool.not_false, ↓p_implied_by, hat]
          refine ⟨rs.getD k default, (List.range k ++ S).map fun p => rs.getD p default, rfl, .inr (by rw [List.map_map]; rfl), ⟨hrget k hkn, fun s hs => ?_, by rw [List.length_map, List.length_append, List.length_range]; omega⟩, fun b hb => ?_⟩
          · obtain ⟨p, hp, rfl⟩ := List.mem_map.mp hs
            refine hrget p ?_
            rcases List.mem_append.mp hp with w | w
            · have := List.mem_range.mp w; omega
            · exact (g2 p w).2
          have hbi := hb1 b (by
            rw [hb, himp]
            refine forall_congr' fun d => forall_congr' fun _ => forall_congr' fun _ => ⟨fun ⟨s, w1, w2⟩ => ?_, fun ⟨p, w1, w2⟩ => ⟨_, List.mem_map.mpr ⟨p, w1, rfl⟩, w2⟩⟩
            obtain ⟨p, hp, rfl⟩ := List.mem_map.mp w1
            exact ⟨p, hp, w2⟩)
          subst hbi
          split
          · rename_i c
            exact hend _ _ (by rw [if_pos c]; exact .inl rfl)
          · rename_i c
            exact hend _ _ (by rw [if_neg c])
      have hlen : (List.map (fun k => rulD (rs.getD k default)) (List.range k)).length + (List.map (fun k => rulD (rs.getD k default)) S).length ≤ 16777216 := by
        rw [List.length_map, List.length_map, List.length_range]; omega
      have e : (List.range k ++ S).map (fun k => rulD (rs.getD k default)) = (List.range k).map (fun k => rulD (rs.getD k default)) ++ S.map fun k => rulD (rs.getD k default) := List.map_append
      have hlr := List.length_range (n := k)
      rcases g1 with rfl | rfl
      · have := hgo _ (.inl rfl)
        rw [e] at this
        simp only [↓sSeq, ↓sAsg, ↓sRet, ↓sRetN, ↓sIf, ↓sDrop, ↓sNext, ↓eVar, ↓bVar, ↓bE, ↓eBin, ↓tE, chS_bl, chS_true, chS_false, wipeE_nil, wipeE_cons, ↓eUn, ↓aNil, ↓aCons, ↓aConsB, Option.isSome_some, lk_int, lk_str, ↓iR3, ↓gN, ↓eCall, ↓dI2, ↓dAdd, ↓dIx, ↓oNone, ↓oSome, ↓eSl, ↓eB, ↓cLen, ↓cList, ↓cTuple, natc0, natc1, natc2, List.findIdx?_cons, List.findIdx?_nil, intsOf_ints, boolsOf_bls, plAnyI, plAnyR, ↓Sl.val, ↓Ow.toD, ↓stE, ↓PL.isNon, ↓bC, ↓dSub, List.getElem?_cons_zero, List.getElem?_cons_succ, List.set_cons_zero, List.set_cons_succ, List.map_cons, List.map_nil, List.length_cons, List.length_nil, List.nil_append, List.cons_append, List.replicate_succ, List.replicate_zero, List.append_nil, atI0, atI1, atI2, atI3, atI4, cmpOk_int, cmpOk_bl, cmpOk_non, deq_int, deq_bl, true_and, and_true, Nat.reduceAdd, Nat.reduceSub, Nat.reduceLeDiff, Nat.reduceLT, Bool.not_eq_true', Bool.false_eq_true, if_false, if_true, decide_eq_true_eq, decide_eq_false_iff_not, Nat.zero_add, Nat.sub_zero, Nat.add_zero, Nat.sub_self, ixN31, ixN32, List.length_map, List.length_set, Int.reduceToNat, Int.reducePow, Int.reduceNeg, Int.reduceAdd, Int.reduceSub, Int.reduceMul, Int.reduceLT, Int.reduceLE, Int.reduceEq, Nat.reduceEqDiff, reduceCtorEq, List.mem_singleton, eq_self, not_true_eq_false, not_false_eq_true, or_true, true_or, cmpOk_lstA, cmpOk_tupA, ckA_lst, ckA_tup, ckAl_nil, ckAl_cons, ckAl_ints, ckAl_rangeL, ck_int, ck_bl, ck_non, ck_strI, cmpOk_str, deq_str, deq_tup, deq_lst, deqA_nil, deqA_cons, deqA_ints, Bool.and_true, Bool.true_and, Bool.and_false, Bool.false_and, decide_true, decide_false, Bool.not_true, Bool.not_false, ↓p_implied_by, hc1, hc2]
        exact ⟨by omega, this⟩
      · have := hgo _ (.inr rfl)
        rw [e] at this
        simp only [↓sSeq, ↓sAsg, ↓sRet, ↓sRetN, ↓sIf, ↓sDrop, ↓sNext, ↓eVar, ↓bVar, ↓bE, ↓eBin, ↓tE, chS_bl, chS_true, chS_false, wipeE_nil, wipeE_cons, ↓eUn, ↓aNil, ↓aCons, ↓aConsB, Option.isSome_some, lk_int, lk_str, ↓iR3, ↓gN, ↓eCall, ↓dI2, ↓dAdd, ↓dIx, ↓oNone, ↓oSome, ↓eSl, ↓eB, ↓cLen, ↓cList, ↓cTuple, natc0, natc1, natc2, List.findIdx?_cons, List.findIdx?_nil, intsOf_ints, boolsOf_bls, plAnyI, plAnyR, ↓Sl.val, ↓Ow.toD, ↓stE, ↓PL.isNon, ↓bC, ↓dSub, List.getElem?_cons_zero, List.getElem?_cons_succ, List.set_cons_zero, List.set_cons_succ, List.map_cons, List.map_nil, List.length_cons, List.length_nil, List.nil_append, List.cons_append, List.replicate_succ, List.replicate_zero, List.append_nil, atI0, atI1, atI2, atI3, atI4, cmpOk_int, cmpOk_bl, cmpOk_non, deq_int, deq_bl, true_and, and_true, Nat.reduceAdd, Nat.reduceSub, Nat.reduceLeDiff, Nat.reduceLT, Bool.not_eq_true', Bool.false_eq_true, if_false, if_true, decide_eq_true_eq, decide_eq_false_iff_not, Nat.zero_add, Nat.sub_zero, Nat.add_zero, Nat.sub_self, ixN31, ixN32, List.length_map, List.length_set, Int.reduceToNat, Int.reducePow, Int.reduceNeg, Int.reduceAdd, Int.reduceSub, Int.reduceMul, Int.reduceLT, Int.reduceLE, Int.reduceEq, Nat.reduceEqDiff, reduceCtorEq, List.mem_singleton, eq_self, not_true_eq_false, not_false_eq_true, or_true, true_or, cmpOk_lstA, cmpOk_tupA, ckA_lst, ckA_tup, ckAl_nil, ckAl_cons, ckAl_ints, ckAl_rangeL, ck_int, ck_bl, ck_non, ck_strI, cmpOk_str, deq_str, deq_tup, deq_lst, deqA_nil, deqA_cons, deqA_ints, Bool.and_true, Bool.true_and, Bool.and_false, Bool.false_and, decide_true, decide_false, Bool.not_true, Bool.not_false, ↓p_implied_by, hc1, hc2]
        exact ⟨by omega, this⟩
    · rintro ρ M1 ⟨rfl, S, s1, b, c, ⟨g1, g2, g3, g4⟩, rfl⟩
      rw [rangeC_len, show n - ((n : Int) - 1 - -1).toNat = 0 by omega, List.range_zero, List.nil_append] at g1
      rw [rangeC_len, show n - ((n : Int) - 1 - -1).toNat = 0 by omega, List.range_zero, List.nil_append] at g4
      rw [g4] at h
      refine h1 _ _ ?_
      clear h1
      rcases g1 with rfl | rfl
      · walk_at "pl"
        exact h
      · walk_at "pl"
        exact h
  · exact h.elim

theorem rulB_per {r : Rul} (h : RulOk r) {d : Int} (hd : 1001 ≤ d) : rulB r (d + 168) = rulB r d := by
  have hs := h.st
  have hf := h.fin
  unfold rulB
  rw [turnB_168 h (show r.first ≤ d by omega)]
  unfold finB
  cases hq : r.fin with
  | never => rfl
  | till e =>
    rw [hq] at hf
    have hf : r.first ≤ e ∧ e ≤ 1000 := hf
    show (turnB r d && decide (d + 168 ≤ e)) = (turnB r d && decide (d ≤ e))
    rw [decide_eq_false (show ¬ d + 168 ≤ e by omega), decide_eq_false (show ¬ d ≤ e by omega)]
  | count c =>
    rw [hq] at hf
    have hf : 1 ≤ c ∧ c ≤ 12 := hf
    show (turnB r d && decide (cntF (turnB r) 0 (d + 168) < c)) = (turnB r d && decide (cntF (turnB r) 0 d < c))
    have h4 := turn_cnt h c.toNat
    rw [Int.toNat_of_nonneg (by omega)] at h4
    have h5 : c * perR r ≤ c * 56 := Int.mul_le_mul_of_nonneg_left (perR_pos h).2.1 (by omega)
    have h6 := cntF_le (f := turnB r) (a := 0) (show r.first + c * perR r ≤ d by omega)
    have h7 := cntF_le (f := turnB r) (a := 0) (show r.first + c * perR r ≤ d + 168 by omega)
    rw [decide_eq_false (show ¬ cntF (turnB r) 0 (d + 168) < c by omega), decide_eq_false (show ¬ cntF (turnB r) 0 d < c by omega)]
/-- what comes again after 168 days from day 1001 on is seen below day 1300 -/
theorem seen_low {P : Int → Prop} (hp : ∀ d, 1001 ≤ d → (P (d + 168) ↔ P d)) : (∃ d, 0 ≤ d ∧ P d) ↔ ∃ d, (0 ≤ d ∧ d < 1300) ∧ P d := by
  constructor
  · rintro ⟨d, d0, hd⟩
    have key : ∀ (k : Nat) (d : Int), 1001 ≤ d → (P (d + k * 168) ↔ P d) := by
      intro k
      induction k with
      | zero => intro d _; rw [show d + ((0 : Nat) : Int) * 168 = d by omega]
      | succ k ih => intro d hd; rw [show d + ((k + 1 : Nat) : Int) * 168 = (d + k * 168) + 168 by omega, hp _ (by omega), ih d hd]
    by_cases c : d < 1300
    · exact ⟨d, ⟨d0, c⟩, hd⟩
    · refine ⟨1001 + (d - 1001) % 168, ⟨by omega, by omega⟩, ?_⟩
      rw [← key ((d - 1001) / 168).toNat _ (by omega), show 1001 + (d - 1001) % 168 + (((d - 1001) / 168).toNat : Int) * 168 = d by omega]
      exact hd
  · rintro ⟨d, d0, hd⟩
    exact ⟨d, d0.1, hd⟩
theorem head_next {f : Int → Bool} {r : Option Int} (h : IsNext f 0 r) (hp : ∀ d, 1001 ≤ d → f (d + 168) = f d) : ((rgI 0 1300).filter f).head? = r := by
  cases e : ((rgI 0 1300).filter f).head? with
  | some v => exact (next_of_list e).uniq h
  | none =>
    cases r with
    | none => rfl
    | some v =>
      obtain ⟨d, d0, d1⟩ := (seen_low (P := fun d => f d = true) fun d hd => by rw [hp d hd]).mp ⟨v, h.1, h.2.1⟩
      have := List.head?_eq_none_iff.mp e
      have hm : d ∈ (rgI 0 1300).filter f := List.mem_filter.mpr ⟨rgI_mem.mpr d0, d1⟩
      rw [this] at hm
      cases hm

local macro_rules | `(tactic| walk_at "go") => `(tactic| repeat' (first | assumption | with_reducible apply And.intro | walk_at "cs"))
local macro_rules | `(tactic| walk_at "ex") => `(tactic| simp only [List.cons.injEq, Sl.va.injEq, Sl.ow.injEq, Ow.lst.injEq, D.int.injEq, D.bl.injEq, D.str.injEq, D.lst.injEq, D.tup.injEq, true_and, and_true])
local macro_rules | `(tactic| walk_at "gn") => `(tactic| simp only [↓gN, ↓gsNil, ↓gsCons, ↓gT, ↓gSq, List.length_cons, List.length_nil, Nat.reduceAdd, true_and, List.set_cons_zero, List.set_cons_succ])
local macro_rules | `(tactic| walk_at "sp") => `(tactic| repeat' (first | split | with_reducible apply And.intro))
local macro_rules | `(tactic| walk_at "cs") => `(tactic| first | (unfold CMulP; omega) | (unfold CPowP; omega) | (unfold CModP; omega) | (unfold CDivP; omega))
local macro_rules | `(tactic| walk_at "pl") => `(tactic| simp only [↓sSeq, ↓sAsg, ↓sRet, ↓sRetN, ↓sIf, ↓sDrop, ↓sPar, ↓sNext, ↓sApp, ↓eVar, ↓bVar, ↓bE, ↓eBin, ↓tE, chS_bl, chS_true, chS_false, wipeE_nil, wipeE_cons, ↓qAnd, ↓qNot, ↓eNot, ↓eIf, ↓aNil, ↓aCons, ↓aConsB, ↓eTup, ↓eLst, ↓iSeq, ↓iR1, Option.isSome_some, lk_int, lk_str, ↓eRange1, ↓gN, ↓eCall, ↓dI2, ↓dAdd, ↓dEq, ↓dNe, ↓dIsN, ↓dIx, ↓oNone, ↓oSome, ↓eSl, ↓eB, ↓cLen, ↓cTuple, natc0, natc1, natc2, List.findIdx?_cons, List.findIdx?_nil, intsOf_ints, boolsOf_bls, plAnyI, plAnyR, ↓eRange, ↓Sl.val, ↓Ow.toD, ↓stE, ↓tYes', ↓PL.isNon, ↓eC, ↓bC, ↓dSub, ↓dLt, ↓dGt, List.getElem?_cons_zero, List.getElem?_cons_succ, List.set_cons_zero, List.set_cons_succ, List.map_cons, List.map_nil, List.length_cons, List.length_nil, List.nil_append, List.cons_append, List.replicate_succ, List.replicate_zero, List.append_nil, atI0, atI1, atI2, atI3, atI4, cmpOk_int, cmpOk_bl, cmpOk_non, deq_int, deq_bl, true_and, and_true, Nat.reduceAdd, Nat.reduceSub, Nat.reduceLeDiff, Nat.reduceLT, Bool.not_eq_true', Bool.false_eq_true, if_false, if_true, decide_eq_true_eq, decide_eq_false_iff_not, Nat.zero_add, Nat.sub_zero, Nat.add_zero, Nat.sub_self, ixN31, ixN32, List.length_map, List.length_set, Int.reduceToNat, Int.reducePow, Int.reduceNeg, Int.reduceAdd, Int.reduceSub, Int.reduceMul, Int.reduceLT, Int.reduceLE, Int.reduceEq, Nat.reduceEqDiff, reduceCtorEq, List.mem_singleton, eq_self, not_true_eq_false, not_false_eq_true, or_true, true_or, cmpOk_lstA, cmpOk_tupA, ckA_lst, ckA_tup, ckAl_nil, ckAl_cons, ckAl_ints, ckAl_rangeL, ck_int, ck_bl, ck_non, ck_strI, cmpOk_str, deq_str, deq_tup, deq_lst, deqA_nil, deqA_cons, deqA_ints, Bool.and_true, Bool.true_and, Bool.and_false, Bool.false_and, decide_true, decide_false, Bool.not_true, Bool.not_false, ↓pDraw, ↓p__law_flags, ↓p__law_lost, ↓p__law_same, ↓p__law_small_rule, ↓p__law_twin, ↓p_first_difference, ↓p_implied_by, ↓p_needed_rules, ↓p_same_days, ↓p_unfolded])
theorem ok_law (T : TF K mg) : FnOk P w K mg base CX0 10 T.a_law T.x_law ["script"] (spLaw K) := by
  refine T.f_law.ok sc_law (fun vs H Q E ⟨a, ns, e, _⟩ => by rw [e]; rfl) (fun cdv A outer s H vs Q E hr ⟨a, ns, e, hS, q⟩ => ⟨_, PSs.nox (pss_cons (ps_set (i := 1) sc_law.nd rfl (by first | exact Or.inl rfl | exact Or.inr rfl) (pe_call (ok__law_tape T) (hr.mono (by decide)) (by rfl) T.g__law_tape T.f__law_tape.kp T.b__law_tape .nil pass0 (pa_cons (pv 0) pa_nil)))
    (show PSs _ _ (liS (zOf K H (fun _ => none) []) _) from (qs_cons (qs_set (i := 2) sc_law.nd rfl (by first | exact Or.inl rfl | exact Or.inr rfl) (qe_lst qa_nil))
    (qs_cons (qs_for PassesOwn.never rfl (qi_range1 (by rfl) T.m_range (qa_cons (qe_bin ob_add qb_int (qb_of (qe_call (ok__law_draw T) (hr.mono (by decide)) (by rfl) T.g__law_draw T.f__law_draw.kp T.b__law_draw pass0 (qa_cons (qe_var 1) (qa_cons qe_int qa_nil))))) qa_nil)) (qg_name (i := 3) sc_law.nd rfl (by first | exact Or.inl rfl | exact Or.inr rfl))
    (qs_cons (qs_set (i := 4) sc_law.nd rfl (by first | exact Or.inl rfl | exact Or.inr rfl) (qe_call (ok__law_small_rule T) (hr.mono (by decide)) (by rfl) T.g__law_small_rule T.f__law_small_rule.kp T.b__law_small_rule pass0 (qa_cons (qe_var 1) (qa_cons qe_int qa_nil))))
    (qs_cons (qs_if (PW.pt (qw_and (qt_cmp ob_gt (qb_of (qe_callB cb_len (by rfl) T.m_len (by decide +kernel) (qab_cons (qb_var 2) qab_nil))) qb_int (nomark _)) (qw_and1 (qt_cmp (ob_eq (hu64 hr)) (qb_of (qe_call (ok__law_draw T) (hr.mono (by decide)) (by rfl) T.g__law_draw T.f__law_draw.kp T.b__law_draw pass0 (qa_cons (qe_var 1) (qa_cons qe_int qa_nil)))) qb_int (nomark _)))))
    (qs_cons (qs_set (i := 4) sc_law.nd rfl (by first | exact Or.inl rfl | exact Or.inr rfl) (qe_call (ok__law_twin T) (hr.mono (by decide)) (by rfl) T.g__law_twin T.f__law_twin.kp T.b__law_twin pass0 (qa_cons (qe_var 1) (qa_cons (qe_ix (qb_var 2) (qb_of (qe_call (ok__law_draw T) (hr.mono (by decide)) (by rfl) T.g__law_draw T.f__law_draw.kp T.b__law_draw pass0 (qa_cons (qe_var 1) (qa_cons (qe_callB cb_len (by rfl) T.m_len (by decide +kernel) (qab_cons (qb_var 2) qab_nil)) qa_nil))))) qa_nil))))
    (qs_end (qs_if (PW.pt (qw_and (qt_cmp (ob_eq (hu64 hr)) (qb_of (qe_ix (qb_of (qe_ix (qb_var 4) qb_int)) qb_int)) qb_str (nomark _)) (qw_and1 (qt_cmp ob_lt (qb_of (qe_ix (qb_of (qe_ix (qb_var 4) qb_int)) qb_int)) (qb_of (qe_ix (qb_var 4) qb_int)) (nomark _)))))
    (qs_end (qs_set (i := 4) sc_law.nd rfl (by first | exact Or.inl rfl | exact Or.inr rfl) (qe_bin ob_add (qb_of (qe_slice (qb_var 4) qo_none (qo_some qb_int))) (qb_of (qe_tup (qa_cons (qe_tup (qa_cons qe_str (qa_cons (qe_ix (qb_var 4) qb_int) qa_nil))) qa_nil))))))
    qs_nil)))
    qs_nil)
    (qs_end (qs_append (i := 2) rfl (by first | exact Or.inl rfl | exact Or.inr (Or.inl rfl) | exact Or.inr (Or.inr rfl)) (qe_var 4))))))
    (qs_cons (qs_set (i := 5) sc_law.nd rfl (by first | exact Or.inl rfl | exact Or.inr rfl) qe_int)
    (qs_cons (qs_set (i := 6) sc_law.nd rfl (by first | exact Or.inl rfl | exact Or.inr rfl) (qe_lc rfl sc_law.nd (own := [("rule", 4)]) (qi_seq (h := (qe_var 2))) (blkOk_by (own := [("rule", 4)]) (N := N_law) (sc := defScope s_law) (by decide +kernel)) (fun _ _ _ _ _ z hz => (qg_name (i := 4) sc_law.nd rfl (by first | exact Or.inl rfl | exact Or.inr rfl))) (fun _ _ _ _ _ => an_t0) (fun _ _ _ _ _ z hz => (qe_call (ok__law_flags T) (hr.mono (by decide)) (by rfl) T.g__law_flags T.f__law_flags.kp T.b__law_flags pass0 (qa_cons (qe_var 4) (qa_cons (qe_var 5) qa_nil))))))
    (qs_cons (qs_par (i := 7) (j := 8) rfl sc_law.nd rfl rfl (by decide) rfl rfl (qa_cons (qe_ix (qb_var 2) qb_int) (qa_cons (qe_ix (qb_var 2) (qb_of (qe_bin ob_sub (qb_of (qe_callB cb_len (by rfl) T.m_len (by decide +kernel) (qab_cons (qb_var 2) qab_nil))) qb_int))) qa_nil)) (by rfl))
    (qs_cons (qs_setLc (i := 9) rfl sc_law.nd rfl rfl (sw_true rfl rfl rfl (by decide +kernel)) (own := [("day", 14)]) (qi_range1 (by rfl) T.m_range (qa_cons (qe_var 5) qa_nil)) (blkOk_by (own := [("day", 14)]) (N := N_law) (sc := defScope s_law) (by decide +kernel)) (fun _ _ _ _ _ z hz => (qg_name (i := 14) sc_law.nd rfl (by first | exact Or.inl rfl | exact Or.inr rfl))) (fun _ _ _ _ _ => an_t1 fun z hz => (qt_cmp (ob_ne (hu64 hr)) (qb_of (qe_ix (qb_of (qe_ix (qb_var 6) qb_int)) (qb_var 14))) (qb_of (qe_ix (qb_of (qe_ix (qb_var 6) (qb_of (qe_bin ob_sub (qb_of (qe_callB cb_len (by rfl) T.m_len (by decide +kernel) (qab_cons (qb_var 2) qab_nil))) qb_int)))) (qb_var 14))) (nomark _))) (fun _ _ _ _ _ z hz => (qe_var 14)))
    (qs_cons (qs_set (i := 10) sc_law.nd rfl (by first | exact Or.inl rfl | exact Or.inr rfl) (qe_ifExp (qt_cmp ob_gt (qb_of (qe_callB cb_len (by rfl) T.m_len (by decide +kernel) (qab_cons (qb_var 9) qab_nil))) qb_int (nomark _)) (qe_ix (qb_var 9) qb_int) qe_non))
    (qs_cons (qs_if (qt_cmp (ob_ne (hu64 hr)) (qb_of (qe_call (ok_first_difference T) (hr.mono (by decide)) (by rfl) T.g_first_difference T.f_first_difference.kp T.b_first_difference pass0 (qa_cons (qe_call (ok_unfolded T) (hr.mono (by decide)) (by rfl) T.g_unfolded T.f_unfolded.kp T.b_unfolded pass0 (qa_cons (qe_var 7) qa_nil)) (qa_cons (qe_call (ok_unfolded T) (hr.mono (by decide)) (by rfl) T.g_unfolded T.f_unfolded.kp T.b_unfolded pass0 (qa_cons (qe_var 8) qa_nil)) qa_nil)))) (qb_var 10) (nomark _))
    (qs_end (qs_ret qe_bl))
    qs_nil)
    (qs_cons (qs_if (qt_not (qt_val (qe_call (ok__law_same T) (hr.mono (by decide)) (by rfl) T.g__law_same T.f__law_same.kp T.b__law_same pass0 (qa_cons (qe_call (ok_same_days T) (hr.mono (by decide)) (by rfl) T.g_same_days T.f_same_days.kp T.b_same_days pass0 (qa_cons (qe_var 7) (qa_cons (qe_var 8) qa_nil))) (qa_cons (qe_cmp ob_isN (qb_var 10) qb_non (nomark _)) qa_nil)))))
    (qs_end (qs_ret qe_bl))
    qs_nil)
    (qs_cons (qs_set (i := 11) sc_law.nd rfl (by first | exact Or.inl rfl | exact Or.inr rfl) (qe_not (qe_call (ok__law_lost T) (hr.mono (by decide)) (by rfl) T.g__law_lost T.f__law_lost.kp T.b__law_lost pass0 (qa_cons (qe_var 6) (qa_cons qe_int (qa_cons (qe_listRange2 rfl (by rfl) T.m_list (by rfl) T.m_range qb_int (qb_of (qe_callB cb_len (by rfl) T.m_len (by decide +kernel) (qab_cons (qb_var 2) qab_nil)))) (qa_cons (qe_var 5) qa_nil)))))))
    (qs_cons (qs_if (qt_not (qt_val (qe_call (ok__law_same T) (hr.mono (by decide)) (by rfl) T.g__law_same T.f__law_same.kp T.b__law_same pass0 (qa_cons (qe_call (ok_implied_by T) (hr.mono (by decide)) (by rfl) T.g_implied_by T.f_implied_by.kp T.b_implied_by pass0 (qa_cons (qe_var 7) (qa_cons (qe_callTy cb_tuple (by rfl) T.m_tuple (by decide +kernel) (qab_cons (qb_of (qe_slice (qb_var 2) (qo_some qb_int) qo_none)) qab_nil)) qa_nil))) (qa_cons (qe_var 11) qa_nil)))))
    (qs_end (qs_ret qe_bl))
    qs_nil)
    (qs_cons (qs_set (i := 12) sc_law.nd rfl (by first | exact Or.inl rfl | exact Or.inr rfl) (qe_listRange1 rfl (by rfl) T.m_list (by rfl) T.m_range (qb_of (qe_callB cb_len (by rfl) T.m_len (by decide +kernel) (qab_cons (qb_var 2) qab_nil)))))
    (qs_cons (qs_for PassesOwn.never rfl (qi_range1 (by rfl) T.m_range (qa_cons (qe_callB cb_len (by rfl) T.m_len (by decide +kernel) (qab_cons (qb_var 2) qab_nil)) qa_nil)) (qg_name (i := 13) sc_law.nd rfl (by first | exact Or.inl rfl | exact Or.inr rfl))
    (qs_cons (qs_set (i := 3) sc_law.nd rfl (by first | exact Or.inl rfl | exact Or.inr rfl) (qe_bin ob_sub (qb_of (qe_bin ob_sub (qb_of (qe_callB cb_len (by rfl) T.m_len (by decide +kernel) (qab_cons (qb_var 2) qab_nil))) qb_int)) (qb_var 13)))
    (qs_end (qs_if (qt_not (qt_val (qe_call (ok__law_lost T) (hr.mono (by decide)) (by rfl) T.g__law_lost T.f__law_lost.kp T.b__law_lost pass0 (qa_cons (qe_var 6) (qa_cons (qe_var 3) (qa_cons (qe_lc rfl sc_law.nd (own := [("place", 15)]) (qi_seq (h := (qe_var 12))) (blkOk_by (own := [("place", 15)]) (N := N_law) (sc := defScope s_law) (by decide +kernel)) (fun _ _ _ _ _ z hz => (qg_name (i := 15) sc_law.nd rfl (by first | exact Or.inl rfl | exact Or.inr rfl))) (fun _ _ _ _ _ => an_t1 fun z hz => (qt_cmp (ob_ne (hu64 hr)) (qb_var 15) (qb_var 3) (nomark _))) (fun _ _ _ _ _ z hz => (qe_var 15))) (qa_cons (qe_var 5) qa_nil)))))))
    (qs_end (qs_setLc (i := 12) rfl sc_law.nd rfl rfl (sw_true rfl rfl rfl (by decide +kernel)) (own := [("place", 15)]) (qi_seq (h := (qe_var 12))) (blkOk_by (own := [("place", 15)]) (N := N_law) (sc := defScope s_law) (by decide +kernel)) (fun _ _ _ _ _ z hz => (qg_name (i := 15) sc_law.nd rfl (by first | exact Or.inl rfl | exact Or.inr rfl))) (fun _ _ _ _ _ => an_t1 fun z hz => (qt_cmp (ob_ne (hu64 hr)) (qb_var 15) (qb_var 3) (nomark _))) (fun _ _ _ _ _ z hz => (qe_var 15))))
    qs_nil))))
    (qs_end (qs_ret (qe_cmp (ob_eq (hu64 hr)) (qb_of (qe_call (ok_needed_rules T) hr (by rfl) T.g_needed_rules T.f_needed_rules.kp T.b_needed_rules pass0 (qa_cons (qe_callTy cb_tuple (by rfl) T.m_tuple (by decide +kernel) (qab_cons (qb_var 2) qab_nil)) qa_nil))) (qb_of (qe_callTy cb_tuple (by rfl) T.m_tuple (by decide +kernel) (qab_cons (qb_of (qe_lc rfl sc_law.nd (own := [("place", 15)]) (qi_seq (h := (qe_var 12))) (blkOk_by (own := [("place", 15)]) (N := N_law) (sc := defScope s_law) (by decide +kernel)) (fun _ _ _ _ _ z hz => (qg_name (i := 15) sc_law.nd rfl (by first | exact Or.inl rfl | exact Or.inr rfl))) (fun _ _ _ _ _ => an_t0) (fun _ _ _ _ _ z hz => (qe_ix (qb_var 2) (qb_var 15))))) qab_nil))) (nomark _))))))))))))))))))), ?_⟩)
  subst e
  refine law_P (by decide) hS q (fun Q' h => ⟨_, rfl, a, ns, rfl, hS, h⟩) ?_
  intro T
  refine sSeq_i fun N1 h1 => ?_
  walk_at "pl"
  refine h1 _ _ ?_
  clear h1
  refine sSeq_i fun N1 h1 => ?_
  refine sFor_k fun N hN => ?_
  walk_at "pl"
  intro n n0 n1
  refine ⟨by omega, hN _ _ _ ?_⟩
  clear hN
  refine loop_i (fun i ρ M1 => M1 = [(T, MO.tape)] ∧ ∃ (rs : List Rul) (a b : Sl), (rs.length = i ∧ ∀ r ∈ rs, RulOk r ∧ r.first ≤ 4 + 56 * i) ∧ (b = .un ∨ ∃ r, b = .va (rulD r)) ∧ ρ = [.un, .va (.ref T), .ow (.lst (rs.map rulD)), a, b, .un, .un, .un, .un, .un, .un, .un, .un, .un, .un, .un]) ⟨rfl, [], _, _, ⟨rfl, by simp⟩, .inl rfl, rfl⟩ ?_ ?_
  · rintro J hJ i dd ρ M1 hd ⟨rfl, rs, a, b, ⟨g1, g2⟩, hb, rfl⟩
    obtain ⟨rfl, hi⟩ := rangeL_get hd
    walk_at "gn"
    refine sSeq_i fun N2 h2 => ?_
    walk_at "pl"
    intro r hr hm
    refine h2 _ _ ?_
    clear h2
    have hfin : ∀ (r : Rul) (a : Sl), RulOk r → r.first ≤ 4 + 56 * ((i + 1 : Nat) : Int) → J (i + 1) [.un, .va (.ref T), .ow (.lst ((rs ++ [r]).map rulD)), a, .va (rulD r), .un, .un, .un, .un, .un, .un, .un, .un, .un, .un, .un] [(T, MO.tape)] := fun r a hr hf => by
      refine hJ _ _ _ ⟨rfl, rs ++ [r], _, _, ⟨by simp [g1], fun s hs => ?_⟩, .inr ⟨r, rfl⟩, rfl⟩
      rcases List.mem_append.mp hs with w | w
      · exact ⟨(g2 s w).1, by have := (g2 s w).2; omega⟩
      · rw [List.mem_singleton.mp w]; exact ⟨hr, hf⟩
    have hr60 := hm.1
    refine sSeq_i fun N2 h2 => ?_
    have hplain : N2 [.un, .va (.ref T), .ow (.lst (rs.map rulD)), .va (.int (0 + (i : Int))), .va (rulD r), .un, .un, .un, .un, .un, .un, .un, .un, .un, .un, .un] [(T, MO.tape)] := by
      refine h2 _ _ ?_
      walk_at "pl"
      have := hfin r (.va (.int (0 + (i : Int)))) hr (by omega)
      rw [List.map_append] at this
      exact ⟨by omega, this⟩
    refine sIf_k fun N3 h3 => ?_
    walk_at "pl"
    split
    · rename_i hpos
      intro w w0 w1
      refine h3 _ _ _ ?_
      clear h3
      by_cases hw : w = 0
      · rw [decide_eq_true hw, if_pos rfl]
        refine sSeq_i fun N4 h4 => ?_
        walk_at "pl"
        refine ⟨⟨by omega, by omega⟩, fun q q0 q1 => ?_⟩
        obtain ⟨p, hp⟩ : ∃ p, rs[q.toNat]? = some p := ⟨_, List.getElem?_eq_getElem (by omega)⟩
        have hpm := g2 p (List.mem_of_getElem? hp)
        rw [at_map q0 hp]
        refine ⟨p, 4 + 56 * (i : Int), rfl, ⟨hpm.1, hpm.2, by omega⟩, fun s hs => h4 _ _ ?_⟩
        clear h4
        have hdone : ∀ s : Rul, RulOk s → s.first ≤ 4 + 56 * (i : Int) + 56 → N2 [.un, .va (.ref T), .ow (.lst (rs.map rulD)), .va (.int (0 + (i : Int))), .va (rulD s), .un, .un, .un, .un, .un, .un, .un, .un, .un, .un, .un] [(T, MO.tape)] := fun s hs hs2 => by
          refine h2 _ _ ?_
          walk_at "pl"
          have := hfin s (.va (.int (0 + (i : Int)))) hs (by omega)
          rw [List.map_append] at this
          exact ⟨by omega, this⟩
        obtain ⟨so1, so2, so3, so4, so5, so6, so7⟩ := str_ok
        obtain ⟨wk, iv, pk, first, fin⟩ := s
        obtain ⟨hs1, hs2⟩ := hs
        have hs2 : first ≤ 4 + 56 * (i : Int) + 56 := hs2
        refine sIf_k fun N5 h5 => ?_
        cases fin with
        | never =>
          have hrd : rulD ⟨wk, iv, pk, first, .never⟩ = .tup [.str (kindS ⟨wk, iv, pk, first, .never⟩), .int iv, .tup (pk.map D.int), .int first, endRD (.never)] := rfl
          have hed : endRD (.never) = .tup [.str (Str.ofString "never")] := rfl
          rw [hrd, hed]
          walk_at "pl"
          refine ⟨⟨so7, so5⟩, ?_⟩
          rw [if_neg s_nu.1]
          refine h5 _ _ _ ?_
          clear h5
          rw [if_neg (by decide)]
          walk_at "pl"
          exact hdone ⟨wk, iv, pk, first, .never⟩ hs1 hs2
        | till e =>
          have hrd : rulD ⟨wk, iv, pk, first, .till e⟩ = .tup [.str (kindS ⟨wk, iv, pk, first, .till e⟩), .int iv, .tup (pk.map D.int), .int first, endRD (.till e)] := rfl
          have hed : endRD (.till e) = .tup [.str (Str.ofString "until"), .int e] := rfl
          rw [hrd, hed]
          walk_at "pl"
          refine ⟨⟨so5, so5⟩, h5 _ _ _ ?_⟩
          clear h5
          have hs1 : RulOk ⟨wk, iv, pk, first, .till (max e first)⟩ := hs1
          by_cases c : e < first
          · rw [decide_eq_true c, if_pos rfl]
            rw [show max e first = first by omega] at hs1
            have hc4 : ∀ a b c d e : D, cutL [a, b, c, d, e] none (some 4) = [a, b, c, d] := fun _ _ _ _ _ => rfl
            simp only [↓sSeq, ↓sAsg, ↓sRet, ↓sRetN, ↓sIf, ↓sDrop, ↓sPar, ↓sNext, ↓sApp, ↓eVar, ↓bVar, ↓bE, ↓eBin, ↓tE, chS_bl, chS_true, chS_false, wipeE_nil, wipeE_cons, ↓qAnd, ↓qNot, ↓eNot, ↓eIf, ↓aNil, ↓aCons, ↓aConsB, ↓eTup, ↓eLst, ↓iSeq, ↓iR1, Option.isSome_some, lk_int, lk_str, ↓eRange1, ↓gN, ↓eCall, ↓dI2, ↓dAdd, ↓dEq, ↓dNe, ↓dIsN, ↓dIx, ↓oNone, ↓oSome, ↓eSl, ↓eB, ↓cLen, ↓cTuple, natc0, natc1, natc2, List.findIdx?_cons, List.findIdx?_nil, intsOf_ints, boolsOf_bls, plAnyI, plAnyR, ↓eRange, ↓Sl.val, ↓Ow.toD, ↓stE, ↓tYes', ↓PL.isNon, ↓eC, ↓bC, ↓dSub, ↓dLt, ↓dGt, List.getElem?_cons_zero, List.getElem?_cons_succ, List.set_cons_zero, List.set_cons_succ, List.map_cons, List.map_nil, List.length_cons, List.length_nil, List.nil_append, List.cons_append, List.replicate_succ, List.replicate_zero, List.append_nil, atI0, atI1, atI2, atI3, atI4, cmpOk_int, cmpOk_bl, cmpOk_non, deq_int, deq_bl, true_and, and_true, Nat.reduceAdd, Nat.reduceSub, Nat.reduceLeDiff, Nat.reduceLT, Bool.not_eq_true', Bool.false_eq_true, if_false, if_true, decide_eq_true_eq, decide_eq_false_iff_not, Nat.zero_add, Nat.sub_zero, Nat.add_zero, Nat.sub_self, ixN31, ixN32, List.length_map, List.length_set, Int.reduceToNat, Int.reducePow, Int.reduceNeg, Int.reduceAdd, Int.reduceSub, Int.reduceMul, Int.reduceLT, Int.reduceLE, Int.reduceEq, Nat.reduceEqDiff, reduceCtorEq, List.mem_singleton, eq_self, not_true_eq_false, not_false_eq_true, or_true, true_or, cmpOk_lstA, cmpOk_tupA, ckA_lst, ckA_tup, ckAl_nil, ckAl_cons, ckAl_ints, ckAl_rangeL, ck_int, ck_bl, ck_non, ck_strI, cmpOk_str, deq_str, deq_tup, deq_lst, deqA_nil, deqA_cons, deqA_ints, Bool.and_true, Bool.true_and, Bool.and_false, Bool.false_and, decide_true, decide_false, Bool.not_true, Bool.not_false, ↓pDraw, ↓p__law_flags, ↓p__law_lost, ↓p__law_same, ↓p__law_small_rule, ↓p__law_twin, ↓p_first_difference, ↓p_implied_by, ↓p_needed_rules, ↓p_same_days, ↓p_unfolded, hc4]
            exact hdone ⟨wk, iv, pk, first, .till first⟩ hs1 hs2
          · rw [decide_eq_false c, if_neg (by decide)]
            rw [show max e first = e by omega] at hs1
            walk_at "pl"
            exact hdone ⟨wk, iv, pk, first, .till e⟩ hs1 hs2
        | count c =>
          have hrd : rulD ⟨wk, iv, pk, first, .count c⟩ = .tup [.str (kindS ⟨wk, iv, pk, first, .count c⟩), .int iv, .tup (pk.map D.int), .int first, endRD (.count c)] := rfl
          have hed : endRD (.count c) = .tup [.str (Str.ofString "count"), .int c] := rfl
          rw [hrd, hed]
          walk_at "pl"
          refine ⟨⟨so6, so5⟩, ?_⟩
          rw [if_neg s_nu.2.2.1]
          refine h5 _ _ _ ?_
          clear h5
          rw [if_neg (by decide)]
          walk_at "pl"
          exact hdone ⟨wk, iv, pk, first, .count c⟩ hs1 hs2
      · rw [decide_eq_false hw, if_neg (by decide)]
        walk_at "pl"
        exact hplain
    · refine h3 _ _ _ ?_
      clear h3
      rw [if_neg (by decide)]
      walk_at "pl"
      exact hplain
  rintro ρ M1 ⟨rfl, rs, a, b, ⟨g1, g2⟩, hb, rfl⟩
  rw [rangeL_len] at g1
  have hrs : ∀ r ∈ rs, RulOk r := fun r hr => (g2 r hr).1
  clear g2
  have hl0 : 1 ≤ rs.length ∧ rs.length ≤ 5 := by omega
  refine h1 _ _ ?_
  clear h1
  refine sSeq_i fun N1 h1 => ?_
  walk_at "pl"
  refine h1 _ _ ?_
  clear h1
  refine sSeq_i fun N1 h1 => ?_
  walk_at "pl"
  refine eLc_k fun N hN => ?_
  walk_at "pl"
  refine hN _ _ _ ?_
  clear hN
  refine eLc_inv (flagD 1300) (fun i bs => bs = rs.take i) (rs.map rulD) _ _ (fun Q h => h) (by rcases hb with rfl | ⟨r, rfl⟩ <;> rfl) rfl ?_ ?_
  · rintro i d bs J hd rfl hJ
    obtain ⟨r, hi, rfl⟩ := map_get hd
    have hrr := hrs r (List.mem_of_getElem? hi)
    walk_at "gn"
    walk_at "pl"
    refine ⟨r, rfl, hrr, by rw [List.length_take]; omega, ?_⟩
    have := hJ (rs.take (i + 1)) rfl
    rw [List.take_add_one, hi, List.map_append] at this
    exact this
  rintro bs rfl
  rw [List.length_map, List.take_length]
  refine h1 _ _ ?_
  clear h1
  have hget : ∀ k, k < rs.length → rs[k]? = some (rs.getD k default) := fun k hk => by
    rw [List.getD_eq_getElem?_getD, List.getElem?_eq_getElem hk]
    rfl
  have hrk : ∀ k, k < rs.length → RulOk (rs.getD k default) := fun k hk => hrs _ (List.mem_of_getElem? (hget k hk))
  have hat : ∀ k : Nat, k < rs.length → atI (rs.map rulD) (k : Int) = some (rulD (rs.getD k default)) := fun k hk => at_map (by omega) (by rw [Int.toNat_natCast]; exact hget k hk)
  have hat2 : ∀ k : Nat, k < rs.length → atI (rs.map (flagD 1300)) (k : Int) = some (flagD 1300 (rs.getD k default)) := fun k hk => at_map (by omega) (by rw [Int.toNat_natCast]; exact hget k hk)
  have at0 := hat 0 (by omega)
  have atl := hat (rs.length - 1) (by omega)
  have af0 := hat2 0 (by omega)
  have afl := hat2 (rs.length - 1) (by omega)
  rw [show ((rs.length - 1 : Nat) : Int) = (rs.length : Int) - 1 by omega] at atl afl
  rw [show ((0 : Nat) : Int) = 0 from rfl] at at0 af0
  refine sSeq_i fun N1 h1 => ?_
  simp only [↓sSeq, ↓sAsg, ↓sRet, ↓sRetN, ↓sIf, ↓sDrop, ↓sPar, ↓sNext, ↓sApp, ↓eVar, ↓bVar, ↓bE, ↓eBin, ↓tE, chS_bl, chS_true, chS_false, wipeE_nil, wipeE_cons, ↓qAnd, ↓qNot, ↓eNot, ↓eIf, ↓aNil, ↓aCons, ↓aConsB, ↓eTup, ↓eLst, ↓iSeq, ↓iR1, Option.isSome_some, lk_int, lk_str, ↓eRange1, ↓gN, ↓eCall, ↓dI2, ↓dAdd, ↓dEq, ↓dNe, ↓dIsN, ↓dIx, ↓oNone, ↓oSome, ↓eSl, ↓eB, ↓cLen, ↓cTuple, natc0, natc1, natc2, List.findIdx?_cons, List.findIdx?_nil, intsOf_ints, boolsOf_bls, plAnyI, plAnyR, ↓eRange, ↓Sl.val, ↓Ow.toD, ↓stE, ↓tYes', ↓PL.isNon, ↓eC, ↓bC, ↓dSub, ↓dLt, ↓dGt, List.getElem?_cons_zero, List.getElem?_cons_succ, List.set_cons_zero, List.set_cons_succ, List.map_cons, List.map_nil, List.length_cons, List.length_nil, List.nil_append, List.cons_append, List.replicate_succ, List.replicate_zero, List.append_nil, atI0, atI1, atI2, atI3, atI4, cmpOk_int, cmpOk_bl, cmpOk_non, deq_int, deq_bl, true_and, and_true, Nat.reduceAdd, Nat.reduceSub, Nat.reduceLeDiff, Nat.reduceLT, Bool.not_eq_true', Bool.false_eq_true, if_false, if_true, decide_eq_true_eq, decide_eq_false_iff_not, Nat.zero_add, Nat.sub_zero, Nat.add_zero, Nat.sub_self, ixN31, ixN32, List.length_map, List.length_set, Int.reduceToNat, Int.reducePow, Int.reduceNeg, Int.reduceAdd, Int.reduceSub, Int.reduceMul, Int.reduceLT, Int.reduceLE, Int.reduceEq, Nat.reduceEqDiff, reduceCtorEq, List.mem_singleton, eq_self, not_true_eq_false, not_false_eq_true, or_true, true_or, cmpOk_lstA, cmpOk_tupA, ckA_lst, ckA_tup, ckAl_nil, ckAl_cons, ckAl_ints, ckAl_rangeL, ck_int, ck_bl, ck_non, ck_strI, cmpOk_str, deq_str, deq_tup, deq_lst, deqA_nil, deqA_cons, deqA_ints, Bool.and_true, Bool.true_and, Bool.and_false, Bool.false_and, decide_true, decide_false, Bool.not_true, Bool.not_false, ↓pDraw, ↓p__law_flags, ↓p__law_lost, ↓p__law_same, ↓p__law_small_rule, ↓p__law_twin, ↓p_first_difference, ↓p_implied_by, ↓p_needed_rules, ↓p_same_days, ↓p_unfolded, at0, atl]
  refine h1 _ _ ?_
  clear h1
  refine sSeq_i fun N1 h1 => ?_
  walk_at "pl"
  have hgd : ∀ (g : Int → D) (i : Nat), (i : Int) < 1300 → atI ((rgI 0 1300).map g) (0 + (i : Int)) = some (g (0 + i)) := fun g i hi => at_map (by omega) (by
    unfold rgI
    rw [List.getElem?_map, List.getElem?_range (by omega)]
    exact congrArg some (show (0 : Int) + (((0 + (i : Int)).toNat : Nat) : Int) = 0 + i by omega))
  have hfl : ∀ r, flagD 1300 r = .lst ((rgI 0 1300).map fun d => D.bl (rulB r d)) := fun _ => rfl
  have ok0 := hrk 0 (by omega)
  have okl := hrk (rs.length - 1) (by omega)
  generalize hr0 : rs.getD 0 default = r0 at *
  generalize hrl : rs.getD (rs.length - 1) default = rl at *
  refine eLc_fm (pickI fun x => ¬ (rulB r0 x = rulB rl x)) (rangeL 0 1300) (fun Q h => by walk_at "pl"; exact h) rfl (by rw [rangeL_len]; omega) ?_ ?_
  · intro i d acc J hd hl2 hJ
    obtain ⟨rfl, hi⟩ := rangeL_get hd
    rw [hfl] at af0 afl
    simp only [↓sSeq, ↓sAsg, ↓sRet, ↓sRetN, ↓sIf, ↓sDrop, ↓sPar, ↓sNext, ↓sApp, ↓eVar, ↓bVar, ↓bE, ↓eBin, ↓tE, chS_bl, chS_true, chS_false, wipeE_nil, wipeE_cons, ↓qAnd, ↓qNot, ↓eNot, ↓eIf, ↓aNil, ↓aCons, ↓aConsB, ↓eTup, ↓eLst, ↓iSeq, ↓iR1, Option.isSome_some, lk_int, lk_str, ↓eRange1, ↓gN, ↓eCall, ↓dI2, ↓dAdd, ↓dEq, ↓dNe, ↓dIsN, ↓dIx, ↓oNone, ↓oSome, ↓eSl, ↓eB, ↓cLen, ↓cTuple, natc0, natc1, natc2, List.findIdx?_cons, List.findIdx?_nil, intsOf_ints, boolsOf_bls, plAnyI, plAnyR, ↓eRange, ↓Sl.val, ↓Ow.toD, ↓stE, ↓tYes', ↓PL.isNon, ↓eC, ↓bC, ↓dSub, ↓dLt, ↓dGt, List.getElem?_cons_zero, List.getElem?_cons_succ, List.set_cons_zero, List.set_cons_succ, List.map_cons, List.map_nil, List.length_cons, List.length_nil, List.nil_append, List.cons_append, List.replicate_succ, List.replicate_zero, List.append_nil, atI0, atI1, atI2, atI3, atI4, cmpOk_int, cmpOk_bl, cmpOk_non, deq_int, deq_bl, true_and, and_true, Nat.reduceAdd, Nat.reduceSub, Nat.reduceLeDiff, Nat.reduceLT, Bool.not_eq_true', Bool.false_eq_true, if_false, if_true, decide_eq_true_eq, decide_eq_false_iff_not, Nat.zero_add, Nat.sub_zero, Nat.add_zero, Nat.sub_self, ixN31, ixN32, List.length_map, List.length_set, Int.reduceToNat, Int.reducePow, Int.reduceNeg, Int.reduceAdd, Int.reduceSub, Int.reduceMul, Int.reduceLT, Int.reduceLE, Int.reduceEq, Nat.reduceEqDiff, reduceCtorEq, List.mem_singleton, eq_self, not_true_eq_false, not_false_eq_true, or_true, true_or, cmpOk_lstA, cmpOk_tupA, ckA_lst, ckA_tup, ckAl_nil, ckAl_cons, ckAl_ints, ckAl_rangeL, ck_int, ck_bl, ck_non, ck_strI, cmpOk_str, deq_str, deq_tup, deq_lst, deqA_nil, deqA_cons, deqA_ints, Bool.and_true, Bool.true_and, Bool.and_false, Bool.false_and, decide_true, decide_false, Bool.not_true, Bool.not_false, ↓pDraw, ↓p__law_flags, ↓p__law_lost, ↓p__law_same, ↓p__law_small_rule, ↓p__law_twin, ↓p_first_difference, ↓p_implied_by, ↓p_needed_rules, ↓p_same_days, ↓p_unfolded, af0, afl, hgd _ i (by omega)]
    exact pickI_J hl2 hJ
  rw [rangeL_rgI, pickI_map]
  refine h1 _ _ ?_
  clear h1
  refine sSeq_i fun N1 h1 => ?_
  have hdue : ∀ a14 : Sl, N1 [.un, .va (.ref T), .va (.lst (rs.map rulD)), a, b, .va (.int 1300), .ow (.lst (rs.map (flagD 1300))), .va (rulD r0), .va (rulD rl), .ow (.lst (((rgI 0 1300).filter fun x => decide (¬ (rulB r0 x = rulB rl x))).map D.int)), .va (optD ((rgI 0 1300).filter fun x => decide (¬ (rulB r0 x = rulB rl x))).head?), .un, .un, .un, .un, .un] [(T, MO.tape)] := by
    intro a14
    refine h1 _ _ ?_
    clear h1
    refine sSeq_i fun N1 h1 => ?_
    walk_at "pl"
    refine ⟨r0, rfl, ok0, fun fs f1 f2 f3 f4 => ⟨rl, rfl, okl, fun gs g1 g2 g3 g4 => ⟨fs, gs, 168, 1001, rfl, rfl, ⟨by decide, by decide, f4, g4⟩, fun q hq => ⟨⟨cmpOk_optD, cmpOk_optD⟩, ?_⟩⟩⟩⟩
    have hq2 : IsNext (fun x => decide (¬ (rulB r0 x = rulB rl x))) 0 q := by
      have hx : ∀ x, 0 ≤ x → (decide (¬ (rulB r0 x = rulB rl x))) = (patB fs x != patB gs x) := fun x x0 => by
        rw [f2 x x0, g2 x x0]
        cases rulB r0 x <;> cases rulB rl x <;> rfl
      cases q with
      | none => exact fun d hd => (hx d hd).trans (hq d hd)
      | some v => exact ⟨hq.1, (hx v hq.1).trans hq.2.1, fun d hd hd2 => (hx d hd).trans (hq.2.2 d hd hd2)⟩
    have e := head_next hq2 fun d hd => by rw [rulB_per ok0 hd, rulB_per okl hd]
    rw [e, deq_refl cmpOk_optD, if_neg (by decide)]
    clear e hq f1 f2 f3 f4 fs g1 g2 g3 g4 gs
    refine h1 _ _ ?_
    clear h1
    refine sSeq_i fun N1 h1 => ?_
    walk_at "pl"
    refine ⟨r0, rl, rfl, rfl, ⟨ok0, okl⟩, fun bs hbs => ?_⟩
    have hbs2 : bs = (match optD q with | .non => true | _ => false) := by
      cases q with
      | none =>
        exact hbs.mpr fun d hd => by
          have := hq2 d hd
          simpa using this
      | some v =>
        cases bs with
        | false => rfl
        | true =>
          have h2 : decide (¬ (rulB r0 v = rulB rl v)) = true := hq2.2.1
          rw [hbs.mp rfl v hq2.1] at h2
          simp at h2
    rw [if_neg fun w => w hbs2]
    clear hbs hbs2 bs hq2
    refine h1 _ _ ?_
    clear h1
    obtain ⟨imp, himp⟩ : ∃ imp : Nat → List Nat → Bool, ∀ k K, imp k K = true ↔ ∀ d, 0 ≤ d → rulB (rs.getD k default) d = true → ∃ p ∈ K, rulB (rs.getD p default) d = true :=
      ⟨fun k K => @decide _ (Classical.propDecidable (∀ d, 0 ≤ d → rulB (rs.getD k default) d = true → ∃ p ∈ K, rulB (rs.getD p default) d = true)), fun k K => @decide_eq_true_iff _ (Classical.propDecidable _)⟩
    have hlost : ∀ (k : Nat) (K : List Nat) (b : Bool), k < rs.length → (∀ p ∈ K, p < rs.length) → (b = true ↔ ∃ d, (0 ≤ d ∧ d < 1300) ∧ rulB (rs.getD k default) d = true ∧ ∀ p ∈ K, rulB (rs.getD p default) d = false) → b = !imp k K := by
      intro k K b hk hK hb
      rw [← seen_low (P := fun d => rulB (rs.getD k default) d = true ∧ ∀ p ∈ K, rulB (rs.getD p default) d = false) fun d hd => by
        show (rulB _ (d + 168) = true ∧ ∀ p ∈ K, rulB _ (d + 168) = false) ↔ _
        rw [rulB_per (hrk k hk) hd]
        exact and_congr_right fun _ => forall_congr' fun p => forall_congr' fun hp => by rw [rulB_per (hrk p (hK p hp)) hd]] at hb
      rw [Bool.eq_iff_iff, hb, Bool.not_eq_true', ← Bool.not_eq_true, himp]
      constructor
      · rintro ⟨d, d0, d1, d2⟩ w
        obtain ⟨p, p1, p2⟩ := w d d0 d1
        rw [d2 p p1] at p2
        cases p2
      · intro w
        apply Classical.byContradiction
        intro hno
        refine w fun d d0 d1 => ?_
        apply Classical.byContradiction
        intro hno2
        refine hno ⟨d, d0, d1, fun p hp => ?_⟩
        cases hv : rulB (rs.getD p default) d with
        | false => rfl
        | true => exact absurd ⟨p, hp, hv⟩ hno2
    refine sSeq_i fun N1 h1 => ?_
    walk_at "pl"
    have hK1 : ∀ p ∈ (List.range (rs.length - 1)).map (· + 1), p < rs.length := fun p hp => by
      obtain ⟨q, hq, rfl⟩ := List.mem_map.mp hp
      have := List.mem_range.mp hq
      omega
    refine ⟨by omega, rs, 0, (List.range (rs.length - 1)).map (· + 1), rfl, rfl, ?_, ⟨by omega, hK1, by rw [List.length_map, List.length_range]; omega⟩, fun b1 hb1 => ?_⟩
    · unfold rangeL
      rw [List.map_map, show ((rs.length : Int) - 1).toNat = rs.length - 1 by omega]
      refine List.map_congr_left fun k _ => congrArg D.int (show (1 : Int) + (k : Int) = ((k + 1 : Nat) : Int) by omega)
    have hb1 := hlost 0 _ b1 (by omega) hK1 hb1
    subst hb1
    rw [Bool.not_not]
    refine h1 _ _ ?_
    clear h1
    refine sSeq_i fun N1 h1 => ?_
    have hc1 : cutL (rs.map rulD) (some 1) none = (rs.drop 1).map rulD := by
      rw [show (1 : Int) = ((1 : Nat) : Int) from rfl, cutL_from, List.map_drop]
    have himp0 : ∀ b2 : Bool, (b2 = true ↔ ∀ d, 0 ≤ d → rulB r0 d = true → ∃ s ∈ rs.drop 1, rulB s d = true) → b2 = imp 0 ((List.range (rs.length - 1)).map (· + 1)) := fun b2 hb2 => by
      rw [Bool.eq_iff_iff, hb2, himp, hr0]
      refine forall_congr' fun d => forall_congr' fun _ => forall_congr' fun _ => ⟨fun ⟨s, w1, w2⟩ => ?_, fun ⟨p, w1, w2⟩ => ?_⟩
      · obtain ⟨j, hj⟩ := List.getElem?_of_mem w1
        rw [List.getElem?_drop] at hj
        have hjl := (List.getElem?_eq_some_iff.mp hj).1
        refine ⟨j + 1, List.mem_map.mpr ⟨j, List.mem_range.mpr (by omega), rfl⟩, ?_⟩
        rw [Nat.add_comm] at hj
        have := hget (j + 1) (by omega)
        rw [hj] at this
        cases this
        exact w2
      · obtain ⟨j, hj, rfl⟩ := List.mem_map.mp w1
        have hj := List.mem_range.mp hj
        refine ⟨_, List.mem_of_getElem? (i := j) ?_, w2⟩
        rw [List.getElem?_drop, Nat.add_comm]
        exact hget (j + 1) (by omega)
    simp only [↓sSeq, ↓sAsg, ↓sRet, ↓sRetN, ↓sIf, ↓sDrop, ↓sPar, ↓sNext, ↓sApp, ↓eVar, ↓bVar, ↓bE, ↓eBin, ↓tE, chS_bl, chS_true, chS_false, wipeE_nil, wipeE_cons, ↓qAnd, ↓qNot, ↓eNot, ↓eIf, ↓aNil, ↓aCons, ↓aConsB, ↓eTup, ↓eLst, ↓iSeq, ↓iR1, Option.isSome_some, lk_int, lk_str, ↓eRange1, ↓gN, ↓eCall, ↓dI2, ↓dAdd, ↓dEq, ↓dNe, ↓dIsN, ↓dIx, ↓oNone, ↓oSome, ↓eSl, ↓eB, ↓cLen, ↓cTuple, natc0, natc1, natc2, List.findIdx?_cons, List.findIdx?_nil, intsOf_ints, boolsOf_bls, plAnyI, plAnyR, ↓eRange, ↓Sl.val, ↓Ow.toD, ↓stE, ↓tYes', ↓PL.isNon, ↓eC, ↓bC, ↓dSub, ↓dLt, ↓dGt, List.getElem?_cons_zero, List.getElem?_cons_succ, List.set_cons_zero, List.set_cons_succ, List.map_cons, List.map_nil, List.length_cons, List.length_nil, List.nil_append, List.cons_append, List.replicate_succ, List.replicate_zero, List.append_nil, atI0, atI1, atI2, atI3, atI4, cmpOk_int, cmpOk_bl, cmpOk_non, deq_int, deq_bl, true_and, and_true, Nat.reduceAdd, Nat.reduceSub, Nat.reduceLeDiff, Nat.reduceLT, Bool.not_eq_true', Bool.false_eq_true, if_false, if_true, decide_eq_true_eq, decide_eq_false_iff_not, Nat.zero_add, Nat.sub_zero, Nat.add_zero, Nat.sub_self, ixN31, ixN32, List.length_map, List.length_set, Int.reduceToNat, Int.reducePow, Int.reduceNeg, Int.reduceAdd, Int.reduceSub, Int.reduceMul, Int.reduceLT, Int.reduceLE, Int.reduceEq, Nat.reduceEqDiff, reduceCtorEq, List.mem_singleton, eq_self, not_true_eq_false, not_false_eq_true, or_true, true_or, cmpOk_lstA, cmpOk_tupA, ckA_lst, ckA_tup, ckAl_nil, ckAl_cons, ckAl_ints, ckAl_rangeL, ck_int, ck_bl, ck_non, ck_strI, cmpOk_str, deq_str, deq_tup, deq_lst, deqA_nil, deqA_cons, deqA_ints, Bool.and_true, Bool.true_and, Bool.and_false, Bool.false_and, decide_true, decide_false, Bool.not_true, Bool.not_false, ↓pDraw, ↓p__law_flags, ↓p__law_lost, ↓p__law_same, ↓p__law_small_rule, ↓p__law_twin, ↓p_first_difference, ↓p_implied_by, ↓p_needed_rules, ↓p_same_days, ↓p_unfolded, hc1]
    refine ⟨r0, rs.drop 1, rfl, .inl rfl, ⟨ok0, fun s hs => hrs s (List.mem_of_mem_drop hs), by rw [List.length_drop]; omega⟩, fun b2 hb2 => ?_⟩
    have hb2 := himp0 b2 hb2
    subst hb2
    rw [if_neg fun w => w rfl]
    refine h1 _ _ ?_
    clear h1
    refine sSeq_i fun N1 h1 => ?_
    walk_at "pl"
    refine ⟨by omega, h1 _ _ ?_⟩
    clear h1
    refine sSeq_i fun N1 h1 => ?_
    refine sFor_k fun N hN => ?_
    walk_at "pl"
    refine ⟨by omega, hN _ _ _ ?_⟩
    clear hN
    generalize himp1 : imp 0 ((List.range (rs.length - 1)).map (· + 1)) = im0
    generalize (rgI 0 1300).filter (fun x => decide (¬ (rulB r0 x = rulB rl x))) = sg
    have hrg : rangeL 0 (rs.length : Int) = (List.range rs.length).map fun p : Nat => D.int p := by
      unfold rangeL
      rw [show ((rs.length : Int) - 0).toNat = rs.length by omega]
      exact List.map_congr_left fun k _ => congrArg D.int (show (0 : Int) + (k : Int) = (k : Int) by omega)
    refine loop_i (fun i ρ M1 => M1 = [(T, MO.tape)] ∧ ∃ (K : List Nat) (a s12 c : Sl), ((s12 = .ow (.lst (K.map fun p : Nat => D.int p)) ∨ s12 = .va (.lst (K.map fun p : Nat => D.int p))) ∧ K.length ≤ rs.length ∧ (∀ p ∈ K, p < rs.length) ∧ needR imp rs.length (List.range rs.length) = needR imp (rs.length - i) K) ∧
      ρ = [.un, .va (.ref T), .va (.lst (rs.map rulD)), a, b, .va (.int 1300), .va (.lst (rs.map (flagD 1300))), .va (rulD r0), .va (rulD rl), .ow (.lst (sg.map D.int)), .va (optD q), .va (.bl im0), s12, c, .un, .un]) ⟨rfl, List.range rs.length, _, _, _, ⟨.inl (by rw [hrg]), by rw [List.length_range]; omega, fun p hp => List.mem_range.mp hp, rfl⟩, rfl⟩ ?_ ?_
    · rintro J hJ i dd ρ M1 hd ⟨rfl, K, a, s12, c, ⟨k1, k2, k3, k4⟩, rfl⟩
      obtain ⟨rfl, hi⟩ := rangeL_get hd
      obtain ⟨k, hk⟩ : ∃ k, rs.length - i = k + 1 := ⟨rs.length - i - 1, by omega⟩
      have hkn : k < rs.length := by omega
      have hni : rs.length - (i + 1) = k := by omega
      rw [hk] at k4
      have hk4 : needR imp rs.length (List.range rs.length) = needR imp k (if imp k (K.filter fun p => decide (p ≠ k)) = true then K.filter (fun p => decide (p ≠ k)) else K) := k4
      have hfl2 := List.length_filter_le (fun p => decide (p ≠ k)) K
      have hfm : ∀ p ∈ K.filter (fun p => decide (p ≠ k)), p < rs.length := fun p hp => k3 p (List.mem_filter.mp hp).1
      walk_at "gn"
      refine sSeq_i fun N2 h2 => ?_
      walk_at "pl"
      rw [show (rs.length : Int) - 1 - (0 + (i : Int)) = (k : Int) by omega]
      refine h2 _ _ ?_
      clear h2
      refine sIf_k fun N3 h3 => ?_
      rcases k1 with rfl | rfl
      all_goals
        walk_at "pl"
        refine eLc_k fun N hN => ?_
        walk_at "pl"
        refine hN _ _ _ ?_
        clear hN
        refine eLc_inv (fun p : Nat => D.int p) (fun i bs => bs = (K.take i).filter fun p => decide (p ≠ k)) (K.map fun p : Nat => D.int p) _ _ (fun Q h => h) rfl rfl ?_ ?_
        · rintro i d bs J2 hd2 rfl hJ2
          obtain ⟨p, hp, rfl⟩ := map_get hd2
          have := hJ2 _ rfl
          rw [List.take_add_one, hp, List.filter_append, List.map_append] at this
          walk_at "gn"
          walk_at "pl"
          have hfl3 := List.length_filter_le (fun p => decide (p ≠ k)) (K.take i)
          rw [List.length_take] at hfl3
          split
          · rename_i hne
            refine ⟨by omega, ?_⟩
            rw [show (some p).toList.filter (fun p => decide (p ≠ k)) = [p] from by simp; omega] at this
            exact this
          · rename_i hne
            rw [show (some p).toList.filter (fun p => decide (p ≠ k)) = [] from by simp; omega, List.map_nil, List.append_nil] at this
            exact this
        rintro bs rfl
        rw [List.length_map, List.take_length]
        walk_at "pl"
        refine ⟨rs, k, K.filter fun p => decide (p ≠ k), rfl, rfl, rfl, ⟨hkn, hfm, by omega⟩, fun bb hbb => h3 _ _ _ ?_⟩
        clear h3
        have hbb := hlost k _ bb hkn hfm hbb
        subst hbb
        rw [Bool.not_not]
        by_cases c2 : imp k (K.filter fun p => decide (p ≠ k)) = true
        · rw [if_pos c2] at hk4 ⊢
          walk_at "pl"
          refine eLc_k fun N hN => ?_
          walk_at "pl"
          refine hN _ _ _ ?_
          clear hN
          refine eLc_inv (fun p : Nat => D.int p) (fun i bs => bs = (K.take i).filter fun p => decide (p ≠ k)) (K.map fun p : Nat => D.int p) _ _ (fun Q h => h) rfl rfl ?_ ?_
          · rintro i d bs J2 hd2 rfl hJ2
            obtain ⟨p, hp, rfl⟩ := map_get hd2
            have := hJ2 _ rfl
            rw [List.take_add_one, hp, List.filter_append, List.map_append] at this
            walk_at "gn"
            walk_at "pl"
            have hfl3 := List.length_filter_le (fun p => decide (p ≠ k)) (K.take i)
            rw [List.length_take] at hfl3
            split
            · rename_i hne
              refine ⟨by omega, ?_⟩
              rw [show (some p).toList.filter (fun p => decide (p ≠ k)) = [p] from by simp; omega] at this
              exact this
            · rename_i hne
              rw [show (some p).toList.filter (fun p => decide (p ≠ k)) = [] from by simp; omega, List.map_nil, List.append_nil] at this
              exact this
          rintro bs rfl
          rw [List.length_map, List.take_length]
          refine hJ _ _ _ ⟨rfl, K.filter fun p => decide (p ≠ k), _, _, _, ⟨.inl rfl, by omega, hfm, by rw [hni]; exact hk4⟩, rfl⟩
        · rw [if_neg c2] at hk4 ⊢
          walk_at "pl"
          refine hJ _ _ _ ⟨rfl, K, _, _, _, ⟨.inr rfl, k2, k3, by rw [hni]; exact hk4⟩, rfl⟩
    · rintro ρ M1 ⟨rfl, K, a, s12, c, ⟨k1, k2, k3, k4⟩, rfl⟩
      rw [rangeL_len, show ((rs.length : Int) - 0).toNat = rs.length by omega, Nat.sub_self] at k4
      have k4 : needR imp rs.length (List.range rs.length) = K := k4
      refine h1 _ _ ?_
      clear h1
      walk_at "pl"
      refine ⟨rs, rfl, ⟨hrs, by omega⟩, fun imp' himp' => ?_⟩
      have hck : CkAl 63 (K.map fun k => rulD (rs.getD k default)) := fun d hd => by
        obtain ⟨p, hp, rfl⟩ := List.mem_map.mp hd
        obtain ⟨so1, so2, so3, so4, so5, so6, so7⟩ := str_ok
        generalize rs.getD p default = r
        have hks : PyData.strOk (kindS r) = true := by
          unfold kindS
          split
          · exact so2
          · exact so1
        have hfn : Ck 62 (endRD r.fin) := by
          cases r.fin with
          | never => exact ckA_tup.mpr (ckAl_cons.mpr ⟨ck_strI.mpr so7, ckAl_nil⟩)
          | till e => exact ckA_tup.mpr (ckAl_cons.mpr ⟨ck_strI.mpr so5, ckAl_cons.mpr ⟨ck_int, ckAl_nil⟩⟩)
          | count c => exact ckA_tup.mpr (ckAl_cons.mpr ⟨ck_strI.mpr so6, ckAl_cons.mpr ⟨ck_int, ckAl_nil⟩⟩)
        unfold rulD
        refine ckA_tup.mpr (ckAl_cons.mpr ⟨ck_strI.mpr hks, ckAl_cons.mpr ⟨ck_int, ckAl_cons.mpr ⟨ckA_tup.mpr ckAl_ints, ckAl_cons.mpr ⟨ck_int, ckAl_cons.mpr ⟨hfn, ckAl_nil⟩⟩⟩⟩⟩)
      have hdq := deq_refl (cmpOk_tupA.mpr hck)
      rw [deq_tup] at hdq
      have hneed : needR imp' rs.length (List.range rs.length) = K := by
        rw [← k4]
        have himp2 : ∀ k K, k < rs.length → (∀ p ∈ K, p < rs.length) → imp' k K = imp k K := fun k K hk hK => by rw [Bool.eq_iff_iff, himp' k K hk hK, himp]
        have key : ∀ (k : Nat) (K : List Nat), k ≤ rs.length → (∀ p ∈ K, p < rs.length) → needR imp' k K = needR imp k K := by
          intro k
          induction k with
          | zero => intro K _ _; rfl
          | succ k ih =>
            intro K hk hK
            have hf : ∀ p ∈ K.filter (fun p => decide (p ≠ k)), p < rs.length := fun p hp => hK p (List.mem_filter.mp hp).1
            show needR imp' k (if imp' k (K.filter fun p => decide (p ≠ k)) = true then K.filter (fun p => decide (p ≠ k)) else K) = needR imp k (if imp k (K.filter fun p => decide (p ≠ k)) = true then K.filter (fun p => decide (p ≠ k)) else K)
            rw [himp2 k _ (by omega) hf]
            split
            · exact ih _ (by omega) hf
            · exact ih _ (by omega) hK
        exact key _ _ (Nat.le_refl _) fun p hp => List.mem_range.mp hp
      rw [hneed]
      rcases k1 with rfl | rfl
      all_goals
        refine eLc_k fun N hN => ?_
        walk_at "pl"
        refine hN _ _ _ ?_
        clear hN
        refine eLc_inv (fun p : Nat => rulD (rs.getD p default)) (fun i bs => bs = K.take i) (K.map fun p : Nat => D.int p) _ _ (fun Q h => h) rfl rfl ?_ ?_
        · rintro i d bs J2 hd2 rfl hJ2
          obtain ⟨p, hp, rfl⟩ := map_get hd2
          have hpl := k3 p (List.mem_of_getElem? hp)
          have := hJ2 _ rfl
          rw [List.take_add_one, hp, List.map_append] at this
          walk_at "gn"
          simp only [↓sSeq, ↓sAsg, ↓sRet, ↓sRetN, ↓sIf, ↓sDrop, ↓sPar, ↓sNext, ↓sApp, ↓eVar, ↓bVar, ↓bE, ↓eBin, ↓tE, chS_bl, chS_true, chS_false, wipeE_nil, wipeE_cons, ↓qAnd, ↓qNot, ↓eNot, ↓eIf, ↓aNil, ↓aCons, ↓aConsB, ↓eTup, ↓eLst, ↓iSeq, ↓iR1, Option.isSome_some, lk_int, lk_str, ↓eRange1, ↓gN, ↓eCall, ↓dI2, ↓dAdd, ↓dEq, ↓dNe, ↓dIsN, ↓dIx, ↓oNone, ↓oSome, ↓eSl, ↓eB, ↓cLen, ↓cTuple, natc0, natc1, natc2, List.findIdx?_cons, List.findIdx?_nil, intsOf_ints, boolsOf_bls, plAnyI, plAnyR, ↓eRange, ↓Sl.val, ↓Ow.toD, ↓stE, ↓tYes', ↓PL.isNon, ↓eC, ↓bC, ↓dSub, ↓dLt, ↓dGt, List.getElem?_cons_zero, List.getElem?_cons_succ, List.set_cons_zero, List.set_cons_succ, List.map_cons, List.map_nil, List.length_cons, List.length_nil, List.nil_append, List.cons_append, List.replicate_succ, List.replicate_zero, List.append_nil, atI0, atI1, atI2, atI3, atI4, cmpOk_int, cmpOk_bl, cmpOk_non, deq_int, deq_bl, true_and, and_true, Nat.reduceAdd, Nat.reduceSub, Nat.reduceLeDiff, Nat.reduceLT, Bool.not_eq_true', Bool.false_eq_true, if_false, if_true, decide_eq_true_eq, decide_eq_false_iff_not, Nat.zero_add, Nat.sub_zero, Nat.add_zero, Nat.sub_self, ixN31, ixN32, List.length_map, List.length_set, Int.reduceToNat, Int.reducePow, Int.reduceNeg, Int.reduceAdd, Int.reduceSub, Int.reduceMul, Int.reduceLT, Int.reduceLE, Int.reduceEq, Nat.reduceEqDiff, reduceCtorEq, List.mem_singleton, eq_self, not_true_eq_false, not_false_eq_true, or_true, true_or, cmpOk_lstA, cmpOk_tupA, ckA_lst, ckA_tup, ckAl_nil, ckAl_cons, ckAl_ints, ckAl_rangeL, ck_int, ck_bl, ck_non, ck_strI, cmpOk_str, deq_str, deq_tup, deq_lst, deqA_nil, deqA_cons, deqA_ints, Bool.and_true, Bool.true_and, Bool.and_false, Bool.false_and, decide_true, decide_false, Bool.not_true, Bool.not_false, ↓pDraw, ↓p__law_flags, ↓p__law_lost, ↓p__law_same, ↓p__law_small_rule, ↓p__law_twin, ↓p_first_difference, ↓p_implied_by, ↓p_needed_rules, ↓p_same_days, ↓p_unfolded, hat p hpl]
          exact ⟨by rw [List.length_take]; omega, this⟩
        rintro bs rfl
        rw [List.length_map, List.take_length]
        walk_at "pl"
        exact ⟨⟨hck, hck⟩, by rw [hdq]⟩
  walk_at "pl"
  cases hsg : (rgI 0 1300).filter fun x => decide (¬ (rulB r0 x = rulB rl x)) with
  | nil =>
    rw [hsg] at hdue
    first
      | exact hdue .un
      | (rw [if_pos (by rw [List.length_cons]; omega), List.map_cons, atI0]; exact hdue .un)
  | cons v vs =>
    rw [hsg] at hdue
    first
      | exact hdue .un
      | (rw [if_pos (by rw [List.length_cons]; omega), List.map_cons, atI0]; exact hdue .un)

end
/-! ### the head -/
theorem facts {P : Program} {w : World} {K : PySem.W.Frag} {h : Heap} {mg : Str → Option Value} {f : Addr} (X : K.In h) (G : h.Ns mainGlobals mg) (hfa : mg ("law" : Str) = some (.ref f)) (c : SaysE fa fn ex K) :
    ∃ fd : FuncData, (∀ (s : Shared) (v : Value), BindsTo s fd ⟨[v], []⟩ [("script", v)]) ∧ ∀ base : Heap, K.In base → base.Ns mainGlobals mg → FnOk P w K mg base CX0 10 f fd ["script"] (spLaw K) := by
  obtain ⟨x_inverse, F_inverse⟩ := c.d.def_ 0 (d := d_inverse) rfl
  obtain ⟨x_both, F_both⟩ := c.d.def_ 1 (d := d_both) rfl
  obtain ⟨x_primes_of, F_primes_of⟩ := c.d.def_ 2 (d := d_primes_of) rfl
  obtain ⟨x_place_in, F_place_in⟩ := c.d.def_ 3 (d := d_place_in) rfl
  obtain ⟨x_shrunk, F_shrunk⟩ := c.d.def_ 4 (d := d_shrunk) rfl
  obtain ⟨x_repeats, F_repeats⟩ := c.d.def_ 5 (d := d_repeats) rfl
  obtain ⟨x_has, F_has⟩ := c.d.def_ 6 (d := d_has) rfl
  obtain ⟨x_many_below, F_many_below⟩ := c.d.def_ 7 (d := d_many_below) rfl
  obtain ⟨x_first_from, F_first_from⟩ := c.d.def_ 8 (d := d_first_from) rfl
  obtain ⟨x_spread, F_spread⟩ := c.d.def_ 9 (d := d_spread) rfl
  obtain ⟨x_by_class, F_by_class⟩ := c.d.def_ 10 (d := d_by_class) rfl
  obtain ⟨x_met, F_met⟩ := c.d.def_ 11 (d := d_met) rfl
  obtain ⟨x_joined, F_joined⟩ := c.d.def_ 12 (d := d_joined) rfl
  obtain ⟨x_without, F_without⟩ := c.d.def_ 13 (d := d_without) rfl
  obtain ⟨x_tidied, F_tidied⟩ := c.d.def_ 14 (d := d_tidied) rfl
  obtain ⟨x_from_day, F_from_day⟩ := c.d.def_ 15 (d := d_from_day) rfl
  obtain ⟨x_windows, F_windows⟩ := c.d.def_ 16 (d := d_windows) rfl
  obtain ⟨x_next_from, F_next_from⟩ := c.d.def_ 17 (d := d_next_from) rfl
  obtain ⟨x_nth_of, F_nth_of⟩ := c.d.def_ 18 (d := d_nth_of) rfl
  obtain ⟨x_overlaps, F_overlaps⟩ := c.d.def_ 19 (d := d_overlaps) rfl
  obtain ⟨x_within_stretch, F_within_stretch⟩ := c.d.def_ 20 (d := d_within_stretch) rfl
  obtain ⟨x_short_stretch, F_short_stretch⟩ := c.d.def_ 21 (d := d_short_stretch) rfl
  obtain ⟨x_put_together, F_put_together⟩ := c.d.def_ 22 (d := d_put_together) rfl
  obtain ⟨x_union, F_union⟩ := c.d.def_ 23 (d := d_union) rfl
  obtain ⟨x_minus, F_minus⟩ := c.d.def_ 24 (d := d_minus) rfl
  obtain ⟨x_limited, F_limited⟩ := c.d.def_ 25 (d := d_limited) rfl
  obtain ⟨x_within, F_within⟩ := c.d.def_ 26 (d := d_within) rfl
  obtain ⟨x_unit_of, F_unit_of⟩ := c.d.def_ 27 (d := d_unit_of) rfl
  obtain ⟨x_ascending, F_ascending⟩ := c.d.def_ 28 (d := d_ascending) rfl
  obtain ⟨x_picks_fit, F_picks_fit⟩ := c.d.def_ 29 (d := d_picks_fit) rfl
  obtain ⟨x_rule_fits, F_rule_fits⟩ := c.d.def_ 30 (d := d_rule_fits) rfl
  obtain ⟨x_turns_of, F_turns_of⟩ := c.d.def_ 31 (d := d_turns_of) rfl
  obtain ⟨x_unfolded, F_unfolded⟩ := c.d.def_ 32 (d := d_unfolded) rfl
  obtain ⟨x_first_difference, F_first_difference⟩ := c.d.def_ 33 (d := d_first_difference) rfl
  obtain ⟨x_same_days, F_same_days⟩ := c.d.def_ 34 (d := d_same_days) rfl
  obtain ⟨x_implied_by, F_implied_by⟩ := c.d.def_ 35 (d := d_implied_by) rfl
  obtain ⟨x_needed_rules, F_needed_rules⟩ := c.d.def_ 36 (d := d_needed_rules) rfl
  obtain ⟨x__law_draw, F__law_draw⟩ := c.d.def_ 37 (d := d__law_draw) rfl
  obtain ⟨x__law_tape, F__law_tape⟩ := c.d.def_ 38 (d := d__law_tape) rfl
  obtain ⟨x__law_same, F__law_same⟩ := c.d.def_ 39 (d := d__law_same) rfl
  obtain ⟨x__law_mod, F__law_mod⟩ := c.d.def_ 40 (d := d__law_mod) rfl
  obtain ⟨x__law_ascending, F__law_ascending⟩ := c.d.def_ 41 (d := d__law_ascending) rfl
  obtain ⟨x__law_rule_end, F__law_rule_end⟩ := c.d.def_ 42 (d := d__law_rule_end) rfl
  obtain ⟨x__law_turns, F__law_turns⟩ := c.d.def_ 43 (d := d__law_turns) rfl
  obtain ⟨x__law_rule_days, F__law_rule_days⟩ := c.d.def_ 44 (d := d__law_rule_days) rfl
  obtain ⟨x__law_small_rule, F__law_small_rule⟩ := c.d.def_ 45 (d := d__law_small_rule) rfl
  obtain ⟨x__law_twin, F__law_twin⟩ := c.d.def_ 46 (d := d__law_twin) rfl
  obtain ⟨x__law_flags, F__law_flags⟩ := c.d.def_ 47 (d := d__law_flags) rfl
  obtain ⟨x__law_lost, F__law_lost⟩ := c.d.def_ 48 (d := d__law_lost) rfl
  obtain ⟨x_law, F_law⟩ := c.d.def_ 49 (d := d_law) rfl
  have g_inverse := He.glo_ok X G (c.d.fact 0 (f := .glo "inverse") rfl)
  have g_both := He.glo_ok X G (c.d.fact 1 (f := .glo "both") rfl)
  have g_primes_of := He.glo_ok X G (c.d.fact 2 (f := .glo "primes_of") rfl)
  have g_place_in := He.glo_ok X G (c.d.fact 3 (f := .glo "place_in") rfl)
  have g_shrunk := He.glo_ok X G (c.d.fact 4 (f := .glo "shrunk") rfl)
  have g_repeats := He.glo_ok X G (c.d.fact 5 (f := .glo "repeats") rfl)
  have g_has := He.glo_ok X G (c.d.fact 6 (f := .glo "has") rfl)
  have g_many_below := He.glo_ok X G (c.d.fact 7 (f := .glo "many_below") rfl)
  have g_first_from := He.glo_ok X G (c.d.fact 8 (f := .glo "first_from") rfl)
  have g_spread := He.glo_ok X G (c.d.fact 9 (f := .glo "spread") rfl)
  have g_by_class := He.glo_ok X G (c.d.fact 10 (f := .glo "by_class") rfl)
  have g_met := He.glo_ok X G (c.d.fact 11 (f := .glo "met") rfl)
  have g_joined := He.glo_ok X G (c.d.fact 12 (f := .glo "joined") rfl)
  have g_without := He.glo_ok X G (c.d.fact 13 (f := .glo "without") rfl)
  have g_tidied := He.glo_ok X G (c.d.fact 14 (f := .glo "tidied") rfl)
  have g_from_day := He.glo_ok X G (c.d.fact 15 (f := .glo "from_day") rfl)
  have g_windows := He.glo_ok X G (c.d.fact 16 (f := .glo "windows") rfl)
  have g_next_from := He.glo_ok X G (c.d.fact 17 (f := .glo "next_from") rfl)
  have g_nth_of := He.glo_ok X G (c.d.fact 18 (f := .glo "nth_of") rfl)
  have g_overlaps := He.glo_ok X G (c.d.fact 19 (f := .glo "overlaps") rfl)
  have g_within_stretch := He.glo_ok X G (c.d.fact 20 (f := .glo "within_stretch") rfl)
  have g_short_stretch := He.glo_ok X G (c.d.fact 21 (f := .glo "short_stretch") rfl)
  have g_put_together := He.glo_ok X G (c.d.fact 22 (f := .glo "put_together") rfl)
  have g_union := He.glo_ok X G (c.d.fact 23 (f := .glo "union") rfl)
  have g_minus := He.glo_ok X G (c.d.fact 24 (f := .glo "minus") rfl)
  have g_limited := He.glo_ok X G (c.d.fact 25 (f := .glo "limited") rfl)
  have g_within := He.glo_ok X G (c.d.fact 26 (f := .glo "within") rfl)
  have g_unit_of := He.glo_ok X G (c.d.fact 27 (f := .glo "unit_of") rfl)
  have g_ascending := He.glo_ok X G (c.d.fact 28 (f := .glo "ascending") rfl)
  have g_picks_fit := He.glo_ok X G (c.d.fact 29 (f := .glo "picks_fit") rfl)
  have g_rule_fits := He.glo_ok X G (c.d.fact 30 (f := .glo "rule_fits") rfl)
  have g_turns_of := He.glo_ok X G (c.d.fact 31 (f := .glo "turns_of") rfl)
  have g_unfolded := He.glo_ok X G (c.d.fact 32 (f := .glo "unfolded") rfl)
  have g_first_difference := He.glo_ok X G (c.d.fact 33 (f := .glo "first_difference") rfl)
  have g_same_days := He.glo_ok X G (c.d.fact 34 (f := .glo "same_days") rfl)
  have g_implied_by := He.glo_ok X G (c.d.fact 35 (f := .glo "implied_by") rfl)
  have g_needed_rules := He.glo_ok X G (c.d.fact 36 (f := .glo "needed_rules") rfl)
  have g__law_draw := He.glo_ok X G (c.d.fact 37 (f := .glo "_law_draw") rfl)
  have g__law_tape := He.glo_ok X G (c.d.fact 38 (f := .glo "_law_tape") rfl)
  have g__law_same := He.glo_ok X G (c.d.fact 39 (f := .glo "_law_same") rfl)
  have g__law_mod := He.glo_ok X G (c.d.fact 40 (f := .glo "_law_mod") rfl)
  have g__law_ascending := He.glo_ok X G (c.d.fact 41 (f := .glo "_law_ascending") rfl)
  have g__law_rule_end := He.glo_ok X G (c.d.fact 42 (f := .glo "_law_rule_end") rfl)
  have g__law_turns := He.glo_ok X G (c.d.fact 43 (f := .glo "_law_turns") rfl)
  have g__law_rule_days := He.glo_ok X G (c.d.fact 44 (f := .glo "_law_rule_days") rfl)
  have g__law_small_rule := He.glo_ok X G (c.d.fact 45 (f := .glo "_law_small_rule") rfl)
  have g__law_twin := He.glo_ok X G (c.d.fact 46 (f := .glo "_law_twin") rfl)
  have g__law_flags := He.glo_ok X G (c.d.fact 47 (f := .glo "_law_flags") rfl)
  have g__law_lost := He.glo_ok X G (c.d.fact 48 (f := .glo "_law_lost") rfl)
  have g_law := He.glo_ok X G (c.d.fact 49 (f := .glo "law") rfl)
  obtain ⟨t_RESIDUES_MOST, g_RESIDUES_MOST⟩ := He.int_ok X G (c.d.fact 50 (f := .int "RESIDUES_MOST" (200000)) rfl)
  have g_EMPTY := He.glo_ok X G (c.d.fact 51 (f := .glo "EMPTY") rfl)
  obtain ⟨t_CYCLE_MONTHS, g_CYCLE_MONTHS⟩ := He.int_ok X G (c.d.fact 52 (f := .int "CYCLE_MONTHS" (4800)) rfl)
  obtain ⟨t_CYCLE_DAYS, g_CYCLE_DAYS⟩ := He.int_ok X G (c.d.fact 53 (f := .int "CYCLE_DAYS" (146097)) rfl)
  have g_LENGTHS := He.glo_ok X G (c.d.fact 54 (f := .glo "LENGTHS") rfl)
  have g_BEFORE := He.glo_ok X G (c.d.fact 55 (f := .glo "BEFORE") rfl)
  obtain ⟨t_JULIAN_MONTHS, g_JULIAN_MONTHS⟩ := He.int_ok X G (c.d.fact 56 (f := .int "JULIAN_MONTHS" (48)) rfl)
  obtain ⟨t_JULIAN_DAYS, g_JULIAN_DAYS⟩ := He.int_ok X G (c.d.fact 57 (f := .int "JULIAN_DAYS" (1461)) rfl)
  have g_JULIAN_LENGTHS := He.glo_ok X G (c.d.fact 58 (f := .glo "JULIAN_LENGTHS") rfl)
  have g_JULIAN_BEFORE := He.glo_ok X G (c.d.fact 59 (f := .glo "JULIAN_BEFORE") rfl)
  obtain ⟨t_JULIAN_BEGIN, g_JULIAN_BEGIN⟩ := He.int_ok X G (c.d.fact 60 (f := .int "JULIAN_BEGIN" (-2)) rfl)
  obtain ⟨t_MOON_MONTHS, g_MOON_MONTHS⟩ := He.int_ok X G (c.d.fact 61 (f := .int "MOON_MONTHS" (360)) rfl)
  obtain ⟨t_MOON_DAYS, g_MOON_DAYS⟩ := He.int_ok X G (c.d.fact 62 (f := .int "MOON_DAYS" (10631)) rfl)
  obtain ⟨t_MOON_BEGIN, g_MOON_BEGIN⟩ := He.int_ok X G (c.d.fact 63 (f := .int "MOON_BEGIN" (227014)) rfl)
  obtain ⟨t_INTERVAL_MOST, g_INTERVAL_MOST⟩ := He.int_ok X G (c.d.fact 64 (f := .int "INTERVAL_MOST" (99)) rfl)
  obtain ⟨t_PICKS_MOST, g_PICKS_MOST⟩ := He.int_ok X G (c.d.fact 65 (f := .int "PICKS_MOST" (20)) rfl)
  obtain ⟨t_COUNT_MOST, g_COUNT_MOST⟩ := He.int_ok X G (c.d.fact 66 (f := .int "COUNT_MOST" (100000)) rfl)
  have m_all := He.free_ok X G (c.d.fact 67 (f := .free "all") rfl)
  have m_bool := He.free_ok X G (c.d.fact 68 (f := .free "bool") rfl)
  have m_enumerate := He.free_ok X G (c.d.fact 69 (f := .free "enumerate") rfl)
  have m_int := He.free_ok X G (c.d.fact 70 (f := .free "int") rfl)
  have m_isinstance := He.free_ok X G (c.d.fact 71 (f := .free "isinstance") rfl)
  have m_len := He.free_ok X G (c.d.fact 72 (f := .free "len") rfl)
  have m_list := He.free_ok X G (c.d.fact 73 (f := .free "list") rfl)
  have m_max := He.free_ok X G (c.d.fact 74 (f := .free "max") rfl)
  have m_min := He.free_ok X G (c.d.fact 75 (f := .free "min") rfl)
  have m_range := He.free_ok X G (c.d.fact 76 (f := .free "range") rfl)
  have m_set := He.free_ok X G (c.d.fact 77 (f := .free "set") rfl)
  have m_sorted := He.free_ok X G (c.d.fact 78 (f := .free "sorted") rfl)
  have m_tuple := He.free_ok X G (c.d.fact 79 (f := .free "tuple") rfl)
  have hex := c.x
  unfold ex at hex
  simp only [Bool.and_eq_true] at hex
  obtain ⟨⟨⟨⟨⟨⟨e_EMPTY, e_LENGTHS⟩, e_BEFORE⟩, e_JULIAN_LENGTHS⟩, e_JULIAN_BEFORE⟩, i_gcd⟩, i_lcm⟩ := hex
  have e := hfa.symm.trans g_law
  cases e
  let T : TF K mg := {
    a_inverse := He.ga K "inverse"
    x_inverse := x_inverse
    f_inverse := F_inverse
    g_inverse := g_inverse
    b_inverse := FunD.bindsN (ps := ["a", "m"]) F_inverse fun _ _ _ _ _ _ us hl => match us, hl with | [_, _], _ => rfl
    a_both := He.ga K "both"
    x_both := x_both
    f_both := F_both
    g_both := g_both
    b_both := FunD.bindsN (ps := ["a", "m", "b", "n"]) F_both fun _ _ _ _ _ _ us hl => match us, hl with | [_, _, _, _], _ => rfl
    a_primes_of := He.ga K "primes_of"
    x_primes_of := x_primes_of
    f_primes_of := F_primes_of
    g_primes_of := g_primes_of
    b_primes_of := FunD.bindsN (ps := ["n"]) F_primes_of fun _ _ _ _ _ _ us hl => match us, hl with | [_], _ => rfl
    a_place_in := He.ga K "place_in"
    x_place_in := x_place_in
    f_place_in := F_place_in
    g_place_in := g_place_in
    b_place_in := FunD.bindsN (ps := ["residues", "r"]) F_place_in fun _ _ _ _ _ _ us hl => match us, hl with | [_, _], _ => rfl
    a_shrunk := He.ga K "shrunk"
    x_shrunk := x_shrunk
    f_shrunk := F_shrunk
    g_shrunk := g_shrunk
    b_shrunk := FunD.bindsN (ps := ["period", "residues"]) F_shrunk fun _ _ _ _ _ _ us hl => match us, hl with | [_, _], _ => rfl
    a_repeats := He.ga K "repeats"
    x_repeats := x_repeats
    f_repeats := F_repeats
    g_repeats := g_repeats
    b_repeats := FunD.bindsN (ps := ["period", "residues", "step"]) F_repeats fun _ _ _ _ _ _ us hl => match us, hl with | [_, _, _], _ => rfl
    a_has := He.ga K "has"
    x_has := x_has
    f_has := F_has
    g_has := g_has
    b_has := FunD.bindsN (ps := ["period", "residues", "d"]) F_has fun _ _ _ _ _ _ us hl => match us, hl with | [_, _, _], _ => rfl
    a_many_below := He.ga K "many_below"
    x_many_below := x_many_below
    f_many_below := F_many_below
    g_many_below := g_many_below
    b_many_below := FunD.bindsN (ps := ["period", "residues", "d"]) F_many_below fun _ _ _ _ _ _ us hl => match us, hl with | [_, _, _], _ => rfl
    a_first_from := He.ga K "first_from"
    x_first_from := x_first_from
    f_first_from := F_first_from
    g_first_from := g_first_from
    b_first_from := FunD.bindsN (ps := ["period", "residues", "d"]) F_first_from fun _ _ _ _ _ _ us hl => match us, hl with | [_, _, _], _ => rfl
    a_spread := He.ga K "spread"
    x_spread := x_spread
    f_spread := F_spread
    g_spread := g_spread
    b_spread := FunD.bindsN (ps := ["period", "residues", "longer"]) F_spread fun _ _ _ _ _ _ us hl => match us, hl with | [_, _, _], _ => rfl
    a_by_class := He.ga K "by_class"
    x_by_class := x_by_class
    f_by_class := F_by_class
    g_by_class := g_by_class
    b_by_class := FunD.bindsN (ps := ["residues", "common"]) F_by_class fun _ _ _ _ _ _ us hl => match us, hl with | [_, _], _ => rfl
    a_met := He.ga K "met"
    x_met := x_met
    f_met := F_met
    g_met := g_met
    b_met := FunD.bindsN (ps := ["first", "second"]) F_met fun _ _ _ _ _ _ us hl => match us, hl with | [_, _], _ => rfl
    a_joined := He.ga K "joined"
    x_joined := x_joined
    f_joined := F_joined
    g_joined := g_joined
    b_joined := FunD.bindsN (ps := ["first", "second"]) F_joined fun _ _ _ _ _ _ us hl => match us, hl with | [_, _], _ => rfl
    a_without := He.ga K "without"
    x_without := x_without
    f_without := F_without
    g_without := g_without
    b_without := FunD.bindsN (ps := ["first", "second"]) F_without fun _ _ _ _ _ _ us hl => match us, hl with | [_, _], _ => rfl
    a_tidied := He.ga K "tidied"
    x_tidied := x_tidied
    f_tidied := F_tidied
    g_tidied := g_tidied
    b_tidied := FunD.bindsN (ps := ["pieces"]) F_tidied fun _ _ _ _ _ _ us hl => match us, hl with | [_], _ => rfl
    a_from_day := He.ga K "from_day"
    x_from_day := x_from_day
    f_from_day := F_from_day
    g_from_day := g_from_day
    b_from_day := FunD.bindsN (ps := ["start", "period", "residues"]) F_from_day fun _ _ _ _ _ _ us hl => match us, hl with | [_, _, _], _ => rfl
    a_windows := He.ga K "windows"
    x_windows := x_windows
    f_windows := F_windows
    g_windows := g_windows
    b_windows := FunD.bindsN (ps := ["pattern"]) F_windows fun _ _ _ _ _ _ us hl => match us, hl with | [_], _ => rfl
    a_next_from := He.ga K "next_from"
    x_next_from := x_next_from
    f_next_from := F_next_from
    g_next_from := g_next_from
    b_next_from := FunD.bindsN (ps := ["pattern", "day"]) F_next_from fun _ _ _ _ _ _ us hl => match us, hl with | [_, _], _ => rfl
    a_nth_of := He.ga K "nth_of"
    x_nth_of := x_nth_of
    f_nth_of := F_nth_of
    g_nth_of := g_nth_of
    b_nth_of := FunD.bindsN (ps := ["pattern", "k"]) F_nth_of fun _ _ _ _ _ _ us hl => match us, hl with | [_, _], _ => rfl
    a_overlaps := He.ga K "overlaps"
    x_overlaps := x_overlaps
    f_overlaps := F_overlaps
    g_overlaps := g_overlaps
    b_overlaps := FunD.bindsN (ps := ["first", "second"]) F_overlaps fun _ _ _ _ _ _ us hl => match us, hl with | [_, _], _ => rfl
    a_within_stretch := He.ga K "within_stretch"
    x_within_stretch := x_within_stretch
    f_within_stretch := F_within_stretch
    g_within_stretch := g_within_stretch
    b_within_stretch := FunD.bindsN (ps := ["start", "end", "kind"]) F_within_stretch fun _ _ _ _ _ _ us hl => match us, hl with | [_, _, _], _ => rfl
    a_short_stretch := He.ga K "short_stretch"
    x_short_stretch := x_short_stretch
    f_short_stretch := F_short_stretch
    g_short_stretch := g_short_stretch
    b_short_stretch := FunD.bindsN (ps := ["way", "start", "end", "a", "b"]) F_short_stretch fun _ _ _ _ _ _ us hl => match us, hl with | [_, _, _, _, _], _ => rfl
    a_put_together := He.ga K "put_together"
    x_put_together := x_put_together
    f_put_together := F_put_together
    g_put_together := g_put_together
    b_put_together := FunD.bindsN (ps := ["way", "first", "second"]) F_put_together fun _ _ _ _ _ _ us hl => match us, hl with | [_, _, _], _ => rfl
    a_union := He.ga K "union"
    x_union := x_union
    f_union := F_union
    g_union := g_union
    b_union := FunD.bindsN (ps := ["first", "second"]) F_union fun _ _ _ _ _ _ us hl => match us, hl with | [_, _], _ => rfl
    a_minus := He.ga K "minus"
    x_minus := x_minus
    f_minus := F_minus
    g_minus := g_minus
    b_minus := FunD.bindsN (ps := ["first", "second"]) F_minus fun _ _ _ _ _ _ us hl => match us, hl with | [_, _], _ => rfl
    a_limited := He.ga K "limited"
    x_limited := x_limited
    f_limited := F_limited
    g_limited := g_limited
    b_limited := FunD.bindsN (ps := ["pattern", "first", "end"]) F_limited fun _ _ _ _ _ _ us hl => match us, hl with | [_, _, _], _ => rfl
    a_within := He.ga K "within"
    x_within := x_within
    f_within := F_within
    g_within := g_within
    b_within := FunD.bindsN (ps := ["first", "second"]) F_within fun _ _ _ _ _ _ us hl => match us, hl with | [_, _], _ => rfl
    a_unit_of := He.ga K "unit_of"
    x_unit_of := x_unit_of
    f_unit_of := F_unit_of
    g_unit_of := g_unit_of
    b_unit_of := FunD.bindsN (ps := ["kind"]) F_unit_of fun _ _ _ _ _ _ us hl => match us, hl with | [_], _ => rfl
    a_ascending := He.ga K "ascending"
    x_ascending := x_ascending
    f_ascending := F_ascending
    g_ascending := g_ascending
    b_ascending := FunD.bindsN (ps := ["numbers", "least", "most"]) F_ascending fun _ _ _ _ _ _ us hl => match us, hl with | [_, _, _], _ => rfl
    a_picks_fit := He.ga K "picks_fit"
    x_picks_fit := x_picks_fit
    f_picks_fit := F_picks_fit
    g_picks_fit := g_picks_fit
    b_picks_fit := FunD.bindsN (ps := ["kind", "picks"]) F_picks_fit fun _ _ _ _ _ _ us hl => match us, hl with | [_, _], _ => rfl
    a_rule_fits := He.ga K "rule_fits"
    x_rule_fits := x_rule_fits
    f_rule_fits := F_rule_fits
    g_rule_fits := g_rule_fits
    b_rule_fits := FunD.bindsN (ps := ["rule"]) F_rule_fits fun _ _ _ _ _ _ us hl => match us, hl with | [_], _ => rfl
    a_turns_of := He.ga K "turns_of"
    x_turns_of := x_turns_of
    f_turns_of := F_turns_of
    g_turns_of := g_turns_of
    b_turns_of := FunD.bindsN (ps := ["rule"]) F_turns_of fun _ _ _ _ _ _ us hl => match us, hl with | [_], _ => rfl
    a_unfolded := He.ga K "unfolded"
    x_unfolded := x_unfolded
    f_unfolded := F_unfolded
    g_unfolded := g_unfolded
    b_unfolded := FunD.bindsN (ps := ["rule"]) F_unfolded fun _ _ _ _ _ _ us hl => match us, hl with | [_], _ => rfl
    a_first_difference := He.ga K "first_difference"
    x_first_difference := x_first_difference
    f_first_difference := F_first_difference
    g_first_difference := g_first_difference
    b_first_difference := FunD.bindsN (ps := ["first", "second"]) F_first_difference fun _ _ _ _ _ _ us hl => match us, hl with | [_, _], _ => rfl
    a_same_days := He.ga K "same_days"
    x_same_days := x_same_days
    f_same_days := F_same_days
    g_same_days := g_same_days
    b_same_days := FunD.bindsN (ps := ["rule", "other"]) F_same_days fun _ _ _ _ _ _ us hl => match us, hl with | [_, _], _ => rfl
    a_implied_by := He.ga K "implied_by"
    x_implied_by := x_implied_by
    f_implied_by := F_implied_by
    g_implied_by := g_implied_by
    b_implied_by := FunD.bindsN (ps := ["rule", "rules"]) F_implied_by fun _ _ _ _ _ _ us hl => match us, hl with | [_, _], _ => rfl
    a_needed_rules := He.ga K "needed_rules"
    x_needed_rules := x_needed_rules
    f_needed_rules := F_needed_rules
    g_needed_rules := g_needed_rules
    b_needed_rules := FunD.bindsN (ps := ["rules"]) F_needed_rules fun _ _ _ _ _ _ us hl => match us, hl with | [_], _ => rfl
    a__law_draw := He.ga K "_law_draw"
    x__law_draw := x__law_draw
    f__law_draw := F__law_draw
    g__law_draw := g__law_draw
    b__law_draw := FunD.bindsN (ps := ["tape", "many"]) F__law_draw fun _ _ _ _ _ _ us hl => match us, hl with | [_, _], _ => rfl
    a__law_tape := He.ga K "_law_tape"
    x__law_tape := x__law_tape
    f__law_tape := F__law_tape
    g__law_tape := g__law_tape
    b__law_tape := FunD.bindsN (ps := ["script"]) F__law_tape fun _ _ _ _ _ _ us hl => match us, hl with | [_], _ => rfl
    a__law_same := He.ga K "_law_same"
    x__law_same := x__law_same
    f__law_same := F__law_same
    g__law_same := g__law_same
    b__law_same := FunD.bindsN (ps := ["told", "due"]) F__law_same fun _ _ _ _ _ _ us hl => match us, hl with | [_, _], _ => rfl
    a__law_mod := He.ga K "_law_mod"
    x__law_mod := x__law_mod
    f__law_mod := F__law_mod
    g__law_mod := g__law_mod
    b__law_mod := FunD.bindsN (ps := ["a", "n"]) F__law_mod fun _ _ _ _ _ _ us hl => match us, hl with | [_, _], _ => rfl
    a__law_ascending := He.ga K "_law_ascending"
    x__law_ascending := x__law_ascending
    f__law_ascending := F__law_ascending
    g__law_ascending := g__law_ascending
    b__law_ascending := FunD.bindsN (ps := ["tape", "least", "many"]) F__law_ascending fun _ _ _ _ _ _ us hl => match us, hl with | [_, _, _], _ => rfl
    a__law_rule_end := He.ga K "_law_rule_end"
    x__law_rule_end := x__law_rule_end
    f__law_rule_end := F__law_rule_end
    g__law_rule_end := g__law_rule_end
    b__law_rule_end := FunD.bindsN (ps := ["tape", "first"]) F__law_rule_end fun _ _ _ _ _ _ us hl => match us, hl with | [_, _], _ => rfl
    a__law_turns := He.ga K "_law_turns"
    x__law_turns := x__law_turns
    f__law_turns := F__law_turns
    g__law_turns := g__law_turns
    b__law_turns := FunD.bindsN (ps := ["rule", "begin", "end"]) F__law_turns fun _ _ _ _ _ _ us hl => match us, hl with | [_, _, _], _ => rfl
    a__law_rule_days := He.ga K "_law_rule_days"
    x__law_rule_days := x__law_rule_days
    f__law_rule_days := F__law_rule_days
    g__law_rule_days := g__law_rule_days
    b__law_rule_days := FunD.bindsN (ps := ["rule", "end"]) F__law_rule_days fun _ _ _ _ _ _ us hl => match us, hl with | [_, _], _ => rfl
    a__law_small_rule := He.ga K "_law_small_rule"
    x__law_small_rule := x__law_small_rule
    f__law_small_rule := F__law_small_rule
    g__law_small_rule := g__law_small_rule
    b__law_small_rule := FunD.bindsN (ps := ["tape", "most"]) F__law_small_rule fun _ _ _ _ _ _ us hl => match us, hl with | [_, _], _ => rfl
    a__law_twin := He.ga K "_law_twin"
    x__law_twin := x__law_twin
    f__law_twin := F__law_twin
    g__law_twin := g__law_twin
    b__law_twin := FunD.bindsN (ps := ["tape", "rule"]) F__law_twin fun _ _ _ _ _ _ us hl => match us, hl with | [_, _], _ => rfl
    a__law_flags := He.ga K "_law_flags"
    x__law_flags := x__law_flags
    f__law_flags := F__law_flags
    g__law_flags := g__law_flags
    b__law_flags := FunD.bindsN (ps := ["rule", "end"]) F__law_flags fun _ _ _ _ _ _ us hl => match us, hl with | [_, _], _ => rfl
    a__law_lost := He.ga K "_law_lost"
    x__law_lost := x__law_lost
    f__law_lost := F__law_lost
    g__law_lost := g__law_lost
    b__law_lost := FunD.bindsN (ps := ["flags", "k", "places", "end"]) F__law_lost fun _ _ _ _ _ _ us hl => match us, hl with | [_, _, _, _], _ => rfl
    a_law := He.ga K "law"
    x_law := x_law
    f_law := F_law
    g_law := g_law
    b_law := FunD.bindsN (ps := ["script"]) F_law fun _ _ _ _ _ _ us hl => match us, hl with | [_], _ => rfl
    t_RESIDUES_MOST := t_RESIDUES_MOST
    g_RESIDUES_MOST := g_RESIDUES_MOST
    a_EMPTY := He.ga K "EMPTY"
    g_EMPTY := g_EMPTY
    d0_EMPTY := fun S => tabB_ok e_EMPTY S
    t_CYCLE_MONTHS := t_CYCLE_MONTHS
    g_CYCLE_MONTHS := g_CYCLE_MONTHS
    t_CYCLE_DAYS := t_CYCLE_DAYS
    g_CYCLE_DAYS := g_CYCLE_DAYS
    a_LENGTHS := He.ga K "LENGTHS"
    g_LENGTHS := g_LENGTHS
    d0_LENGTHS := fun S => tabB_ok e_LENGTHS S
    a_BEFORE := He.ga K "BEFORE"
    g_BEFORE := g_BEFORE
    d0_BEFORE := fun S => tabB_ok e_BEFORE S
    t_JULIAN_MONTHS := t_JULIAN_MONTHS
    g_JULIAN_MONTHS := g_JULIAN_MONTHS
    t_JULIAN_DAYS := t_JULIAN_DAYS
    g_JULIAN_DAYS := g_JULIAN_DAYS
    a_JULIAN_LENGTHS := He.ga K "JULIAN_LENGTHS"
    g_JULIAN_LENGTHS := g_JULIAN_LENGTHS
    d0_JULIAN_LENGTHS := fun S => tabB_ok e_JULIAN_LENGTHS S
    a_JULIAN_BEFORE := He.ga K "JULIAN_BEFORE"
    g_JULIAN_BEFORE := g_JULIAN_BEFORE
    d0_JULIAN_BEFORE := fun S => tabB_ok e_JULIAN_BEFORE S
    t_JULIAN_BEGIN := t_JULIAN_BEGIN
    g_JULIAN_BEGIN := g_JULIAN_BEGIN
    t_MOON_MONTHS := t_MOON_MONTHS
    g_MOON_MONTHS := g_MOON_MONTHS
    t_MOON_DAYS := t_MOON_DAYS
    g_MOON_DAYS := g_MOON_DAYS
    t_MOON_BEGIN := t_MOON_BEGIN
    g_MOON_BEGIN := g_MOON_BEGIN
    t_INTERVAL_MOST := t_INTERVAL_MOST
    g_INTERVAL_MOST := g_INTERVAL_MOST
    t_PICKS_MOST := t_PICKS_MOST
    g_PICKS_MOST := g_PICKS_MOST
    t_COUNT_MOST := t_COUNT_MOST
    g_COUNT_MOST := g_COUNT_MOST
    m_all := m_all
    m_bool := m_bool
    m_enumerate := m_enumerate
    m_int := m_int
    m_isinstance := m_isinstance
    m_len := m_len
    m_list := m_list
    m_max := m_max
    m_min := m_min
    m_range := m_range
    m_set := m_set
    m_sorted := m_sorted
    m_tuple := m_tuple
    g_gcd := PySem.W.mg_of X G (He.eqO_ok i_gcd)
    g_lcm := PySem.W.mg_of X G (He.eqO_ok i_lcm) }
  have b := FunD.bindsA (ps := ["script"]) F_law fun _ _ _ _ _ _ us hl => match us, hl with | [_], _ => rfl
  exact ⟨x_law, fun s v => b s [v] rfl, fun base _ _ => ok_law T⟩
end Lw
open PySem PySem.W PySem.Calls PyProof.Rows
set_option maxHeartbeats 0 in
theorem PySem.Challenge.cw_everdays_k25_rules_compared_holds : PySem.Challenge.rw_everdays_k25_rules_compared.Holds := by
  w_on; o_law
  refine HandSHeadRun.head_imp (r := OpenLaw.row PySem.Challenge.rw_everdays_k25_rules_compared) (q := view (OpenLaw.row PySem.Challenge.rw_everdays_k25_rules_compared).prog [0, 117]) (H := Lw.hk) (ob := Lw.headOb) (M := 13080) (loose := Lw.loose) (d := HandSHeadRun.topDef (OpenLaw.row PySem.Challenge.rw_everdays_k25_rules_compared).prog 117) (kwd := []) Lw.headOb_eq
    Lw.run (by kernel_rfl) (by kernel_rfl) (by kernel_rfl) (by rfl) (by first | assumption | decide +kernel) (by decide +kernel) ⟨rfl, rfl, rfl, rfl, rfl, by decide +kernel⟩ ?hw ?hc
  case hw => w_witness2
  case hc =>
    refine L2.walk_ofE (l := PySem.Challenge.rw_everdays_k25_rules_compared) (n := 63) (k := 10) (x := "script") (CX := L2.CX0) rfl (by decide) (by kernel_rfl) ⟨rfl, by decide, by decide⟩ ?F (fun _ _ _ _ z => z)
    intro w mg fa h Y G hmg0
    obtain ⟨K, KX, c⟩ := Y
    have hmg : mg ("law" : PySem.Str) = some (.ref fa) := by
      have e : (HandSHeadRun.topDef (OpenLaw.row PySem.Challenge.rw_everdays_k25_rules_compared).prog 117).name = ("law" : PySem.Str) := by kernel_rfl
      rw [← e]
      exact hmg0
    obtain ⟨fd, hb, hF⟩ := Lw.facts (P := (PySem.Challenge.rw_everdays_k25_rules_compared).prog) (w := w) KX G hmg c
    exact ⟨K, fd, PL.spLaw K, KX, hb, fun H a ns hl _ hS => ⟨a, ns, rfl, hS, fun _ => rfl⟩, hF⟩
