import PyProof.Rows.All
import Wide.All
import OpenK.AllK
import Wide.FinOn
import HandS.ForMost
import HandS.ForExc
import HandS.Wide
import HandS.IsInst
import HandS.Deep
import HandS.Flow
import HandS.TupAny
import HandS.SortInts
import HandS.Gcd
import HandS.Conv
import HandS.Defaults
import HandS.Head0
import HandS.Head1
import HandS.Head2
import HandS.HeadEnd
import HandS.HeadHook1
import HandS.HeadHook2
import HandS.TryOnly
import HandS.SetFor
import HandS.ExcOwn
import HandS.WordsExc
import HandS.Iter
import KE.GoesEnum
import HandS.Strs
import HandS.SetFor
import KE.SortData
import HandS.SetKeys
import HandS.MakeKwOnly
import HandS.Codes
import HandS.DictTup
import HandS.Comp
import HandS.Steps
import PySem.Challenge.RW_everdays_k55_who_sees_what
set_option Elab.async false
set_option linter.all false
set_option maxRecDepth 100000
set_option maxHeartbeats 8000000
/-! A layer of pure data over HandS: slots hold values (data without addresses) or lists of one's own; readings speak of data alone. -/
namespace PL
open PySem PySem.Spec PyProof.Rows L2

/-! ### data -/
inductive D where
  | non | bl (b : Bool) | int (i : Int) | str (x : Str) | tup (xs : List D) | lst (xs : List D) | ref (a : Addr) | ty (n : String) | set (f : Int → Bool) (n : Nat) | dic (ks : List Key) (xs : List D) | obj (c : Str) (fs : List Str) (xs : List D)
abbrev Fg := PySem.W.Frag
abbrev St := L2.St
mutual
inductive Rp (K : Fg) (S : Hp) : V → D → Prop
  | non : Rp K S .non .non
  | bl (b : Bool) : Rp K S (.bl b) (.bl b)
  | int (i : Int) : Rp K S (.int i) (.int i)
  | str (x : Str) : Rp K S (.str x) (.str x)
  | ty (n : String) : Rp K S (.ty n) (.ty n)
  | ref (a : Addr) : Rp K S (.ref a) (.ref a)
  | lst {a : Addr} {xs : List V} {ds : List D} : S a = some (.lst xs) → RpA K S xs ds → Rp K S (.ref a) (.lst ds)
  | tup {a : Addr} {xs : List V} {ds : List D} : SqT K S a xs → RpA K S xs ds → Rp K S (.ref a) (.tup ds)
  | set {a : Addr} {f : Int → Bool} {n : Nat} : S a = some (.set f n) → Rp K S (.ref a) (.set f n)
  | dic {a : Addr} {o : Obj} {ks : List Key} {xs : List V} {ds : List D} : S a = some (.frz o (.dK (ks.zip xs))) → ks.length = xs.length → RpA K S xs ds → Rp K S (.ref a) (.dic ks ds)
  | obj {a dx : Addr} {c : Str} {fs : List Str} {xs : List V} {ds : List D} : S a = some (.ins (He.ga K c) dx (fs.zip xs)) → fs.length = xs.length → fs.Nodup → RpA K S xs ds → Rp K S (.ref a) (.obj c fs ds)
inductive RpA (K : Fg) (S : Hp) : List V → List D → Prop
  | nil : RpA K S [] []
  | cons {v : V} {vs : List V} {d : D} {ds : List D} : Rp K S v d → RpA K S vs ds → RpA K S (v :: vs) (d :: ds)
end
theorem same_seqT {K : Fg} {H H' : Hp} {a : Addr} {xs : List V} (e : Same H H') (h : SqT K H a xs) : SqT K H' a xs := by
  rcases h with (h | ⟨o, h⟩) | h
  · exact .inl (.inl (e _ _ h))
  · exact .inl (.inr ⟨o, e _ _ h⟩)
  · exact .inr h
mutual
theorem Rp.ext {K : Fg} {S S' : Hp} (e : Same S S') : ∀ (d : D) (v : V), Rp K S v d → Rp K S' v d
  | .non, _, h => by cases h; exact .non
  | .bl b, _, h => by cases h; exact .bl b
  | .int i, _, h => by cases h; exact .int i
  | .str x, _, h => by cases h; exact .str x
  | .ty n, _, h => by cases h; exact .ty n
  | .ref a, _, h => by cases h; exact .ref a
  | .lst ds, _, h => by cases h with | lst a b => exact .lst (e _ _ a) (RpA.ext e ds _ b)
  | .tup ds, _, h => by cases h with | tup a b => exact .tup (same_seqT e a) (RpA.ext e ds _ b)
  | .set f n, _, h => by cases h with | set a => exact .set (e _ _ a)
  | .dic ks ds, _, h => by cases h with | dic a l b => exact .dic (e _ _ a) l (RpA.ext e ds _ b)
  | .obj c fs ds, _, h => by cases h with | obj a l n b => exact .obj (e _ _ a) l n (RpA.ext e ds _ b)
theorem RpA.ext {K : Fg} {S S' : Hp} (e : Same S S') : ∀ (ds : List D) (vs : List V), RpA K S vs ds → RpA K S' vs ds
  | [], _, h => by cases h; exact .nil
  | d :: ds, _, h => by cases h with | cons a b => exact .cons (Rp.ext e d _ a) (RpA.ext e ds _ b)
end
section
variable {K : Fg} {S : Hp}
theorem RpA.length : ∀ {ds : List D} {vs : List V}, RpA K S vs ds → vs.length = ds.length
  | [], _, h => by cases h; rfl
  | d :: ds, _, h => by cases h with | cons a b => rw [List.length_cons, List.length_cons, RpA.length b]
theorem RpA.get : ∀ {ds : List D} {vs : List V} {i : Nat} {d : D}, RpA K S vs ds → ds[i]? = some d → ∃ v, vs[i]? = some v ∧ Rp K S v d
  | [], _, _, _, _, e => by simp at e
  | c :: ds, _, 0, d, h, e => by cases h with | cons a b => simp at e; subst e; exact ⟨_, rfl, a⟩
  | c :: ds, _, i + 1, d, h, e => by
    cases h with
    | cons a b =>
      obtain ⟨v, h1, h2⟩ := RpA.get (i := i) b (by simpa using e)
      exact ⟨v, by simpa using h1, h2⟩
theorem RpA.append : ∀ {ds : List D} {vs : List V} {es : List D} {us : List V}, RpA K S vs ds → RpA K S us es → RpA K S (vs ++ us) (ds ++ es)
  | [], _, _, _, h, k => by cases h; exact k
  | d :: ds, _, _, _, h, k => by cases h with | cons a b => exact .cons a (b.append k)
theorem RpA.one {v : V} {d : D} (h : Rp K S v d) : RpA K S [v] [d] := .cons h .nil
theorem RpA.set : ∀ {ds : List D} {vs : List V} {i : Nat} {v : V} {d : D}, RpA K S vs ds → Rp K S v d → RpA K S (vs.set i v) (ds.set i d)
  | [], _, _, _, _, h, _ => by cases h; exact .nil
  | c :: ds, _, 0, _, _, h, k => by cases h with | cons a b => exact .cons k b
  | c :: ds, _, i + 1, _, _, h, k => by cases h with | cons a b => exact .cons a (b.set k)
theorem RpA.take : ∀ {ds : List D} {vs : List V} (n : Nat), RpA K S vs ds → RpA K S (vs.take n) (ds.take n)
  | [], _, n, h => by cases h; simp; exact .nil
  | c :: ds, _, 0, h => by simp; exact .nil
  | c :: ds, _, n + 1, h => by cases h with | cons a b => exact .cons a (b.take n)
theorem RpA.drop : ∀ {ds : List D} {vs : List V} (n : Nat), RpA K S vs ds → RpA K S (vs.drop n) (ds.drop n)
  | [], _, n, h => by cases h; simp; exact .nil
  | c :: ds, _, 0, h => h
  | c :: ds, _, n + 1, h => by cases h with | cons a b => exact b.drop n
theorem RpA.ints : ∀ {ns : List Int}, RpA K S (ns.map V.int) (ns.map D.int)
  | [] => .nil
  | n :: ns => .cons (.int n) RpA.ints
theorem RpA.intsV : ∀ {ns : List Int} {vs : List V}, RpA K S vs (ns.map D.int) → vs = ns.map V.int
  | [], _, h => by cases h; rfl
  | n :: ns, _, h => by cases h with | cons a b => cases a; rw [RpA.intsV b]; rfl
theorem RpA.blsV : ∀ {ns : List Bool} {vs : List V}, RpA K S vs (ns.map D.bl) → vs = ns.map V.bl
  | [], _, h => by cases h; rfl
  | n :: ns, _, h => by cases h with | cons a b => cases a; rw [RpA.blsV b]; rfl
end

/-- a dict's rows, key by key -/
inductive KP {κ : Type} (K : Fg) (S : Hp) : List (κ × V) → List (κ × D) → Prop
  | nil : KP K S [] []
  | cons {k : κ} {v : V} {d : D} {kvs : List (κ × V)} {kds : List (κ × D)} : Rp K S v d → KP K S kvs kds → KP K S ((k, v) :: kvs) ((k, d) :: kds)
theorem KP.ext {κ : Type} {K : Fg} {S S' : Hp} (e : Same S S') {kvs : List (κ × V)} {kds : List (κ × D)} (h : KP K S kvs kds) : KP K S' kvs kds := by
  induction h with
  | nil => exact .nil
  | cons a _ ih => exact .cons (Rp.ext e _ _ a) ih
theorem KP.length {κ : Type} {K : Fg} {S : Hp} {kvs : List (κ × V)} {kds : List (κ × D)} (h : KP K S kvs kds) : kvs.length = kds.length := by
  induction h with
  | nil => rfl
  | cons _ _ ih => rw [List.length_cons, List.length_cons, ih]
/-! ### what stands in a slot; what may be changed -/
inductive Ow where
  | lst (ds : List D)
def Ow.toD : Ow → D
  | .lst ds => .lst ds
def OwOk (K : Fg) (S H : Hp) (a : Addr) : Ow → Prop
  | .lst ds => ∃ xs, H a = some (.lst xs) ∧ RpA K S xs ds
inductive Sl where
  | un | va (d : D) | ow (o : Ow)
def Sl.val : Sl → D
  | .un => .non
  | .va d => d
  | .ow o => o.toD
/-- objects known by their address: the law's tape, a list that several hold -/
inductive MO where
  | tape | lst (ds : List D) | ins (c : Str) (fs : List Str) (ds : List D) | dic (l : List (Key × D)) | dit (l : List (List Key × D)) | dicL (o : Obj) (kvs : List (Key × V)) (l : List (Key × D)) | ditL (o : Obj) (kvs : List (List Key × V)) (l : List (List Key × D))
def MOk (K : Fg) (S H : Hp) (a : Addr) : MO → Prop
  | .tape => ∃ c ns k x, H a = some (.lst [.ref c, .int k, .int x]) ∧ S c = some (.lst (List.map V.int ns)) ∧ (0 : Int) ≤ k ∧ (0 : Int) ≤ x
  | .lst ds => ∃ xs, H a = some (.lst xs) ∧ RpA K S xs ds
  | .ins c fs ds => ∃ dx xs, H a = some (.ins (He.ga K c) dx (fs.zip xs)) ∧ fs.length = xs.length ∧ fs.Nodup ∧ RpA K S xs ds
  | .dic l => ∃ kvs, H a = some (.dK kvs) ∧ KP K S kvs l
  | .dit l => ∃ kvs, H a = some (.dT kvs) ∧ KP K S kvs l
  | .dicL o kvs l => H a = some (.frz o (.dK kvs)) ∧ KP K S kvs l
  | .ditL o kvs l => H a = some (.frz o (.dT kvs)) ∧ KP K S kvs l
abbrev Mu := List (Addr × MO)
abbrev Ev := List Sl
theorem MOk.at {K : Fg} {S H : Hp} {a : Addr} : ∀ {o : MO}, MOk K S H a o → ∃ u, H a = some u
  | .tape, ⟨_, _, _, _, e, _⟩ => ⟨_, e⟩
  | .lst _, ⟨_, e, _⟩ => ⟨_, e⟩
  | .ins _ _ _, ⟨_, _, e, _⟩ => ⟨_, e⟩
  | .dic _, ⟨_, e, _⟩ => ⟨_, e⟩
  | .dit _, ⟨_, e, _⟩ => ⟨_, e⟩
  | .dicL _ _ _, ⟨e, _⟩ => ⟨_, e⟩
  | .ditL _ _ _, ⟨e, _⟩ => ⟨_, e⟩
theorem OwOk.at {K : Fg} {S H : Hp} {a : Addr} : ∀ {o : Ow}, OwOk K S H a o → ∃ u, H a = some u
  | .lst _, ⟨_, e, _⟩ => ⟨_, e⟩
theorem MOk.ext {K : Fg} {S H S' H' : Hp} {a : Addr} (e : Same S S') (k : H' a = H a) : ∀ {o : MO}, MOk K S H a o → MOk K S' H' a o
  | .tape, ⟨c, ns, i, x, h, q, r⟩ => ⟨c, ns, i, x, k.trans h, e _ _ q, r⟩
  | .lst _, ⟨xs, h, q⟩ => ⟨xs, k.trans h, RpA.ext e _ _ q⟩
  | .ins _ _ _, ⟨dx, xs, h, l, n, q⟩ => ⟨dx, xs, k.trans h, l, n, RpA.ext e _ _ q⟩
  | .dic _, ⟨kvs, h, q⟩ => ⟨kvs, k.trans h, q.ext e⟩
  | .dit _, ⟨kvs, h, q⟩ => ⟨kvs, k.trans h, q.ext e⟩
  | .dicL _ _ _, ⟨h, q⟩ => ⟨k.trans h, q.ext e⟩
  | .ditL _ _ _, ⟨h, q⟩ => ⟨k.trans h, q.ext e⟩
theorem OwOk.ext {K : Fg} {S H S' H' : Hp} {a : Addr} (e : Same S S') (k : H' a = H a) : ∀ {o : Ow}, OwOk K S H a o → OwOk K S' H' a o
  | .lst _, ⟨xs, h, q⟩ => ⟨xs, k.trans h, RpA.ext e _ _ q⟩

/-- what an expression, a call may do: objects known by address change, all else stands, new things come -/
structure Step (S : Hp) (M : Mu) (H S' : Hp) (M' : Mu) (H' : Hp) : Prop where
  same : Same S S'
  keep : ∀ b o, H b = some o → (∀ p ∈ M, p.1 ≠ b) → H' b = some o
  mnew : ∀ p ∈ M', (∃ q ∈ M, q.1 = p.1) ∨ H p.1 = none
  dom : ∀ b, H b ≠ none → H' b ≠ none
section
variable {S S1 S2 S' H H1 H2 H' : Hp} {M M1 M2 M' : Mu}
theorem Step.refl : Step S M H S M H := ⟨.refl _, fun _ _ h _ => h, fun p hp => .inl ⟨p, hp, rfl⟩, fun _ h => h⟩
theorem Step.trans (a : Step S M H S1 M1 H1) (b : Step S1 M1 H1 S2 M2 H2) : Step S M H S2 M2 H2 := by
  refine ⟨a.same.trans b.same, fun c o h n => ?_, fun p hp => ?_, fun c h => b.dom c (a.dom c h)⟩
  · refine b.keep c o (a.keep c o h n) fun p hp e => ?_
    rcases a.mnew p hp with ⟨q, hq, e2⟩ | e2
    · exact n q hq (e2.trans e)
    · rw [e, h] at e2; cases e2
  · rcases b.mnew p hp with ⟨q, hq, e⟩ | e
    · rcases a.mnew q hq with ⟨r, hr, e2⟩ | e2
      · exact .inl ⟨r, hr, e2.trans e⟩
      · exact .inr (e ▸ e2)
    · refine .inr ?_
      cases h : H p.1 with
      | none => rfl
      | some o => exact absurd e (a.dom p.1 (by rw [h]; simp))
/-- new things alone -/
theorem Step.grow (hS : Same S S') (hH : Same H H') : Step S M H S' M H' :=
  ⟨hS, fun b o h _ => hH b o h, fun p hp => .inl ⟨p, hp, rfl⟩, fun b h => by
    cases e : H b with
    | none => exact absurd e h
    | some o => rw [hH b o e]; simp⟩
end

/-- a def's call: its written part, its entry -/
structure Z where
  K : Fg
  H0 : Hp
  S0 : Hp
  M0 : Mu
  /-- what is not to be known (a comprehension's list) -/
  R : Addr → Prop := fun _ => False
/-- new, and to be known -/
def Z.Nw (z : Z) (a : Addr) : Prop := z.H0 a = none ∧ ¬ z.R a
structure Core (z : Z) (S : Hp) (M : Mu) (H : Hp) : Prop where
  step : Step z.S0 z.M0 z.H0 S M H
  sub : Same S H
  frS : ∀ b, S b ≠ none → z.S0 b ≠ none ∨ z.H0 b = none
  mu : ∀ p ∈ M, S p.1 = none ∧ MOk z.K S H p.1 p.2
  mnd : (M.map (·.1)).Nodup
  rsv : ∀ b, z.R b → S b = none ∧ H b ≠ none ∧ ∀ p ∈ M, p.1 ≠ b
structure Sim (z : Z) (S : Hp) (M : Mu) (ρ : Ev) (σ : St) (H : Hp) : Prop extends Core z S M H where
  len : σ.length = ρ.length
  va : ∀ (i : Nat) d, ρ[i]? = some (.va d) → ∃ v, σ[i]? = some (some v) ∧ Rp z.K S v d
  ow : ∀ (i : Nat) o, ρ[i]? = some (.ow o) → ∃ a, σ[i]? = some (some (.ref a)) ∧ S a = none ∧ z.Nw a ∧ OwOk z.K S H a o ∧ ∀ p ∈ M, p.1 ≠ a
  sep : ∀ (i j : Nat) o o' a, ρ[i]? = some (.ow o) → ρ[j]? = some (.ow o') → σ[i]? = some (some (.ref a)) → σ[j]? = some (some (.ref a)) → i = j
/-- an expression's value -/
def ResE (z : Z) (S : Hp) (M : Mu) (ρ : Ev) (σ : St) (H : Hp) (v : V) : Sl → Prop
  | .un => False
  | .va d => Rp z.K S v d
  | .ow o => ∃ a, v = .ref a ∧ S a = none ∧ z.Nw a ∧ OwOk z.K S H a o ∧ (∀ p ∈ M, p.1 ≠ a) ∧ ∀ (i : Nat) o', ρ[i]? = some (.ow o') → σ[i]? ≠ some (some (.ref a))
/-- a def's value -/
def ResF (z : Z) (S : Hp) (M : Mu) (H : Hp) (v : V) : Sl → Prop
  | .un => False
  | .va d => Rp z.K S v d
  | .ow o => ∃ a, v = .ref a ∧ S a = none ∧ z.Nw a ∧ OwOk z.K S H a o ∧ (∀ p ∈ M, p.1 ≠ a)
/-- a value that is only looked at -/
def Rb (K : Fg) (S : Hp) (M : Mu) (H : Hp) (v : V) (d : D) : Prop :=
  Rp K S v d ∨ ∃ a xs ds, v = .ref a ∧ d = .lst ds ∧ H a = some (.lst xs) ∧ RpA K S xs ds ∧ ∀ p ∈ M, p.1 ≠ a
theorem ResE.f {z : Z} {S : Hp} {M : Mu} {ρ : Ev} {σ : St} {H : Hp} {v : V} {r : Sl} (h : ResE z S M ρ σ H v r) : ResF z S M H v r := by
  cases r with
  | un => exact h
  | va d => exact h
  | ow o => obtain ⟨a, h1, h2, h3, h4, h5, _⟩ := h; exact ⟨a, h1, h2, h3, h4, h5⟩
theorem ResE.rb {z : Z} {S : Hp} {M : Mu} {ρ : Ev} {σ : St} {H : Hp} {v : V} {r : Sl} (h : ResE z S M ρ σ H v r) : Rb z.K S M H v r.val := by
  cases r with
  | un => exact h.elim
  | va d => exact .inl h
  | ow o =>
    cases o with
    | lst ds => obtain ⟨a, h1, h2, h3, ⟨xs, h4, h6⟩, h5, _⟩ := h; exact .inr ⟨a, xs, ds, h1, rfl, h4, h6, h5⟩
theorem Rb.step {K : Fg} {S S' : Hp} {M M' : Mu} {H H' : Hp} {v : V} {d : D} (h : Rb K S M H v d) (t : Step S M H S' M' H') : Rb K S' M' H' v d := by
  rcases h with h | ⟨a, xs, ds, h1, h2, h3, h4, h5⟩
  · exact .inl (Rp.ext t.same _ _ h)
  · refine .inr ⟨a, xs, ds, h1, h2, t.keep a _ h3 h5, RpA.ext t.same _ _ h4, fun p hp e => ?_⟩
    rcases t.mnew p hp with ⟨q, hq, e2⟩ | e2
    · exact h5 q hq (e2.trans e)
    · rw [e, h3] at e2; cases e2

section
variable {z : Z} {S S' : Hp} {M M' : Mu} {ρ : Ev} {σ : St} {H H' : Hp} {v : V} {r : Sl}
theorem Core.h0 (h : Core z S M H) {b : Addr} (e : H b = none) : z.H0 b = none := by
  cases q : z.H0 b with
  | none => rfl
  | some o => exact absurd e (h.step.dom b (by rw [q]; simp))
theorem Core.sNone (h : Core z S M H) {b : Addr} (e : H b = none) : S b = none := by
  cases q : S b with
  | none => rfl
  | some o => rw [h.sub b o q] at e; cases e
theorem Core.grow (h : Core z S M H) (hS : Same S S') (hH : Same H H') (hSH : Same S' H') (fr : ∀ b, S' b ≠ none → S b ≠ none ∨ H b = none) : Core z S' M H' := by
  refine ⟨h.step.trans (.grow hS hH), hSH, fun b e => ?_, fun p hp => ?_, h.mnd, fun b hb => ?_⟩
  · rcases fr b e with e | e
    · exact h.frS b e
    · exact .inr (h.h0 e)
  · obtain ⟨a, b⟩ := h.mu p hp
    obtain ⟨u, hu⟩ := b.at
    refine ⟨?_, b.ext hS ((hH _ _ hu).trans hu.symm)⟩
    cases q : S' p.1 with
    | none => rfl
    | some o =>
      rcases fr p.1 (by rw [q]; simp) with e | e
      · exact absurd a e
      · rw [hu] at e; cases e
  · obtain ⟨r1, r2, r3⟩ := h.rsv b hb
    refine ⟨?_, ?_, r3⟩
    · cases q : S' b with
      | none => rfl
      | some o =>
        rcases fr b (by rw [q]; simp) with e | e
        · exact absurd r1 e
        · exact absurd e r2
    · cases e : H b with
      | none => exact absurd e r2
      | some o => rw [hH b o e]; simp
theorem Core.nw (h : Core z S M H) {b : Addr} (e : H b = none) : z.Nw b := ⟨h.h0 e, fun r => (h.rsv b r).2.1 e⟩
theorem Sim.grow (h : Sim z S M ρ σ H) (hS : Same S S') (hH : Same H H') (hSH : Same S' H') (fr : ∀ b, S' b ≠ none → S b ≠ none ∨ H b = none) : Sim z S' M ρ σ H' := by
  refine ⟨h.toCore.grow hS hH hSH fr, h.len, fun i d e => ?_, fun i o e => ?_, h.sep⟩
  · obtain ⟨v, a, b⟩ := h.va i d e
    exact ⟨v, a, Rp.ext hS _ _ b⟩
  · obtain ⟨a, h1, h2, h3, h4, h5⟩ := h.ow i o e
    obtain ⟨u, hu⟩ := h4.at
    refine ⟨a, h1, ?_, h3, h4.ext hS ((hH _ _ hu).trans hu.symm), h5⟩
    cases q : S' a with
    | none => rfl
    | some o =>
      rcases fr a (by rw [q]; simp) with e | e
      · exact absurd h2 e
      · rw [hu] at e; cases e
theorem same_upd {p : Addr} {o : HO} (hp : H p = none) : Same H (upd H p o) := fun b u e => by rw [upd_ne (ne_of_none e hp)]; exact e
/-- a new thing, known from now on -/
theorem Sim.alloc {p : Addr} {o : HO} (h : Sim z S M ρ σ H) (hp : H p = none) : Sim z (upd S p o) M ρ σ (upd H p o) ∧ Step S M H (upd S p o) M (upd H p o) := by
  have hs : S p = none := h.toCore.sNone hp
  refine ⟨h.grow (same_upd hs) (same_upd hp) (fun b u e => ?_) fun b e => ?_, .grow (same_upd hs) (same_upd hp)⟩
  · by_cases hb : b = p
    · subst hb; rw [upd_same] at e ⊢; exact e
    · rw [upd_ne hb] at e ⊢; exact h.sub b u e
  · by_cases hb : b = p
    · subst hb; exact .inr hp
    · rw [upd_ne hb] at e; exact .inl e
/-- a new thing that nothing is said of -/
theorem Sim.more {p : Addr} {o : HO} (h : Sim z S M ρ σ H) (hp : H p = none) : Sim z S M ρ σ (upd H p o) ∧ Step S M H S M (upd H p o) :=
  ⟨h.grow (.refl _) (same_upd hp) (h.sub.trans (same_upd hp)) fun b e => .inl e, .grow (.refl _) (same_upd hp)⟩
/-- a new list of one's own -/
theorem Sim.fresh {p : Addr} {xs : List V} {ds : List D} (h : Sim z S M ρ σ H) (hp : H p = none) (hr : RpA z.K S xs ds) :
    Sim z S M ρ σ (upd H p (.lst xs)) ∧ Step S M H S M (upd H p (.lst xs)) ∧ ResE z S M ρ σ (upd H p (.lst xs)) (.ref p) (.ow (.lst ds)) := by
  obtain ⟨a, b⟩ := h.more (o := .lst xs) hp
  refine ⟨a, b, p, rfl, h.toCore.sNone hp, h.toCore.nw hp, ⟨xs, upd_same, hr⟩, fun q hq e => ?_, fun i o' e q => ?_⟩
  · obtain ⟨u, hu⟩ := (h.mu q hq).2.at
    rw [e, hp] at hu; cases hu
  · obtain ⟨a, h1, _, _, h4, _⟩ := h.ow i o' e
    rw [q] at h1; cases h1
    obtain ⟨u, hu⟩ := h4.at
    rw [hp] at hu; cases hu
/-- an object of one's own is known from now on -/
theorem Sim.adopt {a : Addr} {o : HO} (h : Sim z S M ρ σ H) (ha : H a = some o) (hs : S a = none) (h0 : z.Nw a) (hm : ∀ p ∈ M, p.1 ≠ a) (hn : ∀ (i : Nat) o', ρ[i]? = some (.ow o') → σ[i]? ≠ some (some (.ref a))) :
    Sim z (upd S a o) M ρ σ H := by
  have hS : Same S (upd S a o) := same_upd hs
  refine ⟨⟨h.step.trans ⟨hS, fun _ _ e _ => e, fun p hp => .inl ⟨p, hp, rfl⟩, fun _ e => e⟩, fun b u e => ?_, fun b e => ?_, fun p hp => ?_, h.mnd, fun b hb => ?_⟩, h.len, fun i d e => ?_, fun i o' e => ?_, h.sep⟩
  · by_cases hb : b = a
    · subst hb; rw [upd_same] at e; cases e; exact ha
    · rw [upd_ne hb] at e; exact h.sub b u e
  · by_cases hb : b = a
    · subst hb; exact .inr h0.1
    · rw [upd_ne hb] at e; exact h.frS b e
  · obtain ⟨q, w⟩ := h.mu p hp
    exact ⟨by rw [upd_ne (hm p hp)]; exact q, w.ext hS rfl⟩
  · obtain ⟨r1, r2, r3⟩ := h.rsv b hb
    exact ⟨by rw [upd_ne (fun e : b = a => h0.2 (by rw [← e]; exact hb))]; exact r1, r2, r3⟩
  · obtain ⟨v, q, w⟩ := h.va i d e
    exact ⟨v, q, Rp.ext hS _ _ w⟩
  · obtain ⟨b, h1, h2, h3, h4, h5⟩ := h.ow i o' e
    refine ⟨b, h1, ?_, h3, h4.ext hS rfl, h5⟩
    rw [upd_ne (fun z => hn i o' e (by rw [← z]; exact h1))]
    exact h2
theorem Sim.freeze (h : Sim z S M ρ σ H) (hr : ResE z S M ρ σ H v r) : ∃ S', Sim z S' M ρ σ H ∧ Step S M H S' M H ∧ Rp z.K S' v r.val := by
  cases r with
  | un => exact hr.elim
  | va d => exact ⟨S, h, .refl, (show Rp z.K S v d from hr)⟩
  | ow o =>
    cases o with
    | lst ds =>
      obtain ⟨a, rfl, h2, h3, ⟨xs, h4, h6⟩, h5, h7⟩ := hr
      have hS : Same S (upd S a (.lst xs)) := same_upd h2
      exact ⟨_, h.adopt h4 h2 h3 h5 h7, .grow hS (.refl _), .lst upd_same (RpA.ext hS _ _ h6)⟩
theorem set_get {α : Type} {l : List α} {i j : Nat} {x y : α} (h : (l.set i x)[j]? = some y) : (i = j ∧ x = y ∧ i < l.length) ∨ (i ≠ j ∧ l[j]? = some y) := by
  rw [List.getElem?_set] at h
  by_cases e : i = j
  · subst e
    rw [if_pos rfl] at h
    by_cases hl : i < l.length
    · rw [if_pos hl] at h
      exact .inl ⟨rfl, Option.some.inj h, hl⟩
    · rw [if_neg hl] at h
      cases h
  · rw [if_neg e] at h
    exact .inr ⟨e, h⟩
/-- a slot is forgotten -/
theorem Sim.drop {i : Nat} (h : Sim z S M ρ σ H) : Sim z S M (ρ.set i .un) σ H := by
  refine ⟨h.toCore, by rw [List.length_set]; exact h.len, fun j d q => ?_, fun j o' q => ?_, fun j k o1 o2 b q1 q2 => ?_⟩
  · rcases set_get q with ⟨_, e, _⟩ | ⟨_, e⟩
    · cases e
    · exact h.va j d e
  · rcases set_get q with ⟨_, e, _⟩ | ⟨_, e⟩
    · cases e
    · exact h.ow j o' e
  · rcases set_get q1 with ⟨_, e, _⟩ | ⟨_, e1⟩
    · cases e
    · rcases set_get q2 with ⟨_, e, _⟩ | ⟨_, e2⟩
      · cases e
      · exact h.sep j k o1 o2 b e1 e2
/-- a slot's list is handed on -/
theorem Sim.move {i : Nat} {o : Ow} (h : Sim z S M ρ σ H) (e : ρ[i]? = some (.ow o)) : ∃ v, σ[i]? = some (some v) ∧ ResE z S M (ρ.set i .un) σ H v (.ow o) := by
  obtain ⟨a, h1, h2, h3, h4, h5⟩ := h.ow i o e
  refine ⟨_, h1, a, rfl, h2, h3, h4, h5, fun j o' q w => ?_⟩
  rcases set_get q with ⟨_, e, _⟩ | ⟨ne, e2⟩
  · cases e
  · exact ne (h.sep i j o o' a e e2 h1 w)
/-- a slot's list is known from now on -/
theorem Sim.freezeSlot {i : Nat} {o : Ow} (h : Sim z S M ρ σ H) (e : ρ[i]? = some (.ow o)) : ∃ S', Sim z S' M (ρ.set i (.va o.toD)) σ H ∧ Step S M H S' M H ∧ ∃ v, σ[i]? = some (some v) ∧ Rp z.K S' v o.toD := by
  obtain ⟨v, h1, hm⟩ := h.move e
  have hi : i < ρ.length := (List.getElem?_eq_some_iff.mp e).1
  obtain ⟨S', s1, s2, s3⟩ := h.drop.freeze hm
  refine ⟨S', ?_, s2, _, h1, s3⟩
  refine ⟨s1.toCore, by rw [List.length_set]; exact h.len, fun j d q => ?_, fun j o' q => ?_, fun j k o1 o2 b q1 q2 => ?_⟩
  · rcases set_get q with ⟨e1, e2, _⟩ | ⟨ne, e2⟩
    · subst e1
      cases e2
      exact ⟨_, h1, s3⟩
    · exact s1.va j d (by rw [List.getElem?_set, if_neg ne]; exact e2)
  · rcases set_get q with ⟨e1, e2, _⟩ | ⟨ne, e2⟩
    · cases e2
    · exact s1.ow j o' (by rw [List.getElem?_set, if_neg ne]; exact e2)
  · rcases set_get q1 with ⟨_, e2, _⟩ | ⟨n1, e1⟩
    · cases e2
    · rcases set_get q2 with ⟨_, e2, _⟩ | ⟨n2, e2⟩
      · cases e2
      · exact s1.sep j k o1 o2 b (by rw [List.getElem?_set, if_neg n1]; exact e1) (by rw [List.getElem?_set, if_neg n2]; exact e2)
/-- a slot is stored -/
theorem Sim.put {i : Nat} (h : Sim z S M ρ σ H) (hr : ResE z S M ρ σ H v r) : Sim z S M (ρ.set i r) (σ.set i (some v)) H := by
  have at_ : ∀ {x : Sl}, i < ρ.length → (σ.set i (some v))[i]? = some (some v) := fun {x} hl => by
    rw [List.getElem?_set_self (by rw [h.len]; exact hl)]
  have ne_ : ∀ {j : Nat}, i ≠ j → (σ.set i (some v))[j]? = σ[j]? := fun {j} n => List.getElem?_set_ne n
  refine ⟨h.toCore, by rw [List.length_set, List.length_set]; exact h.len, fun j d q => ?_, fun j o' q => ?_, fun j k o1 o2 b q1 q2 w1 w2 => ?_⟩
  · rcases set_get q with ⟨e1, e2, hl⟩ | ⟨ne, e2⟩
    · subst e1 e2
      exact ⟨v, at_ (x := .un) hl, hr⟩
    · rw [ne_ ne]
      exact h.va j d e2
  · rcases set_get q with ⟨e1, e2, hl⟩ | ⟨ne, e2⟩
    · subst e1 e2
      obtain ⟨a, rfl, x1, x2, x3, x4, _⟩ := hr
      exact ⟨a, at_ (x := .un) hl, x1, x2, x3, x4⟩
    · rw [ne_ ne]
      exact h.ow j o' e2
  · rcases set_get q1 with ⟨e1, e2, hl⟩ | ⟨n1, e1⟩
    · subst e1 e2
      rcases set_get q2 with ⟨e1, e2, _⟩ | ⟨n2, e2⟩
      · exact e1
      · rw [at_ (x := .un) hl] at w1
        rw [ne_ n2] at w2
        cases w1
        obtain ⟨a, e, _, _, _, _, x⟩ := hr
        cases e
        exact absurd w2 (x k o2 e2)
    · rcases set_get q2 with ⟨e3, e2, hl⟩ | ⟨n2, e2⟩
      · subst e3 e2
        rw [at_ (x := .un) hl] at w2
        rw [ne_ n1] at w1
        cases w2
        obtain ⟨a, e, _, _, _, _, x⟩ := hr
        cases e
        exact absurd w1 (x j o1 e1)
      · rw [ne_ n1] at w1
        rw [ne_ n2] at w2
        exact h.sep j k o1 o2 b e1 e2 w1 w2
/-- a slot's own list is changed -/
theorem Sim.owSet {i : Nat} {a : Addr} {o : Ow} {ys : List V} {es : List D} (h : Sim z S M ρ σ H) (e : ρ[i]? = some (.ow o)) (ea : σ[i]? = some (some (.ref a))) (hr : RpA z.K S ys es) :
    Sim z S M (ρ.set i (.ow (.lst es))) σ (upd H a (.lst ys)) := by
  obtain ⟨b, h1, h2, h3, h4, h5⟩ := h.ow i o e
  rw [ea] at h1
  cases h1
  obtain ⟨u, hu⟩ := h4.at
  have hs : ∀ {c : Addr} {o : HO}, S c = some o → c ≠ a := fun {c o} q z => by rw [z, h2] at q; cases q
  refine ⟨⟨⟨h.step.same, fun c o q n => ?_, h.step.mnew, fun c q => ?_⟩, fun c o q => ?_, h.frS, fun p hp => ?_, h.mnd, fun c hc => ?_⟩, by rw [List.length_set]; exact h.len, fun j d q => ?_, fun j o' q => ?_, fun j k o1 o2 b q1 q2 => ?_⟩
  · have k := h.step.keep c o q n
    rw [upd_ne (fun w => by rw [w, h3.1] at q; cases q)]
    exact k
  · by_cases w : c = a
    · subst w; rw [upd_same]; simp
    · rw [upd_ne w]; exact h.step.dom c q
  · rw [upd_ne (hs q)]; exact h.sub c o q
  · obtain ⟨q, w⟩ := h.mu p hp
    exact ⟨q, w.ext (.refl _) (upd_ne (h5 p hp))⟩
  · obtain ⟨r1, r2, r3⟩ := h.rsv c hc
    exact ⟨r1, by rw [upd_ne (fun e : c = a => h3.2 (by rw [← e]; exact hc))]; exact r2, r3⟩
  · rcases set_get q with ⟨e1, e2, hl⟩ | ⟨ne, e2⟩
    · cases e2
    · exact h.va j d e2
  · rcases set_get q with ⟨e1, e2, hl⟩ | ⟨ne, e2⟩
    · subst e1
      cases e2
      exact ⟨a, ea, h2, h3, ⟨ys, upd_same, hr⟩, h5⟩
    · obtain ⟨b, k1, k2, k3, k4, k5⟩ := h.ow j o' e2
      refine ⟨b, k1, k2, k3, k4.ext (.refl _) (upd_ne fun w => ?_), k5⟩
      subst w
      exact ne (h.sep i j o o' b e e2 ea k1)
  · intro w1 w2
    rcases set_get q1 with ⟨e1, _, _⟩ | ⟨n1, e1⟩
    · subst e1
      rcases set_get q2 with ⟨e1, _, _⟩ | ⟨n2, e2⟩
      · exact e1
      · exact h.sep i k o o2 b e e2 w1 w2
    · rcases set_get q2 with ⟨e3, _, _⟩ | ⟨n2, e2⟩
      · subst e3
        exact h.sep j i o1 o b e1 e w1 w2
      · exact h.sep j k o1 o2 b e1 e2 w1 w2
end
end PL
namespace PL
open PySem PySem.Spec PyProof.Rows L2

/-! ### readings -/
abbrev QE := Ev → Mu → (Sl → Ev → Mu → Prop) → Prop
abbrev QB := Ev → Mu → (D → Ev → Mu → Prop) → Prop
abbrev QT := Ev → Mu → (Bool → Ev → Mu → Prop) → Prop
abbrev QA := Ev → Mu → (List D → Ev → Mu → Prop) → Prop
structure QK where
  nx : Ev → Mu → Prop
  rt : Sl → Mu → Prop
  bk : Ev → Mu → Prop := fun _ _ => False
  ct : Ev → Mu → Prop := fun _ _ => False
abbrev QS := QK → Ev → Mu → Prop
inductive RbA (K : Fg) (S : Hp) (M : Mu) (H : Hp) : List V → List D → Prop
  | nil : RbA K S M H [] []
  | cons {v : V} {vs : List V} {d : D} {ds : List D} : Rb K S M H v d → RbA K S M H vs ds → RbA K S M H (v :: vs) (d :: ds)
section
variable (z : Z)
def PoE (S : Hp) (M : Mu) (σ : St) (H : Hp) (Q0 : Sl → Ev → Mu → Prop) (v : V) (H' : Hp) : Prop :=
  ∃ r ρ' M' S', Q0 r ρ' M' ∧ Step S M H S' M' H' ∧ Sim z S' M' ρ' σ H' ∧ ResE z S' M' ρ' σ H' v r
def PoB (S : Hp) (M : Mu) (σ : St) (H : Hp) (Q0 : D → Ev → Mu → Prop) (v : V) (H' : Hp) : Prop :=
  ∃ d ρ' M' S', Q0 d ρ' M' ∧ Step S M H S' M' H' ∧ Sim z S' M' ρ' σ H' ∧ Rb z.K S' M' H' v d
def PoT (S : Hp) (M : Mu) (σ : St) (H : Hp) (Q0 : Bool → Ev → Mu → Prop) (b : Bool) (H' : Hp) : Prop :=
  ∃ ρ' M' S', Q0 b ρ' M' ∧ Step S M H S' M' H' ∧ Sim z S' M' ρ' σ H'
def PoA (S : Hp) (M : Mu) (σ : St) (H : Hp) (Q0 : List D → Ev → Mu → Prop) (vs : List V) (H' : Hp) : Prop :=
  ∃ ds ρ' M' S', Q0 ds ρ' M' ∧ Step S M H S' M' H' ∧ Sim z S' M' ρ' σ H' ∧ RpA z.K S' vs ds
def PoAB (S : Hp) (M : Mu) (σ : St) (H : Hp) (Q0 : List D → Ev → Mu → Prop) (vs : List V) (H' : Hp) : Prop :=
  ∃ ds ρ' M' S', Q0 ds ρ' M' ∧ Step S M H S' M' H' ∧ Sim z S' M' ρ' σ H' ∧ RbA z.K S' M' H' vs ds
def liE (q : QE) : TE := fun σ H Q => ∃ S M ρ Q0, Sim z S M ρ σ H ∧ q ρ M Q0 ∧ ∀ v H', PoE z S M σ H Q0 v H' → Q v H'
def liB (q : QB) : TE := fun σ H Q => ∃ S M ρ Q0, Sim z S M ρ σ H ∧ q ρ M Q0 ∧ ∀ v H', PoB z S M σ H Q0 v H' → Q v H'
def liT (q : QT) : TT := fun σ H Q => ∃ S M ρ Q0, Sim z S M ρ σ H ∧ q ρ M Q0 ∧ ∀ b H', PoT z S M σ H Q0 b H' → Q b H'
def liA (q : QA) : TA := fun σ H Q => ∃ S M ρ Q0, Sim z S M ρ σ H ∧ q ρ M Q0 ∧ ∀ vs H', PoA z S M σ H Q0 vs H' → Q vs H'
def liAB (q : QA) : TA := fun σ H Q => ∃ S M ρ Q0, Sim z S M ρ σ H ∧ q ρ M Q0 ∧ ∀ vs H', PoAB z S M σ H Q0 vs H' → Q vs H'
def liS (q : QS) : TS := fun D σ H => ∃ (S : Hp) (M : Mu) (ρ : Ev) (D0 : QK), Sim z S M ρ σ H ∧ q D0 ρ M ∧
  (∀ ρ' M' S' σ' H', D0.nx ρ' M' → Same S S' → Sim z S' M' ρ' σ' H' → D.nx σ' H') ∧
  (∀ ρ' M' S' σ' H', D0.bk ρ' M' → Same S S' → Sim z S' M' ρ' σ' H' → D.bk σ' H') ∧
  (∀ ρ' M' S' σ' H', D0.ct ρ' M' → Same S S' → Sim z S' M' ρ' σ' H' → D.ct σ' H') ∧
  (∀ r M' S' v H', D0.rt r M' → Core z S' M' H' → ResF z S' M' H' v r → D.rt v H')
end
theorem RbA.step {K : Fg} {S S' : Hp} {M M' : Mu} {H H' : Hp} (t : Step S M H S' M' H') : ∀ {vs : List V} {ds : List D}, RbA K S M H vs ds → RbA K S' M' H' vs ds
  | _, _, .nil => .nil
  | _, _, .cons a b => .cons (a.step t) (b.step t)

theorem pe_w {X : Cx} {e : Expr} {t t' : TE} (h : PE X e t) (w : ∀ σ H Q, t' σ H Q → t σ H Q) : PE X e t' := ⟨fun pins s σ H Q I hq => h.run pins s σ H Q I (w σ H Q hq)⟩
theorem pt_w {X : Cx} {e : Expr} {t t' : TT} (h : PT X e t) (w : ∀ σ H Q, t' σ H Q → t σ H Q) : PT X e t' := ⟨fun pins s σ H Q I hq => h.run pins s σ H Q I (w σ H Q hq)⟩
theorem pw_w {X : Cx} {e : Expr} {t t' : TT} (h : PW X e t) (w : ∀ σ H Q, t' σ H Q → t σ H Q) : PW X e t' := ⟨fun wh pins s σ H Q I hq => h.run wh pins s σ H Q I (w σ H Q hq)⟩
theorem pa_w {X : Cx} {e : List Expr} {t t' : TA} (h : PA X e t) (w : ∀ σ H Q, t' σ H Q → t σ H Q) : PA X e t' := ⟨fun p pins s σ H Q I hq => h.run p pins s σ H Q I (w σ H Q hq)⟩
theorem ps_w {X : Cx} {e : Stmt} {t t' : TS} (h : PS X e t) (w : ∀ D σ H, t' D σ H → t D σ H) : PS X e t' := ⟨fun pins s σ H D I hq => h.run pins s σ H D I (w D σ H hq)⟩
theorem pss_w {X : Cx} {e : List Stmt} {t t' : TS} (h : PSs X e t) (w : ∀ D σ H, t' D σ H → t D σ H) : PSs X e t' := ⟨fun pins s σ H D I hq => h.run pins s σ H D I (w D σ H hq)⟩

/-! ### names, constants -/
@[reducible] def eC (d : D) : QE := fun ρ M Q => Q (.va d) ρ M
@[reducible] def bC (d : D) : QB := fun ρ M Q => Q d ρ M
def eVar (i : Nat) : QE := fun ρ M Q => match ρ[i]? with
  | some (.va d) => Q (.va d) ρ M
  | some (.ow o) => Q (.va o.toD) (ρ.set i (.va o.toD)) M
  | _ => False
def bVar (i : Nat) : QB := fun ρ M Q => match ρ[i]? with
  | some (.va d) => Q d ρ M
  | some (.ow (.lst ds)) => Q (.lst ds) ρ M
  | _ => False
def eMov (i : Nat) : QE := fun ρ M Q => match ρ[i]? with
  | some (.va d) => Q (.va d) ρ M
  | some (.ow o) => Q (.ow o) (ρ.set i .un) M
  | _ => False
def bE (q : QE) : QB := fun ρ M Q => q ρ M fun r ρ' M' => Q r.val ρ' M'
section
variable {X : Cx} {z : Z} {e a b c : Expr} {pos : Pos}
theorem qe_con {v : V} {d : D} (h : PE X e (tC v)) (r : ∀ S, Rp z.K S v d) : PE X e (liE z (eC d)) :=
  pe_w h fun σ H Q ⟨S, M, ρ, Q0, sim, h, post⟩ => post v H ⟨.va d, ρ, M, S, h, .refl, sim, r S⟩
theorem qb_con {v : V} {d : D} (h : PE X e (tC v)) (r : ∀ S, Rp z.K S v d) : PE X e (liB z (bC d)) :=
  pe_w h fun σ H Q ⟨S, M, ρ, Q0, sim, h, post⟩ => post v H ⟨d, ρ, M, S, h, .refl, sim, .inl (r S)⟩
theorem qe_int {i : Int} {j} : PE X (.Constant (.int i) j pos) (liE z (eC (.int i))) := qe_con pe_int fun _ => .int i
theorem qe_bl {i : Bool} {j} : PE X (.Constant (.bool i) j pos) (liE z (eC (.bl i))) := qe_con pe_bl fun _ => .bl i
theorem qe_str {i : Str} {j} : PE X (.Constant (.str i) j pos) (liE z (eC (.str i))) := qe_con pe_str fun _ => .str i
theorem qe_non {j} : PE X (.Constant .none j pos) (liE z (eC .non)) := qe_con pe_non fun _ => .non
theorem qb_int {i : Int} {j} : PE X (.Constant (.int i) j pos) (liB z (bC (.int i))) := qb_con pe_int fun _ => .int i
theorem qb_str {i : Str} {j} : PE X (.Constant (.str i) j pos) (liB z (bC (.str i))) := qb_con pe_str fun _ => .str i
theorem qb_non {j} : PE X (.Constant .none j pos) (liB z (bC .non)) := qb_con pe_non fun _ => .non
theorem qe_var {x : Str} (i : Nat) (hN : X.N[i]? = some x := by rfl) (hv : Vis X.env.scope x := by first | exact Or.inl rfl | exact Or.inr (Or.inl rfl) | exact Or.inr (Or.inr rfl)) (hd : (x == ("__debug__" : Str)) = false := by decide)
    (hcd : (x == ("__classdict__" : Str)) = false := by decide) : PE X (.Name x pos) (liE z (eVar i)) :=
  pe_w (pe_var hN hv hd hcd) fun σ H Q ⟨S, M, ρ, Q0, sim, h, post⟩ => by
    unfold eVar at h
    split at h
    · rename_i d e
      obtain ⟨v, h1, h2⟩ := sim.va i d e
      exact ⟨v, h1, post v H ⟨.va d, ρ, M, S, h, .refl, sim, h2⟩⟩
    · rename_i o e
      obtain ⟨S', s1, s2, v, h1, h2⟩ := sim.freezeSlot e
      exact ⟨v, h1, post v H ⟨_, _, M, S', h, s2, s1, h2⟩⟩
    · exact h.elim
theorem qb_var {x : Str} (i : Nat) (hN : X.N[i]? = some x := by rfl) (hv : Vis X.env.scope x := by first | exact Or.inl rfl | exact Or.inr (Or.inl rfl) | exact Or.inr (Or.inr rfl)) (hd : (x == ("__debug__" : Str)) = false := by decide)
    (hcd : (x == ("__classdict__" : Str)) = false := by decide) : PE X (.Name x pos) (liB z (bVar i)) :=
  pe_w (pe_var hN hv hd hcd) fun σ H Q ⟨S, M, ρ, Q0, sim, h, post⟩ => by
    unfold bVar at h
    split at h
    · rename_i d e
      obtain ⟨v, h1, h2⟩ := sim.va i d e
      exact ⟨v, h1, post v H ⟨d, ρ, M, S, h, .refl, sim, .inl h2⟩⟩
    · rename_i ds e
      obtain ⟨a, h1, h2, h3, ⟨xs, h4, h6⟩, h5⟩ := sim.ow i _ e
      exact ⟨_, h1, post _ H ⟨_, _, M, S, h, .refl, sim, .inr ⟨a, xs, ds, rfl, rfl, h4, h6, h5⟩⟩⟩
    · exact h.elim
theorem qe_mov {x : Str} (i : Nat) (hN : X.N[i]? = some x := by rfl) (hv : Vis X.env.scope x := by first | exact Or.inl rfl | exact Or.inr (Or.inl rfl) | exact Or.inr (Or.inr rfl)) (hd : (x == ("__debug__" : Str)) = false := by decide)
    (hcd : (x == ("__classdict__" : Str)) = false := by decide) : PE X (.Name x pos) (liE z (eMov i)) :=
  pe_w (pe_var hN hv hd hcd) fun σ H Q ⟨S, M, ρ, Q0, sim, h, post⟩ => by
    unfold eMov at h
    split at h
    · rename_i d e
      obtain ⟨v, h1, h2⟩ := sim.va i d e
      exact ⟨v, h1, post v H ⟨.va d, ρ, M, S, h, .refl, sim, h2⟩⟩
    · rename_i o e
      obtain ⟨v, h1, h2⟩ := sim.move e
      exact ⟨v, h1, post v H ⟨_, _, M, S, h, .refl, sim.drop, h2⟩⟩
    · exact h.elim
theorem qb_of {q : QE} (h : PE X e (liE z q)) : PE X e (liB z (bE q)) :=
  pe_w h fun σ H Q ⟨S, M, ρ, Q0, sim, h, post⟩ => ⟨S, M, ρ, _, sim, h, fun v H' ⟨r, ρ', M', S', q, st, sim', res⟩ => post v H' ⟨_, ρ', M', S', q, st, sim', res.rb⟩⟩

/-! ### operators -/
/-- what a two-place operator gives on data -/
abbrev OD := D → D → (Sl → Prop) → Prop
def OpB (X : Cx) (z : Z) (f : Value → Value → Sem Value) (od : OD) : Prop :=
  ∀ (pins : List (Addr × Obj)) (s : Shared) (σ : St) (H S : Hp) (M : Mu) (ρ : Ev) (x y : V) (u w : Value) (d1 d2 : D) (Q0 : Sl → Prop), Inv X pins σ H s → Sim z S M ρ σ H → Rb z.K S M H x d1 → Rb z.K S M H y d2 → RelV x u → RelV y w → od d1 d2 Q0 →
    wpAny (model X.prog X.w) X.A (f u w) (EP X pins σ (PoE z S M σ H fun r ρ' M' => ρ' = ρ ∧ M' = M ∧ Q0 r)) X.xe s
theorem opB_of {f : Value → Value → Sem Value} {r : R2} {od : OD} (h : OpR X f r)
    (k : ∀ (σ : St) (H S : Hp) (M : Mu) (ρ : Ev) (x y : V) (d1 d2 : D) (Q0 : Sl → Prop), Sim z S M ρ σ H → Rb z.K S M H x d1 → Rb z.K S M H y d2 → od d1 d2 Q0 → r x y H (PoE z S M σ H fun r ρ' M' => ρ' = ρ ∧ M' = M ∧ Q0 r)) : OpB X z f od :=
  fun pins s σ H S M ρ x y u w d1 d2 Q0 I sim b1 b2 r1 r2 q => h pins s σ H x y u w _ I r1 r2 (k σ H S M ρ x y d1 d2 Q0 sim b1 b2 q)
theorem poE_va {S : Hp} {M : Mu} {ρ : Ev} {σ : St} {H : Hp} {Q0 : Sl → Prop} {v : V} {d : D} (sim : Sim z S M ρ σ H) (r : Rp z.K S v d) (q : Q0 (.va d)) : PoE z S M σ H (fun r ρ' M' => ρ' = ρ ∧ M' = M ∧ Q0 r) v H :=
  ⟨.va d, ρ, M, S, ⟨rfl, rfl, q⟩, .refl, sim, r⟩
def eBin (od : OD) (qa qb : QB) : QE := fun ρ M Q => qa ρ M fun d1 ρ1 M1 => qb ρ1 M1 fun d2 ρ2 M2 => od d1 d2 fun r => Q r ρ2 M2
variable {qa qb qc : QB} {od : OD}
/-- two operands, then an operation -/
theorem bin_lift {σ : St} {H : Hp} {Q : VK} (h : liE z (eBin od qa qb) σ H Q) :
    liB z qa σ H fun x H1 => liB z qb σ H1 fun y H2 => ∃ S M ρ d1 d2 Q0, Sim z S M ρ σ H2 ∧ Rb z.K S M H2 x d1 ∧ Rb z.K S M H2 y d2 ∧ od d1 d2 Q0 ∧ ∀ v H', PoE z S M σ H2 (fun r ρ' M' => ρ' = ρ ∧ M' = M ∧ Q0 r) v H' → Q v H' := by
  obtain ⟨S, M, ρ, Q0, sim, h, post⟩ := h
  refine ⟨S, M, ρ, _, sim, h, fun x H1 ⟨d1, ρ1, M1, S1, q1, st1, sim1, b1⟩ => ⟨S1, M1, ρ1, _, sim1, q1, fun y H2 ⟨d2, ρ2, M2, S2, q2, st2, sim2, b2⟩ => ?_⟩⟩
  refine ⟨S2, M2, ρ2, d1, d2, _, sim2, b1.step st2, b2, q2, fun v H' ⟨r, ρ', M', S', ⟨e1, e2, q⟩, st, sim', res⟩ => post v H' ⟨r, ρ', M', S', ?_, (st1.trans st2).trans st, sim', res⟩⟩
  subst e1 e2
  exact q
theorem qe_bin {op : Operator} (ho : OpB X z (binaryOp op) od) (ha : PE X a (liB z qa)) (hb : PE X b (liB z qb)) : PE X (.BinOp a op b pos) (liE z (eBin od qa qb)) := by
  refine ⟨fun pins s σ H Q I h => ?_⟩
  refine wpAny_BinOp (binT ha hb I (bin_lift h) fun v u s2 x y H2 I2 rx ry ⟨S, M, ρ, d1, d2, Q0, sim, b1, b2, o, post⟩ => ?_)
  exact thn (ho pins s2 σ H2 S M ρ x y v u d1 d2 Q0 I2 sim b1 b2 rx ry o) fun w s3 ⟨y, H3, I3, r3, p3⟩ => ⟨y, H3, I3, r3, post _ _ p3⟩
theorem qe_cmp {op : CmpOp} (ho : OpB X z (compareOp op) od) (ha : PE X a (liB z qa)) (hb : PE X b (liB z qb)) (hm : behindInMarks op b = false) : PE X (.Compare a [op] [b] pos) (liE z (eBin od qa qb)) := by
  refine ⟨fun pins s σ H Q I h => ?_⟩
  refine wpAny_Compare1 (binT ha hb I (bin_lift h) fun v u s2 x y H2 I2 rx ry ⟨S, M, ρ, d1, d2, Q0, sim, b1, b2, o, post⟩ => ?_) hm
  exact thn (ho pins s2 σ H2 S M ρ x y v u d1 d2 Q0 I2 sim b1 b2 rx ry o) fun w s3 ⟨y, H3, I3, r3, p3⟩ => ⟨y, H3, I3, r3, post _ _ p3⟩
/-- a bool's test -/
def tE (q : QE) : QT := fun ρ M Q => q ρ M fun r ρ' M' => match r with
  | .va (.bl b) => Q b ρ' M'
  | _ => False
theorem tE_post {S : Hp} {M : Mu} {σ : St} {H H' : Hp} {v : V} {u : Value} {Q0 : Bool → Ev → Mu → Prop} (h : PoE z S M σ H (fun r ρ' M' => match r with | .va (.bl b) => Q0 b ρ' M' | _ => False) v H') (r : RelV v u) : ∃ b, u = .bool b ∧ PoT z S M σ H Q0 b H' := by
  obtain ⟨r', ρ', M', S', q, st, sim, res⟩ := h
  split at q
  · cases res
    cases r
    exact ⟨_, rfl, ρ', M', S', q, st, sim⟩
  · exact q.elim
theorem qt_val {q : QE} (h : PE X e (liE z q)) (he : ∀ whole, isTrue e X.env whole = (do let v ← whole; standAt e.pos; holding [v] (truthy v)) := by intro _; rfl) : PT X e (liT z (tE q)) := by
  refine ⟨fun pins s σ H Q I ⟨S, M, ρ, Q0, sim, h0, post⟩ => ?_⟩
  refine isTrue_plain (thn (h.run pins s σ H _ I ⟨S, M, ρ, _, sim, h0, fun v H' p => p⟩) fun u s1 ⟨x, H1, I1, r1, p⟩ => ?_) (he _)
  obtain ⟨b, rfl, w⟩ := tE_post p r1
  exact wpAny_truthy_bool ⟨H1, I1, post b H1 w⟩
theorem qt_cmp {op : CmpOp} (ho : OpB X z (compareOp op) od) (ha : PE X a (liB z qa)) (hb : PE X b (liB z qb)) (hm : behindInMarks op b = false) : PT X (.Compare a [op] [b] pos) (liT z (tE (eBin od qa qb))) := by
  refine ⟨fun pins s σ H Q I ⟨S, M, ρ, Q0, sim, h0, post⟩ => ?_⟩
  have h1 := bin_lift (Q := PoE z S M σ H (fun r ρ' M' => match r with | .va (.bl b) => Q0 b ρ' M' | _ => False)) ⟨S, M, ρ, _, sim, h0, fun v H' p => p⟩
  refine wpAny_isTrue_Compare1 (thn (ha.run pins s σ H _ I h1) fun v s1 ⟨x, H1, I1, r1, q1⟩ => thn (hb.run pins s1 σ H1 _ I1 q1) fun u s2 ⟨y, H2, I2, r2, ⟨S2, M2, ρ2, d1, d2, Q2, sim2, b1, b2, o, post2⟩⟩ =>
    thn (ho pins s2 σ H2 S2 M2 ρ2 x y v u d1 d2 Q2 I2 sim2 b1 b2 r1 r2 o) fun c s3 ⟨y, H3, I3, r3, p3⟩ => ?_) hm
  obtain ⟨b, rfl, w⟩ := tE_post (post2 _ _ p3) r3
  exact wpAny_truthy_bool ⟨H3, I3, post b H3 w⟩
/-- a op b op' c -/
def eChain (od od' : OD) (qa qb qc : QB) : QE := fun ρ M Q => qa ρ M fun d1 ρ1 M1 => qb ρ1 M1 fun d2 ρ2 M2 => od d1 d2 fun r => match r with
  | .va (.bl true) => qc ρ2 M2 fun d3 ρ3 M3 => od' d2 d3 fun r => Q r ρ3 M3
  | .va (.bl false) => Q (.va (.bl false)) ρ2 M2
  | _ => False
variable {od' : OD}
/-- what the last part of a chain is asked -/
def ChainLast (z : Z) (qc : QB) (od' : OD) (σ : St) (Q : VK) (y : V) (H2 : Hp) (c : Bool) : Prop :=
  if c = true then liB z qc σ H2 fun w H3 => ∃ S M ρ d2 d3 Q0, Sim z S M ρ σ H3 ∧ Rb z.K S M H3 y d2 ∧ Rb z.K S M H3 w d3 ∧ od' d2 d3 Q0 ∧ ∀ v H', PoE z S M σ H3 (fun r ρ' M' => ρ' = ρ ∧ M' = M ∧ Q0 r) v H' → Q v H'
  else Q (.bl false) H2
theorem chain_lift {σ : St} {H : Hp} {Q : VK} (h : liE z (eChain od od' qa qb qc) σ H Q) :
    liB z qa σ H fun x H1 => liB z qb σ H1 fun y H2 => ∃ S M ρ d1 d2 Q0, Sim z S M ρ σ H2 ∧ Rb z.K S M H2 x d1 ∧ Rb z.K S M H2 y d2 ∧ od d1 d2 Q0 ∧
      ∀ v H', PoE z S M σ H2 (fun r ρ' M' => ρ' = ρ ∧ M' = M ∧ Q0 r) v H' → ∃ c, v = .bl c ∧ ChainLast z qc od' σ Q y H' c := by
  obtain ⟨S, M, ρ, Q0, sim, h, post⟩ := h
  refine ⟨S, M, ρ, _, sim, h, fun x H1 ⟨d1, ρ1, M1, S1, q1, st1, sim1, b1⟩ => ⟨S1, M1, ρ1, _, sim1, q1, fun y H2 ⟨d2, ρ2, M2, S2, q2, st2, sim2, b2⟩ => ?_⟩⟩
  refine ⟨S2, M2, ρ2, d1, d2, _, sim2, b1.step st2, b2, q2, fun v H' ⟨r, ρ', M', S', ⟨e1, e2, q⟩, st, sim', res⟩ => ?_⟩
  subst e1 e2
  have st' := (st1.trans st2).trans st
  split at q
  · cases res
    refine ⟨true, rfl, ?_⟩
    unfold ChainLast
    rw [if_pos rfl]
    refine ⟨S', _, _, _, sim', q, fun w H3 ⟨d3, ρ3, M3, S3, q3, st3, sim3, b3⟩ => ⟨S3, M3, ρ3, d2, d3, _, sim3, (b2.step st).step st3, b3, q3, fun v H4 ⟨r, ρ4, M4, S4, ⟨e1, e2, q4⟩, st4, sim4, res4⟩ => post v H4 ⟨r, ρ4, M4, S4, ?_, (st'.trans st3).trans st4, sim4, res4⟩⟩⟩
    subst e1 e2
    exact q4
  · cases res
    refine ⟨false, rfl, ?_⟩
    unfold ChainLast
    rw [if_neg Bool.false_ne_true]
    exact post _ H' ⟨_, _, _, S', q, st', sim', .bl false⟩
  · exact q.elim
theorem qt_chain {op op' : CmpOp} (ho : OpB X z (compareOp op) od) (ho' : OpB X z (compareOp op') od') (ha : PE X a (liB z qa)) (hb : PE X b (liB z qb)) (hc : PE X c (liB z qc))
    (hm : lastMarks [op, op'] [b, c] = false := by with_unfolding_all rfl) : PT X (.Compare a [op, op'] [b, c] pos) (liT z (tE (eChain od od' qa qb qc))) := by
  refine ⟨fun pins s σ H Q I ⟨S, M, ρ, Q0, sim, h0, post⟩ => ?_⟩
  have h := chain_lift (Q := PoE z S M σ H (fun r ρ' M' => match r with | .va (.bl b) => Q0 b ρ' M' | _ => False)) ⟨S, M, ρ, _, sim, h0, fun v H' p => p⟩
  refine isTrue_chain (thn (ha.run pins s σ H _ I h) fun v s1 ⟨x, H1, I1, r1, q1⟩ => test_link (thn (hb.run pins s1 σ H1 _ I1 q1) fun u s2 ⟨y, H2, I2, r2, ⟨S2, M2, ρ2, d1, d2, Q2, sim2, b1, b2, o, post2⟩⟩ =>
    thn (ho pins s2 σ H2 S2 M2 ρ2 x y v u d1 d2 Q2 I2 sim2 b1 b2 r1 r2 o) fun d s3 ⟨zz, H3, I3, r3, p3⟩ => ?_)) hm
  obtain ⟨k, rfl, w⟩ := post2 _ _ p3
  cases r3
  refine wpAny_truthy_bool ?_
  cases k with
  | false =>
    obtain ⟨b, e, w2⟩ := tE_post (u := .bool false) w rfl
    cases e
    exact ite_ff ⟨H3, I3, post _ _ w2⟩
  | true =>
    refine ite_tt (test_last (thn (hc.run pins s3 σ H3 _ I3 w) fun w' s4 ⟨z', H4, I4, r4, ⟨S4, M4, ρ4, d2', d3, Q4, sim4, b3, b4, o4, post4⟩⟩ => ?_))
    refine thn (ho' pins s4 σ H4 S4 M4 ρ4 y z' u w' d2' d3 Q4 I4 sim4 b3 b4 r2 r4 o4) fun w s5 ⟨y, H5, I5, r5, p5⟩ => ?_
    obtain ⟨b, rfl, w2⟩ := tE_post (post4 _ _ p5) r5
    exact wpAny_truthy_bool ⟨H5, I5, post _ _ w2⟩

/-! ### one operand -/
abbrev UD := D → (Sl → Prop) → Prop
def UnB (X : Cx) (z : Z) (f : Value → Sem Value) (ud : UD) : Prop :=
  ∀ (pins : List (Addr × Obj)) (s : Shared) (σ : St) (H S : Hp) (M : Mu) (ρ : Ev) (x : V) (u : Value) (d : D) (Q0 : Sl → Prop), Inv X pins σ H s → Sim z S M ρ σ H → Rb z.K S M H x d → RelV x u → ud d Q0 →
    wpAny (model X.prog X.w) X.A (f u) (EP X pins σ (PoE z S M σ H fun r ρ' M' => ρ' = ρ ∧ M' = M ∧ Q0 r)) X.xe s
def eUn (ud : UD) (qa : QB) : QE := fun ρ M Q => qa ρ M fun d ρ1 M1 => ud d fun r => Q r ρ1 M1
variable {ud : UD}
theorem un_lift {σ : St} {H : Hp} {Q : VK} (h : liE z (eUn ud qa) σ H Q) :
    liB z qa σ H fun x H1 => ∃ S M ρ d Q0, Sim z S M ρ σ H1 ∧ Rb z.K S M H1 x d ∧ ud d Q0 ∧ ∀ v H', PoE z S M σ H1 (fun r ρ' M' => ρ' = ρ ∧ M' = M ∧ Q0 r) v H' → Q v H' := by
  obtain ⟨S, M, ρ, Q0, sim, h, post⟩ := h
  refine ⟨S, M, ρ, _, sim, h, fun x H1 ⟨d1, ρ1, M1, S1, q1, st1, sim1, b1⟩ => ⟨S1, M1, ρ1, d1, _, sim1, b1, q1, fun v H' ⟨r, ρ', M', S', ⟨e1, e2, q⟩, st, sim', res⟩ => post v H' ⟨r, ρ', M', S', ?_, st1.trans st, sim', res⟩⟩⟩
  subst e1 e2
  exact q
theorem qe_un {op : UnaryOp} (ho : UnB X z (unaryOp op) ud) (ha : PE X a (liB z qa)) : PE X (.UnaryOp op a pos) (liE z (eUn ud qa)) := by
  refine ⟨fun pins s σ H Q I h => ?_⟩
  refine UnaryOp_ (thn (ha.run pins s σ H _ I (un_lift h)) fun v s1 ⟨x, H1, I1, r1, ⟨S, M, ρ, d, Q0, sim, b, u, post⟩⟩ => ?_)
  exact thn (ho pins s1 σ H1 S M ρ x v d Q0 I1 sim b r1 u) fun w s3 ⟨y, H3, I3, r3, p3⟩ => ⟨y, H3, I3, r3, post _ _ p3⟩

/-! ### tests -/
def qAnd (t u : QT) : QT := fun ρ M Q => t ρ M fun c ρ1 M1 => if c = true then u ρ1 M1 Q else Q false ρ1 M1
def qOr (t u : QT) : QT := fun ρ M Q => t ρ M fun c ρ1 M1 => if c = true then Q true ρ1 M1 else u ρ1 M1 Q
def qNot (t : QT) : QT := fun ρ M Q => t ρ M fun c ρ1 M1 => Q (!c) ρ1 M1
variable {tA tB : QT} {rest : List Expr}
theorem liT_or {σ : St} {H : Hp} {Q} (h : liT z (qOr tA tB) σ H Q) : tOr (liT z tA) (liT z tB) σ H Q := by
  obtain ⟨S, M, ρ, Q0, sim, h, post⟩ := h
  refine ⟨S, M, ρ, _, sim, h, fun c H1 ⟨ρ1, M1, S1, q1, st1, sim1⟩ => ?_⟩
  cases c with
  | false => exact iteF ⟨S1, M1, ρ1, _, sim1, (by simpa using q1), fun b H2 ⟨ρ2, M2, S2, q2, st2, sim2⟩ => post b H2 ⟨ρ2, M2, S2, q2, st1.trans st2, sim2⟩⟩
  | true => exact iteT (post true H1 ⟨ρ1, M1, S1, (by simpa using q1), st1, sim1⟩)
theorem qw_or1 (ha : PT X a (liT z tA)) : PW X (.BoolOp .Or [a] pos) (liT z tA) := pw_or1 ha
theorem qw_or (ha : PT X a (liT z tA)) (hb : PW X (.BoolOp .Or (b :: rest) pos) (liT z tB)) : PW X (.BoolOp .Or (a :: b :: rest) pos) (liT z (qOr tA tB)) := pw_w (pw_or ha hb) fun _ _ _ h => liT_or h
theorem qt_not (ha : PT X a (liT z tA)) : PT X (.UnaryOp .Not a pos) (liT z (qNot tA)) := pt_w (pt_not ha) fun σ H Q ⟨S, M, ρ, Q0, sim, h, post⟩ =>
  ⟨S, M, ρ, _, sim, h, fun c H1 ⟨ρ1, M1, S1, q1, st1, sim1⟩ => post (!c) H1 ⟨ρ1, M1, S1, q1, st1, sim1⟩⟩
/-- as values -/
def eAnd (qa qb : QE) : QE := fun ρ M Q => qa ρ M fun r ρ1 M1 => match r with
  | .va (.bl true) => qb ρ1 M1 Q
  | .va (.bl false) => Q (.va (.bl false)) ρ1 M1
  | _ => False
def eOr (qa qb : QE) : QE := fun ρ M Q => qa ρ M fun r ρ1 M1 => match r with
  | .va (.bl false) => qb ρ1 M1 Q
  | .va (.bl true) => Q (.va (.bl true)) ρ1 M1
  | _ => False
def eNot (qa : QE) : QE := fun ρ M Q => qa ρ M fun r ρ1 M1 => match r with
  | .va (.bl b) => Q (.va (.bl !b)) ρ1 M1
  | _ => False
def eIf (t : QT) (qa qb : QE) : QE := fun ρ M Q => t ρ M fun c ρ1 M1 => if c = true then qa ρ1 M1 Q else qb ρ1 M1 Q
variable {ea eb : QE}
theorem qe_one {op} (h : PE X a (liE z ea)) : PE X (.BoolOp op [a] pos) (liE z ea) := pe_one h
theorem qe_and (ha : PE X a (liE z ea)) (hb : PE X (.BoolOp .And (b :: rest) pos) (liE z eb)) : PE X (.BoolOp .And (a :: b :: rest) pos) (liE z (eAnd ea eb)) :=
  pe_w (pe_and ha hb) fun σ H Q ⟨S, M, ρ, Q0, sim, h, post⟩ => ⟨S, M, ρ, _, sim, h, fun v H1 ⟨r, ρ1, M1, S1, q1, st1, sim1, res1⟩ => by
    dsimp only at q1
    split at q1
    · cases res1
      exact ⟨true, rfl, iteT ⟨S1, M1, ρ1, _, sim1, q1, fun v H2 ⟨r, ρ2, M2, S2, q2, st2, sim2, res2⟩ => post v H2 ⟨r, ρ2, M2, S2, q2, st1.trans st2, sim2, res2⟩⟩⟩
    · cases res1
      exact ⟨false, rfl, iteF (post _ H1 ⟨_, ρ1, M1, S1, q1, st1, sim1, .bl false⟩)⟩
    · exact q1.elim⟩
theorem qe_or (ha : PE X a (liE z ea)) (hb : PE X (.BoolOp .Or (b :: rest) pos) (liE z eb)) : PE X (.BoolOp .Or (a :: b :: rest) pos) (liE z (eOr ea eb)) :=
  pe_w (pe_or ha hb) fun σ H Q ⟨S, M, ρ, Q0, sim, h, post⟩ => ⟨S, M, ρ, _, sim, h, fun v H1 ⟨r, ρ1, M1, S1, q1, st1, sim1, res1⟩ => by
    dsimp only at q1
    split at q1
    · cases res1
      exact ⟨false, rfl, iteF ⟨S1, M1, ρ1, _, sim1, q1, fun v H2 ⟨r, ρ2, M2, S2, q2, st2, sim2, res2⟩ => post v H2 ⟨r, ρ2, M2, S2, q2, st1.trans st2, sim2, res2⟩⟩⟩
    · cases res1
      exact ⟨true, rfl, iteT (post _ H1 ⟨_, ρ1, M1, S1, q1, st1, sim1, .bl true⟩)⟩
    · exact q1.elim⟩
theorem qe_ifExp (hc : PT X c (liT z tA)) (ha : PE X a (liE z ea)) (hb : PE X b (liE z eb)) : PE X (.IfExp c a b pos) (liE z (eIf tA ea eb)) :=
  pe_w (pe_ifExp hc ha hb) fun σ H Q ⟨S, M, ρ, Q0, sim, h, post⟩ => ⟨S, M, ρ, _, sim, h, fun k H1 ⟨ρ1, M1, S1, q1, st1, sim1⟩ => by
    cases k with
    | true => exact iteT ⟨S1, M1, ρ1, _, sim1, (by simpa using q1), fun v H2 ⟨r, ρ2, M2, S2, q2, st2, sim2, res2⟩ => post v H2 ⟨r, ρ2, M2, S2, q2, st1.trans st2, sim2, res2⟩⟩
    | false => exact iteF ⟨S1, M1, ρ1, _, sim1, (by simpa using q1), fun v H2 ⟨r, ρ2, M2, S2, q2, st2, sim2, res2⟩ => post v H2 ⟨r, ρ2, M2, S2, q2, st1.trans st2, sim2, res2⟩⟩⟩

/-! ### arguments, displays -/
def aNil : QA := fun ρ M Q => Q [] ρ M
def aCons (q : QE) (r : QA) : QA := fun ρ M Q => q ρ M fun x ρ1 M1 => r ρ1 M1 fun xs ρ2 M2 => Q (x.val :: xs) ρ2 M2
def aConsB (q : QB) (r : QA) : QA := fun ρ M Q => q ρ M fun x ρ1 M1 => r ρ1 M1 fun xs ρ2 M2 => Q (x :: xs) ρ2 M2
variable {es : List Expr} {qr : QA}
theorem qa_nil : PA X [] (liA z aNil) := pa_w pa_nil fun σ H Q ⟨S, M, ρ, Q0, sim, h, post⟩ => post [] H ⟨[], ρ, M, S, h, .refl, sim, .nil⟩
theorem qa_cons (ha : PE X e (liE z ea)) (hr : PA X es (liA z qr)) (hs : starEach (e :: es) X.env = (false, eval e X.env) :: starEach es X.env := by rfl) : PA X (e :: es) (liA z (aCons ea qr)) :=
  pa_w (pa_cons ha hr hs) fun σ H Q ⟨S, M, ρ, Q0, sim, h, post⟩ => ⟨S, M, ρ, _, sim, h, fun v H1 ⟨r, ρ1, M1, S1, q1, st1, sim1, res1⟩ => by
    obtain ⟨S2, sim2, st2, rp⟩ := sim1.freeze res1
    exact ⟨S2, M1, ρ1, _, sim2, q1, fun vs H3 ⟨ds, ρ3, M3, S3, q3, st3, sim3, rp3⟩ => post _ H3 ⟨_, ρ3, M3, S3, q3, (st1.trans st2).trans st3, sim3, .cons (Rp.ext st3.same _ _ rp) rp3⟩⟩⟩
theorem qab_nil : PA X [] (liAB z aNil) := pa_w pa_nil fun σ H Q ⟨S, M, ρ, Q0, sim, h, post⟩ => post [] H ⟨[], ρ, M, S, h, .refl, sim, .nil⟩
theorem qab_cons (ha : PE X e (liB z qa)) (hr : PA X es (liAB z qr)) (hs : starEach (e :: es) X.env = (false, eval e X.env) :: starEach es X.env := by rfl) : PA X (e :: es) (liAB z (aConsB qa qr)) :=
  pa_w (pa_cons ha hr hs) fun σ H Q ⟨S, M, ρ, Q0, sim, h, post⟩ => ⟨S, M, ρ, _, sim, h, fun v H1 ⟨r, ρ1, M1, S1, q1, st1, sim1, rb⟩ =>
    ⟨S1, M1, ρ1, _, sim1, q1, fun vs H3 ⟨ds, ρ3, M3, S3, q3, st3, sim3, rp3⟩ => post _ H3 ⟨_, ρ3, M3, S3, q3, st1.trans st3, sim3, .cons (rb.step st3) rp3⟩⟩⟩
def eTup (q : QA) : QE := fun ρ M Q => q ρ M fun ds ρ' M' => ds.length ≤ 16777216 ∧ Q (.va (.tup ds)) ρ' M'
def eLst (q : QA) : QE := fun ρ M Q => q ρ M fun ds ρ' M' => ds.length ≤ 16777216 ∧ Q (.ow (.lst ds)) ρ' M'
theorem line_eq {n : Nat} (h : n ≤ 16777216) : n ≤ sizeLine := by rw [sizeLine_eq]; exact h
theorem qe_tup {k} (h : PA X es (liA z qr)) : PE X (.Tuple es k pos) (liE z (eTup qr)) :=
  pe_w (pe_tup h) fun σ H Q ⟨S, M, ρ, Q0, sim, h, post⟩ => ⟨S, M, ρ, _, sim, h, fun vs H1 ⟨ds, ρ1, M1, S1, ⟨hl, q1⟩, st1, sim1, rp⟩ =>
    ⟨by rw [rp.length]; exact line_eq hl, fun p hp => by
      obtain ⟨sim2, st2⟩ := sim1.alloc (o := .tup vs) hp
      exact post _ _ ⟨_, ρ1, M1, _, q1, st1.trans st2, sim2, Rp.tup (.of upd_same) (RpA.ext st2.same _ _ rp)⟩⟩⟩
theorem qe_lst (h : PA X es (liA z qr)) : PE X (.List es pos) (liE z (eLst qr)) :=
  pe_w (pe_lst h) fun σ H Q ⟨S, M, ρ, Q0, sim, h, post⟩ => ⟨S, M, ρ, _, sim, h, fun vs H1 ⟨ds, ρ1, M1, S1, ⟨hl, q1⟩, st1, sim1, rp⟩ =>
    ⟨by rw [rp.length]; exact line_eq hl, fun p hp => by
      obtain ⟨sim2, st2, res⟩ := sim1.fresh hp rp
      exact post _ _ ⟨_, ρ1, M1, _, q1, st1.trans st2, sim2, res⟩⟩⟩
end
end PL
namespace PL
open PySem PySem.Spec PyProof.Rows L2

/-! ### statements -/
section
variable {X : Cx} {z : Z} {st : Stmt} {rest sts body : List Stmt} {t u : QS} {e c : Expr} {pos : Pos} {q : QE} {qt : QT}
def sNext : QS := fun D ρ M => D.nx ρ M
def sSeq (t u : QS) : QS := fun D ρ M => t { D with nx := u D } ρ M
def sBreak : QS := fun D ρ M => D.bk ρ M
def sCont : QS := fun D ρ M => D.ct ρ M
def sDrop (q : QE) : QS := fun D ρ M => q ρ M fun _ ρ' M' => D.nx ρ' M'
def sRet (q : QE) : QS := fun D ρ M => q ρ M fun r _ M' => D.rt r M'
def sRetN : QS := fun D _ M => D.rt (.va .non) M
def sIf (c : QT) (t u : QS) : QS := fun D ρ M => c ρ M fun b ρ1 M1 => if b = true then t D ρ1 M1 else u D ρ1 M1
def sAsg (i : Nat) (q : QE) : QS := fun D ρ M => q ρ M fun r ρ' M' => D.nx (ρ'.set i r) M'
theorem qs_nil : PSs X [] (liS z sNext) := pss_w pss_nil fun D σ H ⟨S, M, ρ, D0, sim, h, nx, _⟩ => nx ρ M S σ H h (.refl _) sim
theorem liS_seq {D : Ends} {σ : St} {H : Hp} (h : liS z (sSeq t u) D σ H) : tSeq (liS z t) (liS z u) D σ H := by
  obtain ⟨S, M, ρ, D0, sim, h, nx, bk, ct, rt⟩ := h
  exact ⟨S, M, ρ, { D0 with nx := u D0 }, sim, h, fun ρ' M' S' σ' H' q e sim' => ⟨S', M', ρ', D0, sim', q, fun ρ2 M2 S2 σ2 H2 q2 e2 s2 => nx ρ2 M2 S2 σ2 H2 q2 (e.trans e2) s2,
    fun ρ2 M2 S2 σ2 H2 q2 e2 s2 => bk ρ2 M2 S2 σ2 H2 q2 (e.trans e2) s2, fun ρ2 M2 S2 σ2 H2 q2 e2 s2 => ct ρ2 M2 S2 σ2 H2 q2 (e.trans e2) s2, rt⟩, bk, ct, rt⟩
theorem qs_cons (h1 : PS X st (liS z t)) (h2 : PSs X rest (liS z u)) : PSs X (st :: rest) (liS z (sSeq t u)) := pss_w (pss_cons h1 h2) fun _ _ _ h => liS_seq h
theorem qs_end (h1 : PS X st (liS z t)) : PSs X [st] (liS z t) := pss_one h1
theorem qs_expr (he : PE X e (liE z q)) (hs : swapsWith e none pos.line X.env = pure false := by rfl) : PS X (.Expr e pos) (liS z (sDrop q)) :=
  ps_w (ps_expr he hs) fun D σ H ⟨S, M, ρ, D0, sim, h, nx, _⟩ => ⟨S, M, ρ, _, sim, h, fun v H' ⟨r, ρ', M', S', q, st, sim', _⟩ => nx ρ' M' S' σ H' q st.same sim'⟩
theorem qs_ret (he : PE X e (liE z q)) : PS X (.Return (some e) pos) (liS z (sRet q)) :=
  ps_w (ps_ret he) fun D σ H ⟨S, M, ρ, D0, sim, h, _, _, _, rt⟩ => ⟨S, M, ρ, _, sim, h, fun v H' ⟨r, ρ', M', S', q, st, sim', res⟩ => rt r M' S' v H' q sim'.toCore res.f⟩
theorem qs_if {a b : List Stmt} (hc : PT X c (liT z qt)) (ha : PSs X a (liS z t)) (hb : PSs X b (liS z u)) : PS X (.If c a b pos) (liS z (sIf qt t u)) :=
  ps_w (ps_if hc ha hb) fun D σ H ⟨S, M, ρ, D0, sim, h, nx, bk, ct, rt⟩ => ⟨S, M, ρ, _, sim, h, fun k H' ⟨ρ', M', S', q, st, sim'⟩ => by
    have go : ∀ w : QS, w D0 ρ' M' → liS z w D σ H' := fun w hw => ⟨S', M', ρ', D0, sim', hw, fun ρ2 M2 S2 σ2 H2 q2 e2 s2 => nx ρ2 M2 S2 σ2 H2 q2 (st.same.trans e2) s2,
      fun ρ2 M2 S2 σ2 H2 q2 e2 s2 => bk ρ2 M2 S2 σ2 H2 q2 (st.same.trans e2) s2, fun ρ2 M2 S2 σ2 H2 q2 e2 s2 => ct ρ2 M2 S2 σ2 H2 q2 (st.same.trans e2) s2, rt⟩
    cases k with
    | true => exact iteT (go t (by simpa using q))
    | false => exact iteF (go u (by simpa using q))⟩
theorem asg_lift {i : Nat} {D : Ends} {σ : St} {H : Hp} (h : liS z (sAsg i q) D σ H) : tAsg (liE z q) (gName i) D σ H := by
  obtain ⟨S, M, ρ, D0, sim, h, nx, _⟩ := h
  exact ⟨S, M, ρ, _, sim, h, fun v H' ⟨r, ρ', M', S', q, st, sim', res⟩ => nx _ M' S' _ H' q st.same (sim'.put res)⟩
theorem qs_set {i : Nat} {x : Str} {pos' : Pos} (hN : X.N.Nodup) (hi : X.N[i]? = some x) (hx : Loc X.env.scope x) (he : PE X e (liE z q)) (hs : swapsWith e (some (.Name x pos')) pos.line X.env = pure false := by rfl)
    (hf : X.fn x = true ∨ X.env.scope.names.lookup x = some .local := by first | exact .inl rfl | exact .inr rfl | assumption) : PS X (.Assign [.Name x pos'] e pos) (liS z (sAsg i q)) :=
  ps_w (ps_set hN hi hx he hs hf) fun _ _ _ h => asg_lift h
def sPar (i j : Nat) (qr : QA) : QS := fun D ρ M => qr ρ M fun ds ρ' M' => match ds with
  | [a, b] => D.nx ((ρ'.set i (.va a)).set j (.va b)) M'
  | _ => False
/-- name op= e -/
def sAug (i : Nat) (od : OD) (qb : QB) : QS := fun D ρ M => match ρ[i]? with
  | some (.va d) => qb ρ M fun d2 ρ' M' => od d d2 fun r => D.nx (ρ'.set i r) M'
  | _ => False
/-! ### while -/
end

/-! ### what is walked -/
/-- an iterator yields these data, whatever comes to be known meanwhile -/
structure Ylds (z : Z) (J : It) (S1 : Hp) (ds : List D) : Prop where
  go : ∀ i H S, Same S1 S → Same S H → i < ds.length → J.go i H
  stop : ∀ i H S, Same S1 S → Same S H → ds.length ≤ i → J.stop i H
  yld : ∀ i H S x H' d, Same S1 S → Same S H → ds[i]? = some d → J.yld i H x H' → ∃ S', Same S S' ∧ Same H H' ∧ Same S' H' ∧ (∀ b, S' b ≠ none → S b ≠ none ∨ H b = none) ∧ Rp z.K S' x d
def liI (z : Z) (q : QA) : TI := fun σ H R => ∃ S M ρ Q0, Sim z S M ρ σ H ∧ q ρ M Q0 ∧ ∀ J H', (∃ ds ρ' M' S', Q0 ds ρ' M' ∧ Step S M H S' M' H' ∧ Sim z S' M' ρ' σ H' ∧ Ylds z J S' ds) → R J H'
theorem pi_w {X : Cx} {tg e : Expr} {t t' : TI} (h : PI X tg e t) (w : ∀ σ H R, t' σ H R → t σ H R) : PI X tg e t' := ⟨fun pins s σ H R I hq => h.run pins s σ H R I (w σ H R hq)⟩
section
variable {X : Cx} {z : Z} {tg e a b c : Expr} {pos p : Pos} {q : QE} {qr : QA}
/-- a list or a tuple -/
theorem pi_seq {l : Expr} {tl : TE} (hl : PE X l tl) : PI X tg l (fun σ H R => tl σ H fun x H1 => ∃ a, x = .ref a ∧ (((∃ xs, SqL X.K H1 a xs) ∧ R (Itl X.K a) H1) ∨ ((∃ xs, SqT X.K H1 a xs) ∧ R (Itt X.K a) H1))) := by
  refine ⟨fun pins s σ H R I h => ?_⟩
  refine thn (hl.run pins s σ H _ I h) fun v s1 ⟨x, H1, I1, r1, q1⟩ => ?_
  obtain ⟨a, e, ⟨⟨xs, hq⟩, q⟩ | ⟨⟨xs, hq⟩, q⟩⟩ := q1
  · subst e
    cases r1
    obtain ⟨its, rv, p, hz⟩ := I1.list hq
    exact wpAny_pyIter_list p.isList (pi_one (tk := s1.toks) I1 _ (turn_list a _) ⟨_, Heap.get?_push_size _ rfl, rfl, rfl⟩ q)
  · subst e
    cases r1
    obtain ⟨its, rv, p, hz⟩ := I1.tuple hq
    exact wpAny_pyIter_tuple (show s1.heap.IsTuple a its.toArray from p) (pi_one (tk := s1.toks) I1 _ (turn_tuple a _) ⟨_, Heap.get?_push_size _ rfl, rfl, rfl⟩ q)
def iSeq (q : QE) : QA := fun ρ M Q => q ρ M fun r ρ' M' => match r.val with
  | .lst ds => Q ds ρ' M'
  | .tup ds => Q ds ρ' M'
  | _ => False
theorem ylds_listS {S1 : Hp} {a : Addr} {xs : List V} {ds : List D} (h : S1 a = some (.lst xs)) (r : RpA z.K S1 xs ds) : Ylds z (Itl z.K a) S1 ds := by
  refine ⟨fun i H S e1 e2 hi => ?_, fun i H S e1 e2 hi => ⟨xs, .of ((e1.trans e2) _ _ h), by rw [r.length]; exact hi⟩, fun i H S x H' d e1 e2 ed y => ?_⟩
  · have hl := r.length
    exact ⟨xs, xs[i], .of ((e1.trans e2) _ _ h), List.getElem?_eq_getElem (by omega)⟩
  · obtain ⟨rfl, y⟩ := y
    have ex := y xs (.of ((e1.trans e2) _ _ h))
    obtain ⟨v, h1, h2⟩ := r.get ed
    rw [ex] at h1
    cases h1
    exact ⟨S, .refl _, .refl _, e2, fun b q => .inl q, Rp.ext e1 _ _ h2⟩
theorem ylds_tup {S1 : Hp} {a : Addr} {xs : List V} {ds : List D} (h : SqT z.K S1 a xs) (r : RpA z.K S1 xs ds) : Ylds z (Itt z.K a) S1 ds := by
  refine ⟨fun i H S e1 e2 hi => ?_, fun i H S e1 e2 hi => ⟨xs, same_seqT (e1.trans e2) h, by rw [r.length]; exact hi⟩, fun i H S x H' d e1 e2 ed y => ?_⟩
  · have hl := r.length
    exact ⟨xs, xs[i], same_seqT (e1.trans e2) h, List.getElem?_eq_getElem (by omega)⟩
  · obtain ⟨rfl, y⟩ := y
    have ex := y xs (same_seqT (e1.trans e2) h)
    obtain ⟨v, h1, h2⟩ := r.get ed
    rw [ex] at h1
    cases h1
    exact ⟨S, .refl _, .refl _, e2, fun b q => .inl q, Rp.ext e1 _ _ h2⟩
theorem qi_seq (hK : X.K = z.K := by first | assumption | rfl) (h : PE X e (liE z q)) : PI X tg e (liI z (iSeq q)) :=
  pi_w (pi_seq h) fun σ H R ⟨S, M, ρ, Q0, sim, h, post⟩ => ⟨S, M, ρ, _, sim, h, fun v H1 ⟨r, ρ1, M1, S1, q1, st1, sim1, res1⟩ => by
    obtain ⟨S2, sim2, st2, rp⟩ := sim1.freeze res1
    dsimp only at q1
    split at q1
    · rename_i ds e
      rw [e] at rp
      cases rp with
      | lst h1 h2 => exact ⟨_, rfl, .inl ⟨⟨_, .of (sim2.sub _ _ h1)⟩, post _ H1 ⟨ds, ρ1, M1, S2, q1, st1.trans st2, sim2, by rw [hK]; exact ylds_listS h1 h2⟩⟩⟩
    · rename_i ds e
      rw [e] at rp
      cases rp with
      | tup h1 h2 => exact ⟨_, rfl, .inr ⟨⟨_, by rw [hK]; exact same_seqT sim2.sub h1⟩, post _ H1 ⟨ds, ρ1, M1, S2, q1, st1.trans st2, sim2, by rw [hK]; exact ylds_tup h1 h2⟩⟩⟩
    · exact q1.elim⟩
/-- lo, lo + 1, .. below hi -/
def rangeL (lo hi : Int) : List D := (List.range (hi - lo).toNat).map fun (k : Nat) => .int (lo + (k : Int))
theorem rangeL_len {lo hi : Int} : (rangeL lo hi).length = (hi - lo).toNat := by unfold rangeL; rw [List.length_map, List.length_range]
theorem rangeL_get {lo hi : Int} {i : Nat} {d : D} (h : (rangeL lo hi)[i]? = some d) : d = .int (lo + (i : Int)) ∧ i < (hi - lo).toNat := by
  unfold rangeL at h
  rw [List.getElem?_map] at h
  cases e : (List.range (hi - lo).toNat)[i]? with
  | none => rw [e] at h; cases h
  | some k =>
    rw [e] at h
    obtain ⟨h1, h2⟩ := List.getElem?_eq_some_iff.mp e
    rw [List.getElem_range] at h2
    subst h2
    cases h
    exact ⟨rfl, by rw [List.length_range] at h1; exact h1⟩
def iR1 (qr : QA) : QA := fun ρ M Q => qr ρ M fun ds ρ' M' => match ds with
  | [.int j] => (-4611686018427387904 ≤ j ∧ j < 4611686018427387904) ∧ Q (rangeL 0 j) ρ' M'
  | _ => False
def iR2 (qr : QA) : QA := fun ρ M Q => qr ρ M fun ds ρ' M' => match ds with
  | [.int i, .int j] => (-4611686018427387904 ≤ i ∧ i < 4611686018427387904 ∧ -4611686018427387904 ≤ j ∧ j < 4611686018427387904) ∧ Q (rangeL i j) ρ' M'
  | _ => False
theorem ylds_range {S1 : Hp} {lo hi : Int} : Ylds z (Itr lo (hi - lo).toNat) S1 (rangeL lo hi) := by
  refine ⟨fun i H S e1 e2 h => by rw [rangeL_len] at h; exact h, fun i H S e1 e2 h => by rw [rangeL_len] at h; exact h, fun i H S x H' d e1 e2 ed y => ?_⟩
  obtain ⟨rfl, rfl⟩ := y
  obtain ⟨rfl, _⟩ := rangeL_get ed
  exact ⟨S, .refl _, .refl _, e2, fun b q => .inl q, .int _⟩
theorem p62 : ((2 : Int) ^ 62) = 4611686018427387904 := by decide
theorem qi_range1 (hg : Gl X "range") (hm : X.mg "range" = none) (ha : PA X [a] (liA z qr)) (hs : starEach [a] X.env = [(false, eval a X.env)] := by rfl) : PI X tg (.Call (.Name "range" p) [a] [] pos) (liI z (iR1 qr)) :=
  pi_w (pi_range1 hg hm ha hs) fun σ H R ⟨S, M, ρ, Q0, sim, h, post⟩ => ⟨S, M, ρ, _, sim, h, fun vs H1 ⟨ds, ρ1, M1, S1, q1, st1, sim1, rp⟩ => by
    dsimp only at q1
    split at q1
    · cases rp with
      | cons r1 rr =>
        cases rr
        cases r1
        obtain ⟨⟨b1, b2⟩, q⟩ := q1
        refine ⟨_, rfl, by rw [p62]; exact b1, by rw [p62]; exact b2, post _ H1 ⟨_, ρ1, M1, S1, q, st1, sim1, ?_⟩⟩
        have y := ylds_range (z := z) (S1 := S1) (lo := 0) (hi := ‹Int›)
        rw [Int.sub_zero] at y
        exact y
    · exact q1.elim⟩
end

/-! ### targets -/
abbrev QG := D → Ev → (Ev → Prop) → Prop
abbrev QGs := List D → Ev → (Ev → Prop) → Prop
/-- as: the slots that may change -/
def liG (z : Z) (as : List Nat) (q : QG) : TG := fun v σ H Q => ∃ S M ρ d Q0, Sim z S M ρ σ H ∧ Rp z.K S v d ∧ q d ρ Q0 ∧ ∀ ρ' σ', Q0 ρ' → Sim z S M ρ' σ' H → (∀ j, j ∉ as → σ'[j]? = σ[j]?) → Q σ' H
def liGs (z : Z) (as : List Nat) (q : QGs) : TGs := fun vs σ H Q => ∃ S M ρ ds Q0, Sim z S M ρ σ H ∧ RpA z.K S vs ds ∧ q ds ρ Q0 ∧ ∀ ρ' σ', Q0 ρ' → Sim z S M ρ' σ' H → (∀ j, j ∉ as → σ'[j]? = σ[j]?) → Q σ' H
theorem pg_w {X : Cx} {e : Expr} {t t' : TG} (h : PG X e t) (w : ∀ v σ H Q, t' v σ H Q → t v σ H Q) : PG X e t' := ⟨fun pins s σ H v u Q I r hq => h.run pins s σ H v u Q I r (w v σ H Q hq)⟩
theorem pgs_w {X : Cx} {e : List Expr} {t t' : TGs} (h : PGs X e t) (w : ∀ v σ H Q, t' v σ H Q → t v σ H Q) : PGs X e t' := ⟨fun pins s σ H v u Q I r hq => h.run pins s σ H v u Q I r (w v σ H Q hq)⟩
def gN (i : Nat) : QG := fun d ρ Q => Q (ρ.set i (.va d))
def gsNil : QGs := fun ds ρ Q => match ds with
  | [] => Q ρ
  | _ => False
def gsCons (g : QG) (gs : QGs) : QGs := fun ds ρ Q => match ds with
  | d :: r => g d ρ fun ρ' => gs r ρ' Q
  | [] => False
def gT (n : Nat) (gs : QGs) : QG := fun d ρ Q => match d with
  | .tup ds => ds.length = n ∧ gs ds ρ Q
  | _ => False
section
variable {X : Cx} {z : Z} {pos : Pos} {e : Expr} {es : List Expr} {g : QG} {gs : QGs} {as bs : List Nat}
theorem qg_name {i : Nat} {x : Str} (hN : X.N.Nodup) (hi : X.N[i]? = some x) (hx : Loc X.env.scope x) (hf : X.fn x = true ∨ X.env.scope.names.lookup x = some .local := by first | exact .inl rfl | exact .inr rfl | assumption) : PG X (.Name x pos) (liG z [i] (gN i)) :=
  pg_w (pg_name hN hi hx hf) fun v σ H Q ⟨S, M, ρ, d, Q0, sim, r, h, post⟩ => post _ _ h (sim.put (r := .va d) r) fun j hj => List.getElem?_set_ne fun e => hj (by simp [e])
theorem qgs_nil : PGs X [] (liGs z [] gsNil) := pgs_w pgs_nil fun vs σ H Q ⟨S, M, ρ, ds, Q0, sim, r, h, post⟩ => by
  unfold gsNil at h
  split at h
  · cases r; exact ⟨rfl, post _ _ h sim fun _ _ => rfl⟩
  · exact h.elim
theorem qgs_cons (h1 : PG X e (liG z as g)) (h2 : PGs X es (liGs z bs gs)) (hs : (assignEach (e :: es) X.env).map (·.2) = assign e X.env :: (assignEach es X.env).map (·.2) := by rfl) : PGs X (e :: es) (liGs z (as ++ bs) (gsCons g gs)) :=
  pgs_w (pgs_cons h1 h2 hs) fun vs σ H Q ⟨S, M, ρ, ds, Q0, sim, r, h, post⟩ => by
    unfold gsCons at h
    split at h
    · cases r with
      | cons r1 r2 => exact ⟨_, _, rfl, S, M, ρ, _, _, sim, r1, h, fun ρ' σ' q sim' k1 => ⟨S, M, ρ', _, Q0, sim', r2, q, fun ρ2 σ2 q2 sim2 k2 => post ρ2 σ2 q2 sim2 fun j hj => (k2 j fun hm => hj (List.mem_append_right _ hm)).trans (k1 j fun hm => hj (List.mem_append_left _ hm))⟩⟩
    · exact h.elim
theorem qg_tup {k n : Nat} (hc : X.calm = true) (h : PGs X es (liGs z as gs)) (hK : X.K = z.K := by first | assumption | rfl) (hn : (assignEach es X.env).length = n := by rfl) (hst : (assignEach es X.env).findIdx? (·.1) = none := by rfl) : PG X (.Tuple es k pos) (liG z as (gT n gs)) :=
  pg_w (pg_tup hc h hn hst) fun v σ H Q ⟨S, M, ρ, d, Q0, sim, r, h, post⟩ => by
    unfold gT at h
    split at h
    · cases r with
      | tup r1 r2 => exact ⟨_, _, rfl, by rw [hK]; exact same_seqT sim.sub r1, by rw [r2.length]; exact h.1, S, M, ρ, _, Q0, sim, r2, h.2, post⟩
    · exact h.elim
/-- target = value -/
def sTgt (q : QE) (g : QG) : QS := fun D ρ M => q ρ M fun r ρ' M' => g r.val ρ' fun ρ2 => D.nx ρ2 M'
/-! ### for -/
def sFor (qi : QA) (g : QG) (tb : QS) : QS := fun D ρ M => qi ρ M fun ds ρ1 M1 => ∃ I : Nat → Ev → Mu → Prop, I 0 ρ1 M1 ∧
  (∀ i d ρ M, ds[i]? = some d → I i ρ M → g d ρ fun ρ2 => tb { nx := I (i + 1), ct := I (i + 1), bk := D.nx, rt := D.rt } ρ2 M) ∧ (∀ ρ M, I ds.length ρ M → D.nx ρ M)
theorem qs_for {tg iter : Expr} {body : List Stmt} {qi : QA} {tb : QS} (hp : PassesOwn (model X.prog X.w) X.A X.env X.xe) (hc : X.calm = true) (hi : PI X tg iter (liI z qi)) (hg : PG X tg (liG z as g)) (hb : PSs X body (liS z tb))
    (hs : ∀ x, foldedSetIterable iter X.env x = pure x := by intro _; rfl) : PS X (.For tg iter body [] pos) (liS z (sFor qi g tb)) :=
  ps_w (ps_for hp hc hi hg hb hs) fun D σ H ⟨S, M, ρ, D0, sim, h, nx, bk, ct, rt⟩ => ⟨S, M, ρ, _, sim, h, fun J H1 ⟨ds, ρ1, M1, S1, ⟨I, w0, turn, fin⟩, st1, sim1, y⟩ => by
    refine ⟨fun i m σ' H' => m = ds.length - i ∧ i ≤ ds.length ∧ ∃ S' M' ρ', Same S1 S' ∧ Sim z S' M' ρ' σ' H' ∧ I i ρ' M', ⟨ds.length, by simp, Nat.zero_le _, S1, M1, ρ1, .refl _, sim1, w0⟩, ?_⟩
    rintro i m σ2 H2 ⟨rfl, hi, S2, M2, ρ2, e2, sim2, w2⟩
    by_cases hlt : i < ds.length
    · refine .inr ⟨y.go i H2 S2 e2 sim2.sub hlt, fun σ' H' => i + 1 ≤ ds.length ∧ ∃ S' M' ρ', Same S1 S' ∧ Sim z S' M' ρ' σ' H' ∧ I (i + 1) ρ' M', fun σ' H' h => ⟨ds.length - (i + 1), by omega, rfl, h.1, h.2⟩, fun x H3 hy => ?_⟩
      have ed : ds[i]? = some ds[i] := List.getElem?_eq_getElem hlt
      obtain ⟨S3, a1, a2, a3, a4, rp⟩ := y.yld i H2 S2 x H3 _ e2 sim2.sub ed hy
      have sim3 := sim2.grow a1 a2 a3 a4
      refine ⟨S3, M2, ρ2, _, _, sim3, rp, turn i _ ρ2 M2 ed w2, fun ρ4 σ4 q4 sim4 _ => ?_⟩
      have e3 := e2.trans a1
      exact ⟨S3, M2, ρ4, _, sim4, q4, fun ρ5 M5 S5 σ5 H5 q5 e5 sim5 => ⟨hlt, S5, M5, ρ5, e3.trans e5, sim5, q5⟩,
        fun ρ5 M5 S5 σ5 H5 q5 e5 sim5 => nx ρ5 M5 S5 σ5 H5 q5 ((st1.same.trans e3).trans e5) sim5, fun ρ5 M5 S5 σ5 H5 q5 e5 sim5 => ⟨hlt, S5, M5, ρ5, e3.trans e5, sim5, q5⟩, rt⟩
    · have e : i = ds.length := by omega
      subst e
      exact .inl ⟨y.stop _ H2 S2 e2 sim2.sub (Nat.le_refl _), nx ρ2 M2 S2 σ2 H2 (fin ρ2 M2 w2) (st1.same.trans e2) sim2⟩⟩
end

/-! ### calls of the program's defs -/
/-- a promise: the arguments' data, the objects known by address; the wanted end; the wanted exception (its class's name, its fields) -/
abbrev PSp := List D → Mu → (Sl → Mu → Prop) → (Str → List D → Mu → Prop) → Prop
abbrev zOf (K : Fg) (H S : Hp) (M : Mu) : Z := ⟨K, H, S, M, fun _ => False⟩
/-- .. of a def that raises nothing -/
def liP (K : Fg) (p : PSp) : Sp := fun vs H Q _ => ∃ S M ds Q0, Core (zOf K H S M) S M H ∧ RpA K S vs ds ∧ p ds M Q0 (fun _ _ _ => False) ∧
  ∀ v H' r M' S', Q0 r M' → Core (zOf K H S M) S' M' H' → ResF (zOf K H S M) S' M' H' v r → Q v H'
def eCall (p : PSp) (qr : QA) : QE := fun ρ M Q => qr ρ M fun ds ρ1 M1 => p ds M1 (fun r M2 => Q r ρ1 M2) fun _ _ _ => False
section
variable {X : Cx} {z : Z}
theorem Sim.core0 {S : Hp} {M : Mu} {ρ : Ev} {σ : St} {H : Hp} (h : Sim z S M ρ σ H) : Core (zOf z.K H S M) S M H := ⟨.refl, h.sub, fun b q => .inl q, h.mu, h.mnd, fun _ r => r.elim⟩
theorem Sim.after {S S' : Hp} {M M' : Mu} {ρ : Ev} {σ : St} {H H' : Hp} (h : Sim z S M ρ σ H) (c : Core (zOf z.K H S M) S' M' H') : Sim z S' M' ρ σ H' := by
  have hs : ∀ {a : Addr}, S a = none → H a ≠ none → S' a = none := fun {a} e n => by
    cases q : S' a with
    | none => rfl
    | some o =>
      rcases c.frS a (by rw [q]; simp) with w | w
      · exact absurd e w
      · exact absurd w n
  refine ⟨⟨h.step.trans c.step, c.sub, fun b q => ?_, c.mu, c.mnd, fun b hb => ?_⟩, h.len, fun i d e => ?_, fun i o e => ?_, h.sep⟩
  · rcases c.frS b q with w | w
    · exact h.frS b w
    · exact .inr (h.toCore.h0 w)
  · obtain ⟨r1, r2, r3⟩ := h.rsv b hb
    refine ⟨hs r1 r2, c.step.dom b r2, fun p hp e => ?_⟩
    rcases c.step.mnew p hp with ⟨q, hq, e2⟩ | e2
    · exact r3 q hq (e2.trans e)
    · exact r2 (e ▸ e2)
  · obtain ⟨v, a, b⟩ := h.va i d e
    exact ⟨v, a, Rp.ext c.step.same _ _ b⟩
  · obtain ⟨a, h1, h2, h3, h4, h5⟩ := h.ow i o e
    obtain ⟨u, hu⟩ := h4.at
    have k : H' a = H a := (c.step.keep a u hu h5).trans hu.symm
    refine ⟨a, h1, hs h2 (by rw [hu]; simp), h3, h4.ext c.step.same k, fun p hp e => ?_⟩
    rcases c.step.mnew p hp with ⟨q, hq, e2⟩ | e2
    · exact h5 q hq (e2.trans e)
    · have e3 : H p.1 = none := e2
      rw [e, hu] at e3; cases e3
theorem Sim.afterR {S S' : Hp} {M M' : Mu} {ρ : Ev} {σ : St} {H H' : Hp} {v : V} {r : Sl} (h : Sim z S M ρ σ H) (res : ResF (zOf z.K H S M) S' M' H' v r) : ResE z S' M' ρ σ H' v r := by
  cases r with
  | un => exact res
  | va d => exact res
  | ow o =>
    obtain ⟨a, h1, h2, h3, h4, h5⟩ := res
    have h3' : H a = none := h3.1
    refine ⟨a, h1, h2, h.toCore.nw h3', h4, h5, fun i o' e q => ?_⟩
    obtain ⟨b, k1, _, _, k4, _⟩ := h.ow i o' e
    rw [q] at k1
    cases k1
    obtain ⟨u, hu⟩ := k4.at
    rw [h3'] at hu; cases hu
variable {CX : CXT} {k : Nat} {f : Addr} {fd : FuncData} {ps : List Str} {p : PSp} {x : Str} {pp pos : Pos} {e : Expr} {es : List Expr} {qr : QA}
theorem call_lift {σ : St} {H : Hp} {Q : VK} (h : liE z (eCall p qr) σ H Q) : liA z qr σ H fun vs H1 => liP z.K p (vs ++ []) H1 Q E0 := by
  obtain ⟨S, M, ρ, Q0, sim, h, post⟩ := h
  refine ⟨S, M, ρ, _, sim, h, fun vs H1 ⟨ds, ρ1, M1, S1, q1, st1, sim1, rp⟩ => ⟨S1, M1, ds, _, sim1.core0, by rw [List.append_nil]; exact rp, q1, fun v H2 r M2 S2 q2 c res => ?_⟩⟩
  exact post v H2 ⟨r, ρ1, M2, S2, q2, st1.trans c.step, sim1.after c, sim1.afterR res⟩
/-- f(e, ..): no exception is let out -/
theorem qe_call (F : FnOk X.prog X.w X.K X.mg X.base CX k f fd ps (liP X.K p)) (hr : Room k X.A) (hg : Gl X x) (hm : X.mg x = some (.ref f)) (hk : PySem.W.keepIn X.K (.ref f) = true) (hb : Binds X.K fd ps []) (hx : Passes CX X E0)
    (ha : PA X (e :: es) (liA z qr)) (hK : X.K = z.K := by first | assumption | rfl) (hdb : (x == ("__debug__" : Str)) = false := by decide) (he : starEach (e :: es) X.env = (false, eval e X.env) :: starEach es X.env := by rfl) (hpl : (backTo pos (starEach es X.env)).any (·.1) = false := by rfl) :
    PE X (.Call (.Name x pp) (e :: es) [] pos) (liE z (eCall p qr)) := by
  refine pe_w (pe_call F hr hg hm hk hb .nil hx ha hdb he hpl) fun σ H Q h => ?_
  have h' := call_lift h
  unfold tCall
  rw [hK]
  exact h'
end
end PL
namespace PL
open PySem PySem.Spec PyProof.Rows L2

/-! ### arithmetic on data -/
def dI2 (C : Int → Int → Prop) (f : Int → Int → D) : OD := fun a b Q => match a, b with
  | .int i, .int j => C i j ∧ Q (.va (f i j))
  | _, _ => False
abbrev CT : Int → Int → Prop := fun _ _ => True
/-- a factor is small, or both are not too great -/
def CMulP (i j : Int) : Prop := (-18446744073709551616 < i ∧ i < 18446744073709551616) ∨ (-18446744073709551616 < j ∧ j < 18446744073709551616)
/-- a divisor below 2 ^ 100 -/
def CDivP (_ j : Int) : Prop := 0 < j ∧ j < 1267650600228229401496703205376
def CModP (_ j : Int) : Prop := 0 < j
def CPowP (i j : Int) : Prop := 0 ≤ j ∧ j ≤ 1000 ∧ (-1000000 < i ∧ i < 1000000)
def dAdd : OD := fun a b Q => match a, b with
  | .int i, .int j => Q (.va (.int (i + j)))
  | .str x, .str y => x.length + y.length ≤ 16777216 ∧ Q (.va (.str (x ++ y)))
  | .lst xs, .lst ys => xs.length + ys.length ≤ 16777216 ∧ Q (.ow (.lst (xs ++ ys)))
  | .tup xs, .tup ys => xs.length + ys.length ≤ 16777216 ∧ Q (.va (.tup (xs ++ ys)))
  | _, _ => False
abbrev dSub : OD := dI2 CT fun i j => .int (i - j)
abbrev dMul : OD := dI2 CMulP fun i j => .int (i * j)
abbrev dDiv : OD := dI2 CDivP fun i j => .int (i / j)
abbrev dMod : OD := dI2 CModP fun i j => .int (i % j)
abbrev dPow : OD := dI2 CPowP fun i j => .int (i ^ j.toNat)
abbrev dLt : OD := dI2 CT fun i j => .bl (decide (i < j))
abbrev dLe : OD := dI2 CT fun i j => .bl (decide (i ≤ j))
abbrev dGt : OD := dI2 CT fun i j => .bl (decide (j < i))
abbrev dGe : OD := dI2 CT fun i j => .bl (decide (j ≤ i))
section
variable {X : Cx} {z : Z} {S : Hp} {M : Mu} {H : Hp}
theorem Rb.int {v : V} {i : Int} (h : Rb z.K S M H v (.int i)) : v = .int i := by
  rcases h with h | ⟨_, _, _, _, e, _⟩
  · cases h; rfl
  · cases e
theorem Rb.bl {v : V} {i : Bool} (h : Rb z.K S M H v (.bl i)) : v = .bl i := by
  rcases h with h | ⟨_, _, _, _, e, _⟩
  · cases h; rfl
  · cases e
theorem Rb.str {v : V} {i : Str} (h : Rb z.K S M H v (.str i)) : v = .str i := by
  rcases h with h | ⟨_, _, _, _, e, _⟩
  · cases h; rfl
  · cases e
theorem Rb.ty {v : V} {i : String} (h : Rb z.K S M H v (.ty i)) : v = .ty i := by
  rcases h with h | ⟨_, _, _, _, e, _⟩
  · cases h; rfl
  · cases e
theorem Rb.non {v : V} (h : Rb z.K S M H v .non) : v = .non := by
  rcases h with h | ⟨_, _, _, _, e, _⟩
  · cases h; rfl
  · cases e
theorem Rb.ref {v : V} {a : Addr} (h : Rb z.K S M H v (.ref a)) : v = .ref a := by
  rcases h with h | ⟨_, _, _, _, e, _⟩
  · cases h; rfl
  · cases e
theorem Rb.tup {v : V} {ds : List D} (h : Rb z.K S M H v (.tup ds)) : ∃ a xs, v = .ref a ∧ SqT z.K S a xs ∧ RpA z.K S xs ds := by
  rcases h with h | ⟨_, _, _, _, e, _⟩
  · cases h with | tup a b => exact ⟨_, _, rfl, a, b⟩
  · cases e
theorem Rb.lst {v : V} {ds : List D} (hs : Same S H) (h : Rb z.K S M H v (.lst ds)) : ∃ a xs, v = .ref a ∧ H a = some (.lst xs) ∧ RpA z.K S xs ds := by
  rcases h with h | ⟨a, xs, ds', e1, e, e2, e3, _⟩
  · cases h with | lst a b => exact ⟨_, _, rfl, hs _ _ a, b⟩
  · cases e; exact ⟨a, xs, e1, e2, e3⟩
theorem ob_i2 {f : Value → Value → Sem Value} {C C' : Int → Int → Prop} {g : Int → Int → V} {g' : Int → Int → D} (h : OpR X f (rI C g)) (hC : ∀ i j, C' i j → C i j) (hg : ∀ S i j, Rp z.K S (g i j) (g' i j)) : OpB X z f (dI2 C' g') :=
  opB_of h fun σ H S M ρ x y d1 d2 Q0 sim b1 b2 q => by
    unfold dI2 at q
    split at q
    · exact ⟨_, _, b1.int, b2.int, hC _ _ q.1, poE_va sim (hg _ _ _) q.2⟩
    · exact q.elim
theorem ob_i20 {f : Value → Value → Sem Value} {g : Int → Int → V} {g' : Int → Int → D} (h : OpR X f (rI0 g)) (hg : ∀ S i j, Rp z.K S (g i j) (g' i j)) : OpB X z f (dI2 CT g') :=
  opB_of h fun σ H S M ρ x y d1 d2 Q0 sim b1 b2 q => by
    unfold dI2 at q
    split at q
    · exact ⟨_, _, b1.int, b2.int, poE_va sim (hg _ _ _) q.2⟩
    · exact q.elim
theorem p64 : ((2 : Int) ^ 64) = 18446744073709551616 := by decide
theorem cmul_ok {i j : Int} (h : CMulP i j) : CMul i j := by
  unfold CMul
  rw [p64]
  exact h
theorem cdiv_ok {i j : Int} (h : CDivP i j) : CDivW i j := by
  refine wide_div (b := 100) h.1 ?_ (by decide) (by decide)
  have h1 := h.1
  have h2 := h.2
  have e : (2 : Nat) ^ 100 = 1267650600228229401496703205376 := by decide
  rw [e]
  omega
theorem cpow_ok {i j : Int} (h : CPowP i j) : CPow i j := by
  obtain ⟨h1, h2, h3, h4⟩ := h
  exact ⟨h1, by omega, by omega⟩
theorem ob_sub : OpB X z (binaryOp .Sub) dSub := ob_i20 op_sub fun _ _ _ => .int _
theorem ob_mul : OpB X z (binaryOp .Mult) dMul := ob_i2 op_mul (fun _ _ => cmul_ok) fun _ _ _ => .int _
theorem ob_div : OpB X z (binaryOp .FloorDiv) dDiv := ob_i2 op_fdivW (fun _ _ => cdiv_ok) fun _ _ _ => .int _
theorem ob_mod : OpB X z (binaryOp .Mod) dMod := ob_i2 op_mod (fun _ _ h => h) fun _ _ _ => .int _
theorem ob_pow : OpB X z (binaryOp .Pow) dPow := ob_i2 op_pow (fun _ _ => cpow_ok) fun _ _ _ => .int _
theorem ob_lt : OpB X z (compareOp .Lt) dLt := ob_i20 op_lt fun _ _ _ => .bl _
theorem ob_le : OpB X z (compareOp .LtE) dLe := ob_i20 op_le fun _ _ _ => .bl _
abbrev dAddI : OD := dI2 CT fun i j => .int (i + j)
def CDivS (_ j : Int) : Prop := 0 < j ∧ j < 1073741824
abbrev dDivS : OD := dI2 CDivS fun i j => .int (i / j)
/-- a new list of one's own, as a result -/
theorem poE_ow {ρ : Ev} {σ : St} {Q0 : Sl → Prop} {p : Addr} {xs : List V} {ds : List D} (sim : Sim z S M ρ σ H) (hp : H p = none) (r : RpA z.K S xs ds) (q : Q0 (.ow (.lst ds))) : PoE z S M σ H (fun r ρ' M' => ρ' = ρ ∧ M' = M ∧ Q0 r) (.ref p) (upd H p (.lst xs)) := by
  obtain ⟨a, b, c⟩ := sim.fresh hp r
  exact ⟨_, ρ, M, S, ⟨rfl, rfl, q⟩, b, a, c⟩
theorem poE_tup {ρ : Ev} {σ : St} {Q0 : Sl → Prop} {p : Addr} {xs : List V} {ds : List D} (sim : Sim z S M ρ σ H) (hp : H p = none) (r : RpA z.K S xs ds) (q : Q0 (.va (.tup ds))) : PoE z S M σ H (fun r ρ' M' => ρ' = ρ ∧ M' = M ∧ Q0 r) (.ref p) (upd H p (.tup xs)) := by
  obtain ⟨a, b⟩ := sim.alloc (o := .tup xs) hp
  exact ⟨_, ρ, M, _, ⟨rfl, rfl, q⟩, b, a, Rp.tup (.of upd_same) (RpA.ext b.same _ _ r)⟩
theorem ob_add (hK : X.K = z.K := by first | assumption | rfl) : OpB X z (binaryOp .Add) dAdd := by
  intro pins s σ H S M ρ x y u w d1 d2 Q0 I sim b1 b2 r1 r2 q
  unfold dAdd at q
  split at q
  · exact op_add pins s σ H x y u w _ I r1 r2 ⟨_, _, b1.int, b2.int, poE_va sim (.int _) q⟩
  · exact op_add_str pins s σ H x y u w _ I r1 r2 ⟨_, _, b1.str, b2.str, line_eq q.1, poE_va sim (.str _) q.2⟩
  · obtain ⟨a, xs, e1, h1, k1⟩ := b1.lst sim.sub
    obtain ⟨b, ys, e2, h2, k2⟩ := b2.lst sim.sub
    exact op_cat pins s σ H x y u w _ I r1 r2 ⟨a, b, xs, ys, e1, e2, h1, h2, by rw [k1.length, k2.length]; exact line_eq q.1, fun p hp => poE_ow sim hp (k1.append k2) q.2⟩
  · obtain ⟨a, xs, e1, h1, k1⟩ := b1.tup
    obtain ⟨b, ys, e2, h2, k2⟩ := b2.tup
    refine op_catA pins s σ H x y u w _ I r1 r2 ⟨a, b, xs, ys, e1, e2, by rw [hK]; exact same_seqT sim.sub h1, by rw [hK]; exact same_seqT sim.sub h2, by rw [k1.length, k2.length]; exact line_eq q.1, fun e => ?_, fun n e => ?_, fun n1 n2 p hp => poE_tup sim hp (k1.append k2) q.2⟩
    · subst e
      have z1 := k1.length
      cases k1
      exact poE_va sim (.tup h2 k2) (by simpa using q.2)
    · subst e
      cases k2
      exact poE_va sim (.tup h1 k1) (by simpa using q.2)
  · exact q.elim
theorem ub_neg : UnB X z (unaryOp .USub) (fun d Q => match d with | .int i => Q (.va (.int (-i))) | _ => False) := by
  intro pins s σ H S M ρ x u d Q0 I sim b r q
  split at q
  · exact un_neg pins s σ H x u _ I r ⟨_, b.int, poE_va sim (.int _) q⟩
  · exact q.elim

/-! ### == -/
mutual
def toPy : D → PyData
  | .non => .none
  | .bl b => .bool b
  | .int i => .int i
  | .str x => .str x
  | .tup xs => .tuple (toPyA xs)
  | .lst xs => .list (toPyA xs)
  | .ref _ => .dict []
  | .ty _ => .dict []
  | .set _ _ => .dict []
  | .dic _ _ => .dict []
  | .obj _ _ _ => .dict []
def toPyA : List D → List PyData
  | [] => []
  | d :: ds => toPy d :: toPyA ds
end
mutual
/-- data without addresses and types -/
def isPure : D → Bool
  | .tup xs => isPureA xs
  | .lst xs => isPureA xs
  | .ref _ => false
  | .ty _ => false
  | .set _ _ => false
  | .dic _ _ => false
  | .obj _ _ _ => false
  | _ => true
def isPureA : List D → Bool
  | [] => true
  | d :: ds => isPure d && isPureA ds
end
mutual
theorem Rp.dp {K : Fg} {S H : Hp} (e : Same S H) : ∀ (d : D) (v : V), isPure d = true → Rp K S v d → Dp K H v (toPy d)
  | .non, _, _, h => by cases h; exact .non
  | .bl b, _, _, h => by cases h; exact .bl b
  | .int i, _, _, h => by cases h; exact .int i
  | .str x, _, _, h => by cases h; exact .str x
  | .ty n, _, p, h => by simp [isPure] at p
  | .set f n, _, p, h => by simp [isPure] at p
  | .dic ks ds, _, p, h => by simp [isPure] at p
  | .obj c fs ds, _, p, h => by simp [isPure] at p
  | .ref a, _, p, h => by simp [isPure] at p
  | .lst ds, _, p, h => by cases h with | lst a b => exact .lst (.of (e _ _ a)) (RpA.dp e ds _ (by simpa [isPure] using p) b)
  | .tup ds, _, p, h => by cases h with | tup a b => exact .tup (same_seqT e a) (RpA.dp e ds _ (by simpa [isPure] using p) b)
theorem RpA.dp {K : Fg} {S H : Hp} (e : Same S H) : ∀ (ds : List D) (vs : List V), isPureA ds = true → RpA K S vs ds → DpAll K H vs (toPyA ds)
  | [], _, _, h => by cases h; exact .nil
  | d :: ds, _, p, h => by
    simp only [isPureA, Bool.and_eq_true] at p
    cases h with | cons a b => exact .cons (Rp.dp e d _ p.1 a) (RpA.dp e ds _ p.2 b)
end
theorem Rb.dp (e : Same S H) {v : V} {d : D} (p : isPure d = true) (h : Rb z.K S M H v d) : Dp z.K H v (toPy d) := by
  rcases h with h | ⟨a, xs, ds, rfl, rfl, h1, h2, _⟩
  · exact Rp.dp e d v p h
  · exact .lst (.of h1) (RpA.dp e ds xs (by simpa [isPure] using p) h2)
/-- may be compared: no address, nested at most 64 deep -/
def cmpOk (d : D) : Bool := isPure d && SeqAt.shaped (toPy d)
def deq (a b : D) : Bool := PyData.eqv (toPy a) (toPy b)
def dEq : OD := fun a b Q => (cmpOk a = true ∧ cmpOk b = true) ∧ Q (.va (.bl (deq a b)))
def dNe : OD := fun a b Q => (cmpOk a = true ∧ cmpOk b = true) ∧ Q (.va (.bl (!deq a b)))
theorem ob_eq (hu : X.A.units + 64 < cLine) (hK : X.K = z.K := by first | assumption | rfl) : OpB X z (compareOp .Eq) dEq :=
  opB_of (op_eqD hu) fun σ H S M ρ x y d1 d2 Q0 sim b1 b2 q => by
    obtain ⟨⟨p1, p2⟩, q⟩ := q
    unfold cmpOk at p1 p2
    rw [Bool.and_eq_true] at p1 p2
    exact ⟨_, _, by rw [hK]; exact b1.dp sim.sub p1.1, by rw [hK]; exact b2.dp sim.sub p2.1, p1.2, p2.2, poE_va sim (.bl _) q⟩
theorem ob_ne (hu : X.A.units + 64 < cLine) (hK : X.K = z.K := by first | assumption | rfl) : OpB X z (compareOp .NotEq) dNe :=
  opB_of (op_neD hu) fun σ H S M ρ x y d1 d2 Q0 sim b1 b2 q => by
    obtain ⟨⟨p1, p2⟩, q⟩ := q
    unfold cmpOk at p1 p2
    rw [Bool.and_eq_true] at p1 p2
    exact ⟨_, _, by rw [hK]; exact b1.dp sim.sub p1.1, by rw [hK]; exact b2.dp sim.sub p2.1, p1.2, p2.2, poE_va sim (.bl _) q⟩
/-- == of ints alone -/
abbrev dEqI : OD := dI2 CT fun i j => .bl (decide (i = j))
abbrev dNeI : OD := dI2 CT fun i j => .bl (!decide (i = j))
def isNon : D → Bool
  | .non => true
  | _ => false
theorem Rb.isNon {v : V} {d : D} (h : Rb z.K S M H v d) : decide (v = .non) = PL.isNon d := by
  rcases h with h | ⟨_, _, _, rfl, rfl, _⟩
  · cases h <;> rfl
  · rfl
/-- is None -/
def dIsN : OD := fun a b Q => match b with
  | .non => Q (.va (.bl (isNon a)))
  | _ => False
def dNotN : OD := fun a b Q => match b with
  | .non => Q (.va (.bl (!isNon a)))
  | _ => False
theorem ob_notN : OpB X z (compareOp .IsNot) dNotN := opB_of op_notN fun σ H S M ρ x y d1 d2 Q0 sim b1 b2 q => by
  unfold dNotN at q
  split at q
  · exact ⟨b2.non, by rw [b1.isNon]; exact poE_va sim (.bl _) q⟩
  · exact q.elim

/-! ### in -/
def dIn (neg : Bool) : OD := fun a b Q => match b with
  | .lst ds => (cmpOk a = true ∧ cmpOk (.lst ds) = true) ∧ Q (.va (.bl (if neg then !(ds.any fun x => deq x a) else ds.any fun x => deq x a)))
  | .tup ds => (cmpOk a = true ∧ cmpOk (.tup ds) = true) ∧ Q (.va (.bl (if neg then !(ds.any fun x => deq x a) else ds.any fun x => deq x a)))
  | _ => False
theorem toPyA_any {p : PyData → Bool} : ∀ ds : List D, (toPyA ds).any p = ds.any fun x => p (toPy x)
  | [] => rfl
  | d :: ds => by rw [toPyA, List.any_cons, List.any_cons, toPyA_any ds]
theorem ob_notIn (hu : X.A.units + 65 < cLine) (hK : X.K = z.K := by first | assumption | rfl) : OpB X z (compareOp .NotIn) (dIn true) := by
  intro pins s σ H S M ρ x y u w d1 d2 Q0 I sim b1 b2 r1 r2 q
  unfold dIn at q
  split at q
  · rename_i ds
    obtain ⟨⟨p1, p2⟩, q⟩ := q
    unfold cmpOk at p1 p2
    rw [Bool.and_eq_true] at p1 p2
    have k1 : Dp X.K H x (toPy d1) := by rw [hK]; exact b1.dp sim.sub p1.1
    have k2 : Dp X.K H y (toPy (.lst ds)) := by rw [hK]; exact b2.dp sim.sub p2.1
    obtain ⟨as, q1⟩ := Dp.reads I _ _ _ k1 r1
    obtain ⟨bs, q2⟩ := Dp.reads I _ _ _ k2 r2
    rw [toPy] at q2 p2
    refine SeqAt.notIn_list_reads q2 q1 (SeqAt.canLay_of_shaped p2.2) (SeqAt.canLay_of_shaped p1.2) (room_in_shaped p1.2 hu) ⟨.bl _, H, I, rfl, ?_⟩
    have e := toPyA_any (p := fun zz => PyData.eqv zz (toPy d1)) ds
    rw [e]
    exact poE_va sim (.bl _) q
  · rename_i ds
    obtain ⟨⟨p1, p2⟩, q⟩ := q
    unfold cmpOk at p1 p2
    rw [Bool.and_eq_true] at p1 p2
    have k1 : Dp X.K H x (toPy d1) := by rw [hK]; exact b1.dp sim.sub p1.1
    have k2 : Dp X.K H y (toPy (.tup ds)) := by rw [hK]; exact b2.dp sim.sub p2.1
    obtain ⟨as, q1⟩ := Dp.reads I _ _ _ k1 r1
    obtain ⟨bs, q2⟩ := Dp.reads I _ _ _ k2 r2
    rw [toPy] at q2 p2
    refine SeqAt.notIn_tuple_reads q2 q1 (SeqAt.canLay_of_shaped p2.2) (SeqAt.canLay_of_shaped p1.2) (room_in_shaped p1.2 hu) ⟨.bl _, H, I, rfl, ?_⟩
    have e := toPyA_any (p := fun zz => PyData.eqv zz (toPy d1)) ds
    rw [e]
    exact poE_va sim (.bl _) q
  · exact q.elim
end
end PL
namespace PL
open PySem PySem.Spec PyProof.Rows L2

/-! ### items, slices -/
def dIx : OD := fun a b Q => match a, b with
  | .lst ds, .int i => (match atI ds i with | some d => Q (.va d) | none => False)
  | .tup ds, .int i => (match atI ds i with | some d => Q (.va d) | none => False)
  | .str x, .int i => x.length ≤ 16777216 ∧ (match atI x.cps.toList i with | some c => Q (.va (.str ⟨#[c]⟩)) | none => False)
  | _, _ => False
section
variable {X : Cx} {z : Z} {S : Hp} {M : Mu} {H : Hp} {a b e : Expr} {pos : Pos} {qa qb : QB}
theorem atI_rp {K : Fg} {xs : List V} {ds : List D} {i : Int} {d : D} (r : RpA K S xs ds) (h : atI ds i = some d) : ∃ v, atI xs i = some v ∧ Rp K S v d := by
  unfold atI at h ⊢
  rw [r.length]
  cases e : ixN ds.length i with
  | none => rw [e] at h; cases h
  | some j =>
    rw [e] at h
    exact r.get (show ds[j]? = some d from h)
theorem qe_ix (ha : PE X a (liB z qa)) (hb : PE X b (liB z qb)) (hs : PlainIx b := by exact fun _ _ => rfl) (hK : X.K = z.K := by first | assumption | rfl) : PE X (.Subscript a b pos) (liE z (eBin dIx qa qb)) := by
  refine ⟨fun pins s σ H Q I h => ?_⟩
  refine Subscript_ (binT ha hb I (bin_lift h) fun v u s2 x y H2 I2 rx ry ⟨S, M, ρ, d1, d2, Q0, sim, b1, b2, o, post⟩ => ?_)
  refine thn (ix_seq a b pins s2 σ H2 x y v u (PoE z S M σ H2 fun r ρ' M' => ρ' = ρ ∧ M' = M ∧ Q0 r) I2 rx ry ?_ (hs _ _)) fun w s3 ⟨y, H3, I3, r3, p3⟩ => ⟨y, H3, I3, r3, post _ _ p3⟩
  unfold dIx at o
  split at o
  · split at o
    · rename_i e
      obtain ⟨p, xs, e1, h1, k1⟩ := b1.lst sim.sub
      obtain ⟨v, e2, rv⟩ := atI_rp k1 e
      exact .inl ⟨p, xs, _, v, e1, b2.int, .of h1, e2, poE_va sim rv o⟩
    · exact o.elim
  · split at o
    · rename_i e
      obtain ⟨p, xs, e1, h1, k1⟩ := b1.tup
      obtain ⟨v, e2, rv⟩ := atI_rp k1 e
      exact .inr (.inl ⟨p, xs, _, v, e1, b2.int, by rw [hK]; exact same_seqT sim.sub h1, e2, poE_va sim rv o⟩)
    · exact o.elim
  · obtain ⟨hl, o⟩ := o
    split at o
    · rename_i e
      exact .inr (.inr ⟨_, _, _, b1.str, b2.int, line_eq hl, e, poE_va sim (.str _) o⟩)
    · exact o.elim
  · exact o.elim

abbrev QO := Ev → Mu → (Option Int → Ev → Mu → Prop) → Prop
def oNone : QO := fun ρ M Q => Q none ρ M
def oSome (q : QB) : QO := fun ρ M Q => q ρ M fun d ρ' M' => match d with | .int i => Q (some i) ρ' M' | _ => False
/-- the items of xs[lo:hi] -/
def cutL {α : Type} (xs : List α) (lo hi : Option Int) : List α := (xs.drop (HT.sIx xs.length 0 lo)).take (HT.sIx xs.length xs.length hi - HT.sIx xs.length 0 lo)
def eSl (qa : QB) (ql qh : QO) : QE := fun ρ M Q => qa ρ M fun d ρ1 M1 => ql ρ1 M1 fun lo ρ2 M2 => qh ρ2 M2 fun hi ρ3 M3 => match d with
  | .lst ds => Q (.ow (.lst (cutL ds lo hi))) ρ3 M3
  | .tup ds => Q (.va (.tup (cutL ds lo hi))) ρ3 M3
  | .str x => x.length ≤ 16777216 ∧ Q (.va (.str (cutS x lo hi))) ρ3 M3
  | _ => False
/-! ### built-in functions -/
abbrev CD := List D → (Sl → Prop) → Prop
def CallB (X : Cx) (z : Z) (f : Value) (cd : CD) : Prop :=
  ∀ (pins : List (Addr × Obj)) (s : Shared) (σ : St) (H S : Hp) (M : Mu) (ρ : Ev) (xs : List V) (us : List Value) (ds : List D) (Q0 : Sl → Prop), Inv X pins σ H s → Sim z S M ρ σ H → RbA z.K S M H xs ds → Vals xs us → cd ds Q0 →
    wpAny (model X.prog X.w) X.A (call f us) (EP X pins σ (PoE z S M σ H fun r ρ' M' => ρ' = ρ ∧ M' = M ∧ Q0 r)) X.xe s
def eB (cd : CD) (qr : QA) : QE := fun ρ M Q => qr ρ M fun ds ρ1 M1 => cd ds fun r => Q r ρ1 M1
variable {x : Str} {p : Pos} {es : List Expr} {qr : QA} {cd : CD} {bid T : String}
theorem callB_lift {σ : St} {Q : VK} (h : liE z (eB cd qr) σ H Q) : liAB z qr σ H fun vs H1 => ∃ S M ρ ds Q0, Sim z S M ρ σ H1 ∧ RbA z.K S M H1 vs ds ∧ cd ds Q0 ∧ ∀ v H', PoE z S M σ H1 (fun r ρ' M' => ρ' = ρ ∧ M' = M ∧ Q0 r) v H' → Q v H' := by
  obtain ⟨S, M, ρ, Q0, sim, h, post⟩ := h
  refine ⟨S, M, ρ, _, sim, h, fun vs H1 ⟨ds, ρ1, M1, S1, q1, st1, sim1, rb⟩ => ⟨S1, M1, ρ1, ds, _, sim1, rb, q1, fun v H' ⟨r, ρ', M', S', ⟨e1, e2, q⟩, st, sim', res⟩ => post v H' ⟨r, ρ', M', S', ?_, st1.trans st, sim', res⟩⟩⟩
  subst e1 e2
  exact q
theorem qe_callB (hc : CallB X z (.builtin bid) cd) (hg : Gl X x) (hm : X.mg x = none) (hv : bootBuiltins x = some (.builtin bid)) (ha : PA X (e :: es) (liAB z qr)) (hn : x ≠ "__name__" := by decide) (hdb : (x == ("__debug__" : Str)) = false := by decide)
    (he : starEach (e :: es) X.env = (false, eval e X.env) :: starEach es X.env := by rfl) (hpl : (backTo pos (starEach es X.env)).any (·.1) = false := by rfl) : PE X (.Call (.Name x p) (e :: es) [] pos) (liE z (eB cd qr)) := by
  refine ⟨fun pins s σ H Q I h => ?_⟩
  refine wpAny_Call_Name_kw (ld_blt I hg hm hv ?_ hn hdb)
  refine PyProof.Rows.callWith_builtin1 (thn (ha.run pos pins s σ H _ I (callB_lift h)) fun us s1 ⟨vs, H1, I1, r1, ⟨S, M, ρ, ds, Q0, sim, rb, c, post⟩⟩ => ?_) he hpl
  exact thn (hc pins s1 σ H1 S M ρ vs us ds Q0 I1 sim rb r1 c) fun w s3 ⟨y, H3, I3, r3, p3⟩ => ⟨y, H3, I3, r3, post _ _ p3⟩
theorem qe_callTy (hc : CallB X z (.type T) cd) (hg : Gl X x) (hm : X.mg x = none) (hv : bootBuiltins x = some (.type T)) (ha : PA X (e :: es) (liAB z qr)) (hn : x ≠ "__name__" := by decide) (hdb : (x == ("__debug__" : Str)) = false := by decide)
    (he : starEach (e :: es) X.env = (false, eval e X.env) :: starEach es X.env := by rfl) (hpl : (backTo pos (starEach es X.env)).any (·.1) = false := by rfl) : PE X (.Call (.Name x p) (e :: es) [] pos) (liE z (eB cd qr)) := by
  refine ⟨fun pins s σ H Q I h => ?_⟩
  refine wpAny_Call_Name_kw (ld_blt I hg hm hv ?_ hn hdb)
  refine PyProof.Rows.callWith_type1 (thn (ha.run pos pins s σ H _ I (callB_lift h)) fun us s1 ⟨vs, H1, I1, r1, ⟨S, M, ρ, ds, Q0, sim, rb, c, post⟩⟩ => ?_) he hpl
  exact thn (hc pins s1 σ H1 S M ρ vs us ds Q0 I1 sim rb r1 c) fun w s3 ⟨y, H3, I3, r3, p3⟩ => ⟨y, H3, I3, r3, post _ _ p3⟩
theorem callB_of {f : Value} {r : List V → Hp → VK → Prop} (h : CallR X f r)
    (k : ∀ (σ : St) (H S : Hp) (M : Mu) (ρ : Ev) (xs : List V) (ds : List D) (Q0 : Sl → Prop), Sim z S M ρ σ H → RbA z.K S M H xs ds → cd ds Q0 → r xs H (PoE z S M σ H fun r ρ' M' => ρ' = ρ ∧ M' = M ∧ Q0 r)) : CallB X z f cd :=
  fun pins s σ H S M ρ xs us ds Q0 I sim rb rv q => h pins s σ H xs us _ I rv (k σ H S M ρ xs ds Q0 sim rb q)
/-- len -/
def cLen : CD := fun ds Q => match ds with
  | [.lst xs] => Q (.va (.int xs.length))
  | [.tup xs] => Q (.va (.int xs.length))
  | [.str x] => x.length ≤ 16777216 ∧ Q (.va (.int x.length))
  | _ => False
theorem cb_len (hK : X.K = z.K := by first | assumption | rfl) : CallB X z (.builtin "len") cLen := callB_of call_len fun σ H S M ρ xs ds Q0 sim rb q => by
  unfold cLen at q
  split at q
  · cases rb with
    | cons r1 rr =>
      cases rr
      obtain ⟨a, xs, rfl, h1, k1⟩ := r1.lst sim.sub
      exact ⟨_, xs.length, rfl, .inl ⟨xs, .of h1, rfl⟩, by rw [k1.length]; exact poE_va sim (.int _) q⟩
  · cases rb with
    | cons r1 rr =>
      cases rr
      obtain ⟨a, xs, rfl, h1, k1⟩ := r1.tup
      exact ⟨_, xs.length, rfl, .inr ⟨xs, by rw [hK]; exact same_seqT sim.sub h1, rfl⟩, by rw [k1.length]; exact poE_va sim (.int _) q⟩
  · cases rb with
    | cons r1 rr =>
      cases rr
      obtain rfl := r1.str
      exact ⟨_, _, rfl, ⟨line_eq q.1, rfl⟩, poE_va sim (.int _) q.2⟩
  · exact q.elim
/-- int -/
def cInt : CD := fun ds Q => match ds with
  | [.int i] => Q (.va (.int i))
  | [.bl b] => Q (.va (.int (if b then 1 else 0)))
  | _ => False
theorem cb_int : CallB X z (.type "int") cInt := callB_of call_int1 fun σ H S M ρ xs ds Q0 sim rb q => by
  unfold cInt at q
  split at q
  · cases rb with | cons r1 rr => cases rr; exact .inl ⟨_, by rw [r1.int], poE_va sim (.int _) q⟩
  · cases rb with | cons r1 rr => cases rr; exact .inr ⟨_, by rw [r1.bl], poE_va sim (.int _) q⟩
  · exact q.elim
def cAbs : CD := fun ds Q => match ds with
  | [.int i] => Q (.va (.int (if i < 0 then -i else i)))
  | _ => False
def cMax2 : CD := fun ds Q => match ds with
  | [.int i, .int j] => Q (.va (.int (if j > i then j else i)))
  | _ => False
def cMin2 : CD := fun ds Q => match ds with
  | [.int i, .int j] => Q (.va (.int (if j < i then j else i)))
  | _ => False
/-- divmod -/
def cDivmod : CD := fun ds Q => match ds with
  | [.int i, .int j] => CDivS i j ∧ Q (.va (.tup [.int (i / j), .int (i % j)]))
  | _ => False
/-- list, tuple of a list or a tuple -/
def cList : CD := fun ds Q => match ds with
  | [.lst xs] => Q (.ow (.lst xs))
  | [.tup xs] => Q (.ow (.lst xs))
  | _ => False
theorem cb_list (hK : X.K = z.K := by first | assumption | rfl) : CallB X z (.type "list") cList := callB_of call_list_of fun σ H S M ρ xs ds Q0 sim rb q => by
  unfold cList at q
  split at q
  · cases rb with
    | cons r1 rr =>
      cases rr
      obtain ⟨a, xs, rfl, h1, k1⟩ := r1.lst sim.sub
      exact ⟨a, xs, rfl, .inl (.of h1), fun p hp => poE_ow sim hp k1 q⟩
  · cases rb with
    | cons r1 rr =>
      cases rr
      obtain ⟨a, xs, rfl, h1, k1⟩ := r1.tup
      exact ⟨a, xs, rfl, .inr (by rw [hK]; exact same_seqT sim.sub h1), fun p hp => poE_ow sim hp k1 q⟩
  · exact q.elim
def cTuple : CD := fun ds Q => match ds with
  | [.lst xs] => Q (.va (.tup xs))
  | [.tup xs] => Q (.va (.tup xs))
  | _ => False
/-- lists of intsOf, of boolsOf -/
def intsOf : List D → Option (List Int)
  | [] => some []
  | .int i :: r => (intsOf r).map (i :: ·)
  | _ => none
def boolsOf : List D → Option (List Bool)
  | [] => some []
  | .bl i :: r => (boolsOf r).map (i :: ·)
  | _ => none
theorem boolsOf_eq : ∀ {ds : List D} {ns : List Bool}, boolsOf ds = some ns → ds = ns.map D.bl
  | [], ns, h => by rw [boolsOf] at h; cases h; rfl
  | .bl i :: r, ns, h => by
    rw [boolsOf] at h
    cases e : boolsOf r with
    | none => rw [e] at h; cases h
    | some ms => rw [e] at h; cases h; rw [boolsOf_eq e]; rfl
  | .non :: _, _, h => by cases h
  | .int _ :: _, _, h => by cases h
  | .str _ :: _, _, h => by cases h
  | .tup _ :: _, _, h => by cases h
  | .lst _ :: _, _, h => by cases h
  | .ref _ :: _, _, h => by cases h
  | .ty _ :: _, _, h => by cases h
  | .set _ _ :: _, _, h => by cases h
  | .dic _ _ :: _, _, h => by cases h
  | .obj _ _ _ :: _, _, h => by cases h
def cSum : CD := fun ds Q => match ds with
  | [.lst xs] => (match intsOf xs with | some ns => Q (.va (.int ns.sum)) | none => False)
  | _ => False
def cMax : CD := fun ds Q => match ds with
  | [.lst xs] => (match intsOf xs with | some ns => 0 < ns.length ∧ ∀ m, m ∈ ns → (∀ y, y ∈ ns → y ≤ m) → Q (.va (.int m)) | none => False)
  | _ => False
def cMin : CD := fun ds Q => match ds with
  | [.lst xs] => (match intsOf xs with | some ns => 0 < ns.length ∧ ∀ m, m ∈ ns → (∀ y, y ∈ ns → m ≤ y) → Q (.va (.int m)) | none => False)
  | _ => False
def cAll : CD := fun ds Q => match ds with
  | [.lst xs] => (match boolsOf xs with | some bs => Q (.va (.bl (bs.all id))) | none => False)
  | _ => False
theorem cb_all (hc : X.calm = true) : CallB X z (.builtin "all") cAll := callB_of (cr_all hc) fun σ H S M ρ xs ds Q0 sim rb q => by
  unfold cAll at q
  split at q
  · split at q
    · rename_i e
      cases rb with
      | cons r1 rr =>
        cases rr
        obtain ⟨a, xs, rfl, h1, k1⟩ := r1.lst sim.sub
        rw [boolsOf_eq e] at k1
        rw [k1.blsV] at h1
        exact ⟨a, _, rfl, .of h1, poE_va sim (.bl _) q⟩
    · exact q.elim
  · exact q.elim
def cAny : CD := fun ds Q => match ds with
  | [.lst xs] => (match boolsOf xs with | some bs => Q (.va (.bl (bs.any id))) | none => False)
  | _ => False
/-- sorted of intsOf -/
def cSorted : CD := fun ds Q => match ds with
  | [.lst xs] => (match intsOf xs with | some ns => ∀ ms : List Int, ms.Perm ns → ms.Pairwise (· ≤ ·) → Q (.ow (.lst (ms.map D.int))) | none => False)
  | _ => False
/-- gcd, lcm -/
def cGcd : CD := fun ds Q => match ds with
  | [.int i, .int j] => Q (.va (.int ((Nat.gcd i.natAbs j.natAbs : Nat) : Int)))
  | _ => False
def cLcm : CD := fun ds Q => match ds with
  | [.int i, .int j] => (-1000000000000000000 < i ∧ i < 1000000000000000000 ∧ -1000000000000000000 < j ∧ j < 1000000000000000000) ∧ Q (.va (.int ((Nat.lcm i.natAbs j.natAbs : Nat) : Int)))
  | _ => False
/-- list(range(a, b)) -/
def eRange (qa qb : QB) : QE := fun ρ M Q => qa ρ M fun d1 ρ1 M1 => qb ρ1 M1 fun d2 ρ2 M2 => match d1, d2 with
  | .int i, .int j => (-4611686018427387904 ≤ i ∧ i < 4611686018427387904 ∧ -4611686018427387904 ≤ j ∧ j < 4611686018427387904 ∧ j - i ≤ 16777216) ∧ Q (.ow (.lst (rangeL i j))) ρ2 M2
  | _, _ => False
/-! ### isinstance -/
def tyOf : D → Option String
  | .non => some "NoneType"
  | .bl _ => some "bool"
  | .int _ => some "int"
  | .str _ => some "str"
  | .lst _ => some "list"
  | .tup _ => some "tuple"
  | _ => none
def isInst (d : D) (n : String) : Option Bool := (tyOf d).bind fun t => kitB t n
def eIsi (qa : QB) (n : String) : QE := fun ρ M Q => qa ρ M fun d ρ1 M1 => match isInst d n with
  | some b => Q (.va (.bl b)) ρ1 M1
  | none => False
/-! ### lists that are changed -/
def sApp (i : Nat) (q : QE) : QS := fun D ρ M => match ρ[i]? with
  | some (.ow (.lst _)) => q ρ M fun r ρ1 M1 => (match ρ1[i]? with
    | some (.ow (.lst ds)) => ds.length < 16777216 ∧ D.nx (ρ1.set i (.ow (.lst (ds ++ [r.val])))) M1
    | _ => False)
  | _ => False
variable {ea : QE}
def sExt (i : Nat) (q : QE) : QS := fun D ρ M => match ρ[i]? with
  | some (.ow (.lst _)) => q ρ M fun r ρ1 M1 => (match ρ1[i]?, r.val with
    | some (.ow (.lst ds)), .lst es => ds.length + es.length ≤ 16777216 ∧ D.nx (ρ1.set i (.ow (.lst (ds ++ es)))) M1
    | _, _ => False)
  | _ => False
def sPop (i : Nat) : QS := fun D ρ M => match ρ[i]? with
  | some (.ow (.lst ds)) => ds ≠ [] ∧ D.nx (ρ.set i (.ow (.lst ds.dropLast))) M
  | _ => False
theorem RpA.dropLast {K : Fg} {S : Hp} {vs : List V} {ds : List D} (h : RpA K S vs ds) : RpA K S vs.dropLast ds.dropLast := by
  rw [List.dropLast_eq_take, List.dropLast_eq_take, h.length]
  exact h.take _
/-- x[e] = e2 -/
def sSet (i : Nat) (q : QE) (qb : QB) : QS := fun D ρ M => q ρ M fun r ρ1 M1 => (match ρ1[i]? with
  | some (.ow (.lst _)) => qb ρ1 M1 fun d ρ2 M2 => (match ρ2[i]?, d with
    | some (.ow (.lst ds)), .int k => (match ixN ds.length k with | some j => D.nx (ρ2.set i (.ow (.lst (ds.set j r.val)))) M2 | none => False)
    | _, _ => False)
  | _ => False)
end
end PL
namespace PL
open PySem PySem.Spec PyProof.Rows L2

/-! ### comprehensions -/
def wipeE (ρ : Ev) : List Nat → Ev
  | [] => ρ
  | v :: vs => (wipeE ρ vs).set v .un
theorem wipe_at : ∀ {σ : St} {vs : List Nat} {j : Nat}, j ∉ vs → (wipe σ vs)[j]? = σ[j]?
  | _, [], _, _ => rfl
  | σ, v :: vs, j, h => by
    unfold wipe
    rw [List.getElem?_set_ne (fun e => h (by simp [e])), wipe_at (fun e => h (by simp [e]))]
theorem wipeE_at : ∀ {ρ : Ev} {vs : List Nat} {j : Nat}, j ∉ vs → (wipeE ρ vs)[j]? = ρ[j]?
  | _, [], _, _ => rfl
  | σ, v :: vs, j, h => by
    unfold wipeE
    rw [List.getElem?_set_ne (fun e => h (by simp [e])), wipeE_at (fun e => h (by simp [e]))]
theorem wipeE_in : ∀ {ρ : Ev} {vs : List Nat} {j : Nat} {x : Sl}, j ∈ vs → (wipeE ρ vs)[j]? = some x → x = .un
  | _, [], _, _, h, _ => by simp at h
  | ρ, v :: vs, j, x, h, e => by
    unfold wipeE at e
    rcases set_get e with ⟨_, e2, _⟩ | ⟨ne, e2⟩
    · exact e2.symm
    · rcases List.mem_cons.mp h with q | q
      · exact absurd q.symm ne
      · exact wipeE_in q e2
theorem wipe_in : ∀ {σ : St} {vs : List Nat} {j : Nat}, j ∈ vs → j < σ.length → (wipe σ vs)[j]? = some none
  | _, [], _, h, _ => by simp at h
  | σ, v :: vs, j, h, hl => by
    unfold wipe
    by_cases e : v = j
    · subst e
      rw [List.getElem?_set_self (by rw [wipe_length]; exact hl)]
    · rw [List.getElem?_set_ne e]
      rcases List.mem_cons.mp h with q | q
      · exact absurd q.symm e
      · exact wipe_in q hl
theorem wipeE_length (ρ : Ev) : ∀ vs : List Nat, (wipeE ρ vs).length = ρ.length
  | [] => rfl
  | v :: vs => by unfold wipeE; rw [List.length_set, wipeE_length ρ vs]
/-- slots that agree elsewhere are the same when wiped -/
theorem wipe_same {σ σ' : St} {vs : List Nat} (hl : σ'.length = σ.length) (h : ∀ j, j ∉ vs → σ'[j]? = σ[j]?) : wipe σ' vs = wipe σ vs := by
  refine List.ext_getElem? fun j => ?_
  by_cases hj : j ∈ vs
  · by_cases hlt : j < σ.length
    · rw [wipe_in hj hlt, wipe_in hj (by rw [hl]; exact hlt)]
    · rw [List.getElem?_eq_none (by rw [wipe_length, hl]; omega), List.getElem?_eq_none (by rw [wipe_length]; omega)]
  · rw [wipe_at hj, wipe_at hj, h j hj]
/-- no list of one's own stands in the slots -/
def notOw (ρ : Ev) (vs : List Nat) : Bool := vs.all fun i => match ρ[i]? with
  | some (.ow _) => false
  | _ => true
section
variable {z : Z} {S S' : Hp} {M M' : Mu} {ρ : Ev} {σ : St} {H H' : Hp}
theorem Sim.wiped (h : Sim z S M ρ σ H) (vs : List Nat) : Sim z S M (wipeE ρ vs) (wipe σ vs) H := by
  refine ⟨h.toCore, by rw [wipe_length, wipeE_length]; exact h.len, fun i d e => ?_, fun i o e => ?_, fun i j o o' a e1 e2 => ?_⟩
  · by_cases hi : i ∈ vs
    · cases wipeE_in hi e
    · rw [wipeE_at hi] at e
      rw [wipe_at hi]
      exact h.va i d e
  · by_cases hi : i ∈ vs
    · cases wipeE_in hi e
    · rw [wipeE_at hi] at e
      rw [wipe_at hi]
      exact h.ow i o e
  · by_cases hi : i ∈ vs
    · cases wipeE_in hi e1
    · by_cases hj : j ∈ vs
      · cases wipeE_in hj e2
      · rw [wipeE_at hi] at e1
        rw [wipeE_at hj] at e2
        rw [wipe_at hi, wipe_at hj]
        exact h.sep i j o o' a e1 e2
/-- behind a block: its own slots hold again what they held -/
theorem Sim.unwiped {vs : List Nat} {ρ2 : Ev} {σ2 : St} (h : Sim z S M ρ σ H) (hn : notOw ρ vs = true) (st : Step S M H S' M' H') (s2 : Sim z S' M' ρ2 σ2 H') (er : wipeE ρ2 vs = wipeE ρ vs) (es : wipe σ2 vs = wipe σ vs) : Sim z S' M' ρ σ H' := by
  have out : ∀ {i : Nat} {o : Ow}, ρ[i]? = some (.ow o) → i ∉ vs := fun {i o} e hi => by
    have := List.all_eq_true.mp hn i hi
    rw [e] at this
    cases this
  refine ⟨s2.toCore, h.len, fun i d e => ?_, fun i o e => ?_, h.sep⟩
  · obtain ⟨v, a, b⟩ := h.va i d e
    exact ⟨v, a, Rp.ext st.same _ _ b⟩
  · have hi := out e
    have e2 : ρ2[i]? = some (.ow o) := by
      have := congrArg (fun l => l[i]?) er
      simp only [wipeE_at hi] at this
      rw [this, e]
    have e3 : σ2[i]? = σ[i]? := by
      have := congrArg (fun l => l[i]?) es
      simp only [wipe_at hi] at this
      exact this
    rw [← e3]
    exact s2.ow i o e2
theorem Sim.hide {D : Addr} {acc : List PL.D} (h : Sim z S M ρ σ H) (r : ResE z S M ρ σ H (.ref D) (.ow (.lst acc))) : Sim { z with R := fun b => z.R b ∨ b = D } S M ρ σ H := by
  obtain ⟨a, e, h2, h3, ⟨xs, h4, _⟩, h5, h6⟩ := r
  cases e
  refine ⟨⟨h.step, h.sub, h.frS, h.mu, h.mnd, fun b hb => ?_⟩, h.len, h.va, fun i o e => ?_, h.sep⟩
  · rcases hb with hb | rfl
    · exact h.rsv b hb
    · exact ⟨h2, by rw [h4]; simp, h5⟩
  · obtain ⟨b, k1, k2, k3, k4, k5⟩ := h.ow i o e
    refine ⟨b, k1, k2, ⟨k3.1, fun w => ?_⟩, k4, k5⟩
    rcases w with w | w
    · exact k3.2 w
    · subst w
      exact h6 i o e k1
theorem Sim.show {R : Addr → Prop} (h : Sim { z with R := R } S M ρ σ H) (k : ∀ b, z.R b → R b) : Sim z S M ρ σ H :=
  ⟨⟨h.step, h.sub, h.frS, h.mu, h.mnd, fun b hb => h.rsv b (k b hb)⟩, h.len, h.va, fun i o e =>
    let ⟨a, h1, h2, h3, h4⟩ := h.ow i o e
    ⟨a, h1, h2, ⟨h3.1, fun w => h3.2 (k a w)⟩, h4⟩, h.sep⟩
/-- something that nothing is said of is changed -/
theorem Sim.poke {a : Addr} {o : HO} (h : Sim z S M ρ σ H) (hs : S a = none) (h0 : z.Nw a) (hm : ∀ p ∈ M, p.1 ≠ a) (hn : ∀ (i : Nat) o', ρ[i]? = some (.ow o') → σ[i]? ≠ some (some (.ref a))) : Sim z S M ρ σ (upd H a o) := by
  refine ⟨⟨⟨h.step.same, fun c u q n => ?_, h.step.mnew, fun c q => ?_⟩, fun c u q => ?_, h.frS, fun p hp => ?_, h.mnd, fun c hc => ?_⟩, h.len, h.va, fun i o' e => ?_, h.sep⟩
  · rw [upd_ne (fun w => by rw [w, h0.1] at q; cases q)]
    exact h.step.keep c u q n
  · by_cases w : c = a
    · subst w; rw [upd_same]; simp
    · rw [upd_ne w]; exact h.step.dom c q
  · rw [upd_ne (fun w => by rw [w, hs] at q; cases q)]
    exact h.sub c u q
  · obtain ⟨q, w⟩ := h.mu p hp
    exact ⟨q, w.ext (.refl _) (upd_ne (hm p hp))⟩
  · obtain ⟨r1, r2, r3⟩ := h.rsv c hc
    exact ⟨r1, by rw [upd_ne (fun e : c = a => h0.2 (by rw [← e]; exact hc))]; exact r2, r3⟩
  · obtain ⟨b, k1, k2, k3, k4, k5⟩ := h.ow i o' e
    exact ⟨b, k1, k2, k3, k4.ext (.refl _) (upd_ne fun w => hn i o' e (by rw [← w]; exact k1)), k5⟩
def eLc (qi : QA) (g : QG) (qt : QT) (qe : QE) (vs : List Nat) : QE := fun ρ M Q => qi ρ M fun ds ρ1 M1 => notOw ρ1 vs = true ∧ ∃ I : Nat → List D → Mu → Prop, I 0 [] M1 ∧
  (∀ i d acc M, ds[i]? = some d → I i acc M → g d (wipeE ρ1 vs) fun ρ2 => wipeE ρ2 vs = wipeE ρ1 vs ∧ qt ρ2 M fun b ρ3 M3 => ρ3 = ρ2 ∧
    (if b = true then qe ρ3 M3 fun r ρ4 M4 => ρ4 = ρ3 ∧ acc.length < 16777216 ∧ I (i + 1) (acc ++ [r.val]) M4 else I (i + 1) acc M3)) ∧
  (∀ acc M, I ds.length acc M → Q (.ow (.lst acc)) ρ1 M)
def tYes' : QT := fun ρ M Q => Q true ρ M
/-- for every call's entry with this written part -/
def anE (K : Fg) (q : QE) : TE := fun σ H Q => ∃ z : Z, K = z.K ∧ liE z q σ H Q
def anT (K : Fg) (q : QT) : TT := fun σ H Q => ∃ z : Z, K = z.K ∧ liT z q σ H Q
def anG (K : Fg) (as : List Nat) (q : QG) : TG := fun v σ H Q => ∃ z : Z, K = z.K ∧ liG z as q v σ H Q
end
section
variable {X : Cx} {z : Z}
theorem an_e {e : Expr} {q : QE} {K : Fg} (h : ∀ z : Z, K = z.K → PE X e (liE z q)) : PE X e (anE K q) := ⟨fun pins s σ H Q I ⟨z, e, w⟩ => (h z e).run pins s σ H Q I w⟩
theorem an_g {e : Expr} {q : QG} {as : List Nat} {K : Fg} (h : ∀ z : Z, K = z.K → PG X e (liG z as q)) : PG X e (anG K as q) := ⟨fun pins s σ H v u Q I r ⟨z, e, w⟩ => (h z e).run pins s σ H v u Q I r w⟩
theorem an_t0 {K : Fg} : PTs X [] (anT K tYes') := ⟨fun pins s σ H Q I ⟨z, e, S, M, ρ, Q0, sim, h, post⟩ => pts_nil.run pins s σ H Q I (post true H ⟨ρ, M, S, h, .refl, sim⟩)⟩
theorem an_t1 {c : Expr} {t : QT} {K : Fg} (h : ∀ z : Z, K = z.K → PT X c (liT z t)) : PTs X [c] (anT K t) := pts_one ⟨fun pins s σ H Q I ⟨z, e, w⟩ => (h z e).run pins s σ H Q I w⟩
theorem lc_lift {qi : QA} {g : QG} {qt : QT} {qe : QE} {vs as : List Nat} (hvs : ∀ j ∈ as, j ∈ vs) {σ : St} {H : Hp} {Q : VK} (h : liE z (eLc qi g qt qe vs) σ H Q) : tLc (liI z qi) (anG z.K as g) (anT z.K qt) (anE z.K qe) vs σ H Q := by
  obtain ⟨S, M, ρ, Q0, sim, h, post⟩ := h
  refine ⟨S, M, ρ, _, sim, h, fun J H1 ⟨ds, ρ1, M1, S1, ⟨hn, I, w0, turn, fin⟩, st1, sim1, y⟩ D hD => ?_⟩
  obtain ⟨simD, stD, resD⟩ := sim1.fresh (ds := []) hD .nil
  have hD0 : H D = none := by
    cases q : H D with
    | none => rfl
    | some o => exact absurd hD (st1.dom D (by rw [q]; simp))
  refine ⟨fun i m H' => m = ds.length - i ∧ i ≤ ds.length ∧ ∃ S' M' acc, Step S M H S' M' H' ∧ Same S1 S' ∧ Sim z S' M' ρ1 σ H' ∧ ResE z S' M' ρ1 σ H' (.ref D) (.ow (.lst acc)) ∧ I i acc M',
    ⟨ds.length, by simp, Nat.zero_le _, S1, M1, [], st1.trans stD, .refl _, simD, resD, w0⟩, ?_⟩
  rintro i m H2 ⟨rfl, hi, S2, M2, acc, st2, e2, sim2, res2, w2⟩
  by_cases hlt : i < ds.length
  · refine .inr ⟨y.go i H2 S2 e2 sim2.sub hlt, fun H' => i + 1 ≤ ds.length ∧ ∃ S' M' acc, Step S M H S' M' H' ∧ Same S1 S' ∧ Sim z S' M' ρ1 σ H' ∧ ResE z S' M' ρ1 σ H' (.ref D) (.ow (.lst acc)) ∧ I (i + 1) acc M',
      fun H' h => ⟨ds.length - (i + 1), by omega, rfl, h.1, h.2⟩, fun x H3 hy => ?_⟩
    have ed : ds[i]? = some ds[i] := List.getElem?_eq_getElem hlt
    obtain ⟨S3, a1, a2, a3, a4, rp⟩ := y.yld i H2 S2 x H3 _ e2 sim2.sub ed hy
    have sim3 := sim2.grow a1 a2 a3 a4
    have st3 : Step S2 M2 H2 S3 M2 H3 := .grow a1 a2
    obtain ⟨D', eD, n1, n2, ⟨xs, n3, n4⟩, n5, n6⟩ := id res2
    cases eD
    have res3 : ResE z S3 M2 ρ1 σ H3 (.ref D) (.ow (.lst acc)) := by
      refine ⟨D, rfl, ?_, n2, ⟨xs, a2 _ _ n3, RpA.ext a1 _ _ n4⟩, n5, n6⟩
      cases q : S3 D with
      | none => rfl
      | some o =>
        rcases a4 D (by rw [q]; simp) with e | e
        · exact absurd n1 e
        · rw [n3] at e; cases e
    have hid := sim3.hide res3
    have w3 := turn i _ acc M2 ed w2
    refine ⟨{ z with R := fun b => z.R b ∨ b = D }, rfl, S3, M2, wipeE ρ1 vs, _, _, hid.wiped vs, rp, w3, fun ρ4 σ4 ⟨er, q4⟩ sim4 k4 => ?_⟩
    have es : wipe σ4 vs = wipe σ vs := by
      have hl : σ4.length = σ.length := by
        have z1 := sim4.len
        have z2 := congrArg List.length er
        rw [wipeE_length, wipeE_length] at z2
        rw [z1, z2]
        exact sim3.len.symm
      refine wipe_same hl fun j hj => ?_
      rw [k4 j fun hm => hj (hvs j hm), wipe_at hj]
    -- back behind the block
    have back : ∀ {S6 : Hp} {M6 : Mu} {H6 : Hp}, Sim { z with R := fun b => z.R b ∨ b = D } S6 M6 ρ4 σ4 H6 → Step S3 M2 H3 S6 M6 H6 → Sim z S6 M6 ρ1 σ H6 ∧ Step S M H S6 M6 H6 ∧ Same S1 S6 ∧ ∃ xs, H6 D = some (.lst xs) ∧ RpA z.K S6 xs acc ∧ S6 D = none ∧ (∀ p ∈ M6, p.1 ≠ D) := by
      intro S6 M6 H6 s6 st6
      obtain ⟨r1, r2, r3⟩ := s6.rsv D (.inr rfl)
      have s6' := s6.show (fun b hb => .inl hb)
      exact ⟨sim3.unwiped hn st6 s6' er es, (st2.trans st3).trans st6, (e2.trans a1).trans st6.same, xs, st6.keep D _ (a2 _ _ n3) n5, RpA.ext (a1.trans st6.same) _ _ n4, r1, r3⟩
    refine ⟨es, { z with R := fun b => z.R b ∨ b = D }, rfl, S3, M2, ρ4, _, sim4, q4, fun b H5 ⟨ρ5, M5, S5, ⟨er5, q5⟩, st5, sim5⟩ => ?_⟩
    subst er5
    cases b with
    | false =>
      obtain ⟨k1, k2, k3, xs', k5, k6, k7, k8⟩ := back sim5 st5
      exact iteF ⟨hlt, S5, M5, acc, k2, k3, k1, ⟨D, rfl, k7, n2, ⟨xs', k5, k6⟩, k8, n6⟩, (by simpa using q5)⟩
    | true =>
      have q5' := (show qe _ M5 _ by simpa using q5)
      refine iteT ⟨{ z with R := fun b => z.R b ∨ b = D }, rfl, S5, M5, _, _, sim5, q5', fun v H6 ⟨r, ρ6, M6, S6, ⟨er6, hl6, q6⟩, st6, sim6, res6⟩ => ?_⟩
      subst er6
      obtain ⟨S7, sim7, st7, rp7⟩ := sim6.freeze res6
      obtain ⟨k1, k2, k3, xs', k5, k6, k7, k8⟩ := back sim7 ((st5.trans st6).trans st7)
      refine ⟨xs', k5, by rw [k6.length, sizeLine_eq]; exact hl6, hlt, S7, M6, acc ++ [r.val], ?_, k3, ?_, ?_, q6⟩
      · refine ⟨k2.same, fun c u q n => ?_, k2.mnew, fun c q => ?_⟩
        · rw [upd_ne (fun w => by rw [w, hD0] at q; cases q)]
          exact k2.keep c u q n
        · by_cases w : c = D
          · subst w; rw [upd_same]; simp
          · rw [upd_ne w]; exact k2.dom c q
      · exact k1.poke k7 n2 k8 n6
      · exact ⟨D, rfl, k7, n2, ⟨_, upd_same, k6.append (.one rp7)⟩, k8, n6⟩
  · have e : i = ds.length := by omega
    subst e
    exact .inl ⟨y.stop _ H2 S2 e2 sim2.sub (Nat.le_refl _), post _ H2 ⟨_, ρ1, M2, S2, fin acc M2 w2, st2, sim2, res2⟩⟩
theorem qe_lc {elt tg iter : Expr} {ifs : List Expr} {scope : Scope} {own : List (Str × Nat)} {pos : Pos} {qi : QA} {g : QG} {qt : QT} {qe : QE} {as : List Nat} (hc : X.calm = true) (hN : X.N.Nodup) (hi : PI X tg iter (liI z qi)) (ok : BlkOk X.N X.env.scope scope own)
    (hg : ∀ (s : Shared) (H : Hp) (C : Addr) (cl : List (Str × Addr)) (fp : List Addr) (z : Z), X.K = z.K → PG (X.blk s H scope (compEnvC scope cl C X.env) fp) tg (liG z as g))
    (ht : ∀ (s : Shared) (H : Hp) (C : Addr) (cl : List (Str × Addr)) (fp : List Addr), PTs (X.blk s H scope (compEnvC scope cl C X.env) fp) ifs (anT X.K qt))
    (he : ∀ (s : Shared) (H : Hp) (C : Addr) (cl : List (Str × Addr)) (fp : List Addr) (z : Z), X.K = z.K → PE (X.blk s H scope (compEnvC scope cl C X.env) fp) elt (liE z qe)) (hvs : ∀ j ∈ as, j ∈ own.map (·.2) := by decide) (hK : X.K = z.K := by first | assumption | rfl)
    (hs : ∀ x, foldedSetIterable iter X.env x = pure x := by intro _; rfl) : PE X (.ListComp elt [⟨tg, iter, ifs, 0⟩] scope pos) (liE z (eLc qi g qt qe (own.map (·.2)))) := by
  refine pe_w (pe_lc hc hN hi ok (fun s H C cl fp => an_g (K := X.K) (hg s H C cl fp)) ht (fun s H C cl fp => an_e (K := X.K) (he s H C cl fp)) hs) fun σ H Q h => ?_
  rw [hK]
  exact lc_lift hvs h
theorem qs_setLc {i : Nat} {y : Str} {py : Pos} {elt tg iter : Expr} {ifs : List Expr} {scope : Scope} {own : List (Str × Nat)} {pos spos : Pos} {qi : QA} {g : QG} {qt : QT} {qe : QE} {as : List Nat} (hc : X.calm = true) (hN : X.N.Nodup) (hy : X.N[i]? = some y) (hyl : X.env.scope.names.lookup y = some .local)
    (hsw : swapsWith (.ListComp elt [⟨tg, iter, ifs, 0⟩] scope pos) (some (.Name y py)) spos.line X.env = pure true) (hi : PI X tg iter (liI z qi)) (ok : BlkOk X.N X.env.scope scope own)
    (hg : ∀ (s : Shared) (H : Hp) (C : Addr) (cl : List (Str × Addr)) (fp : List Addr) (z : Z), X.K = z.K → PG (X.blk s H scope (compEnvC scope cl C X.env) fp) tg (liG z as g))
    (ht : ∀ (s : Shared) (H : Hp) (C : Addr) (cl : List (Str × Addr)) (fp : List Addr), PTs (X.blk s H scope (compEnvC scope cl C X.env) fp) ifs (anT X.K qt))
    (he : ∀ (s : Shared) (H : Hp) (C : Addr) (cl : List (Str × Addr)) (fp : List Addr) (z : Z), X.K = z.K → PE (X.blk s H scope (compEnvC scope cl C X.env) fp) elt (liE z qe)) (hvs : ∀ j ∈ as, j ∈ own.map (·.2) := by decide) (hK : X.K = z.K := by first | assumption | rfl)
    (hs : ∀ x, foldedSetIterable iter X.env x = pure x := by intro _; rfl) : PS X (.Assign [.Name y py] (.ListComp elt [⟨tg, iter, ifs, 0⟩] scope pos) spos) (liS z (sAsg i (eLc qi g qt qe (own.map (·.2))))) := by
  refine ps_w (ps_setLc (i := i) hc hN hy hyl hsw hi ok (fun s H C cl fp => an_g (K := X.K) (hg s H C cl fp)) ht (fun s H C cl fp => an_e (K := X.K) (he s H C cl fp)) hs) fun D σ H h => ?_
  obtain ⟨S, M, ρ, D0, sim, h, nx, _⟩ := h
  rw [hK]
  exact lc_lift hvs ⟨S, M, ρ, _, sim, h, fun v H' ⟨r, ρ', M', S', q, st, sim', res⟩ => nx _ M' S' _ H' q st.same (sim'.put res)⟩
end
end PL
namespace PL
open PySem PySem.Spec PyProof.Rows L2

/-! ### lists that are known by their address -/
def mput (M : Mu) (a : Addr) (o : MO) : Mu := M.map fun p => if p.1 = a then (a, o) else p
theorem mput_keys (M : Mu) (a : Addr) (o : MO) : (mput M a o).map (·.1) = M.map (·.1) := by
  unfold mput
  rw [List.map_map]
  refine List.map_congr_left fun p _ => ?_
  show (if p.1 = a then (a, o) else p).1 = p.1
  split
  · rename_i e; exact e.symm
  · rfl
theorem mem_mput {M : Mu} {a : Addr} {o : MO} {p : Addr × MO} (h : p ∈ mput M a o) : (p = (a, o) ∧ ∃ q ∈ M, q.1 = a) ∨ (p ∈ M ∧ p.1 ≠ a) := by
  obtain ⟨q, hq, e⟩ := List.mem_map.mp h
  by_cases hq2 : q.1 = a
  · rw [if_pos hq2] at e
    exact .inl ⟨e.symm, q, hq, hq2⟩
  · rw [if_neg hq2] at e
    subst e
    exact .inr ⟨hq, hq2⟩
section
variable {z : Z} {S S' : Hp} {M M' : Mu} {ρ : Ev} {σ : St} {H H' : Hp}
theorem lookup_mem {a : Addr} {o : MO} : ∀ {M : Mu}, M.lookup a = some o → (a, o) ∈ M
  | [], h => by cases h
  | (b, u) :: r, h => by
    rw [List.lookup_cons] at h
    cases e : a == b with
    | true =>
      rw [e] at h
      cases h
      rw [eq_of_beq e]
      exact List.mem_cons_self
    | false =>
      rw [e] at h
      exact List.mem_cons_of_mem _ (lookup_mem h)
theorem nodup_at {M : Mu} (hn : (M.map (·.1)).Nodup) {a : Addr} {o o' : MO} (h : (a, o) ∈ M) (h' : (a, o') ∈ M) : o = o' := by
  induction M with
  | nil => cases h
  | cons p M ih =>
    rw [List.map_cons, List.nodup_cons] at hn
    rcases List.mem_cons.mp h with e | h
    · rcases List.mem_cons.mp h' with e' | h'
      · rw [← e] at e'; cases e'; rfl
      · exact absurd (List.mem_map.mpr ⟨_, h', by rw [← e]⟩) hn.1
    · rcases List.mem_cons.mp h' with e' | h'
      · exact absurd (List.mem_map.mpr ⟨_, h, by rw [← e']⟩) hn.1
      · exact ih hn.2 h h'
/-- an object known by address is written -/
theorem Core.mset {a : Addr} {o o' : MO} {ho : HO} (h : Core z S M H) (hm : (a, o) ∈ M) (hk : MOk z.K S (upd H a ho) a o') : Core z S (mput M a o') (upd H a ho) := by
  have hs := (h.mu _ hm).1
  obtain ⟨u, hu⟩ := (h.mu _ hm).2.at
  refine ⟨⟨h.step.same, fun c w q n => ?_, fun p hp => ?_, fun c q => ?_⟩, fun c w q => ?_, h.frS, fun p hp => ?_, by rw [mput_keys]; exact h.mnd, fun c hc => ?_⟩
  · have k := h.step.keep c w q n
    rw [upd_ne (fun e => ?_)]
    · exact k
    · subst e
      rcases h.step.mnew _ hm with ⟨q', hq', e'⟩ | e'
      · exact n q' hq' e'
      · rw [show z.H0 c = none from e'] at q; cases q
  · rcases mem_mput hp with ⟨rfl, q, hq, e⟩ | ⟨hp, _⟩
    · have := h.step.mnew q hq
      rw [e] at this
      exact this
    · exact h.step.mnew p hp
  · by_cases e : c = a
    · subst e; rw [upd_same]; simp
    · rw [upd_ne e]; exact h.step.dom c q
  · rw [upd_ne (fun e => by rw [e, hs] at q; cases q)]
    exact h.sub c w q
  · rcases mem_mput hp with ⟨rfl, _⟩ | ⟨hp, ne⟩
    · exact ⟨hs, hk⟩
    · obtain ⟨k1, k2⟩ := h.mu p hp
      exact ⟨k1, k2.ext (.refl _) (upd_ne ne)⟩
  · obtain ⟨r1, r2, r3⟩ := h.rsv c hc
    refine ⟨r1, by rw [upd_ne (fun e : c = a => r3 _ hm e.symm)]; exact r2, fun p hp e => ?_⟩
    rcases mem_mput hp with ⟨rfl, q, hq, e2⟩ | ⟨hp, _⟩
    · exact r3 q hq (e2.trans e)
    · exact r3 p hp e
theorem Sim.mset {a : Addr} {o o' : MO} {ho : HO} (h : Sim z S M ρ σ H) (hm : (a, o) ∈ M) (hk : MOk z.K S (upd H a ho) a o') : Sim z S (mput M a o') ρ σ (upd H a ho) := by
  refine ⟨h.toCore.mset hm hk, h.len, h.va, fun i w e => ?_, h.sep⟩
  obtain ⟨b, h1, h2, h3, h4, h5⟩ := h.ow i w e
  refine ⟨b, h1, h2, h3, h4.ext (.refl _) (upd_ne fun e => h5 _ hm e.symm), fun p hp e => ?_⟩
  rcases mem_mput hp with ⟨rfl, q, hq, e2⟩ | ⟨hp, _⟩
  · exact h5 q hq (e2.trans e)
  · exact h5 p hp e
/-- .. is told otherwise, as it stands -/
theorem Core.mtell {a : Addr} {o o' : MO} (h : Core z S M H) (hm : (a, o) ∈ M) (hk : MOk z.K S H a o') : Core z S (mput M a o') H := by
  obtain ⟨u, hu⟩ := (h.mu _ hm).2.at
  have e : upd H a u = H := by
    funext b
    by_cases hb : b = a
    · subst hb; rw [upd_same, hu]
    · rw [upd_ne hb]
  have := h.mset (ho := u) hm (by rw [e]; exact hk)
  rw [e] at this
  exact this
end
/-- x[e], x a list that is known by its address -/
def eIxM (qa qb : QB) : QE := fun ρ M Q => qa ρ M fun d1 ρ1 M1 => qb ρ1 M1 fun d2 ρ2 M2 => match d1, d2 with
  | .ref a, .int i => (match M2.lookup a with
    | some (.lst ds) => (match atI ds i with | some d => Q (.va d) ρ2 M2 | none => False)
    | _ => False)
  | _, _ => False
def sSetM (q : QE) (qa qb : QB) : QS := fun D ρ M => q ρ M fun r ρ1 M1 => qa ρ1 M1 fun d1 ρ2 M2 => qb ρ2 M2 fun d2 ρ3 M3 => match d1, d2 with
  | .ref a, .int k => (match M3.lookup a with
    | some (.lst ds) => (match ixN ds.length k with | some j => D.nx ρ3 (mput M3 a (.lst (ds.set j r.val))) | none => False)
    | _ => False)
  | _, _ => False
section
variable {X : Cx} {z : Z} {a b e : Expr} {pos : Pos} {qa qb : QB} {ea : QE}
theorem qe_ixM (ha : PE X a (liB z qa)) (hb : PE X b (liB z qb)) (hs : PlainIx b := by exact fun _ _ => rfl) : PE X (.Subscript a b pos) (liE z (eIxM qa qb)) :=
  pe_w (pe_ix ix_list ha hb hs) fun σ H Q ⟨S, M, ρ, Q0, sim, h, post⟩ => ⟨S, M, ρ, _, sim, h, fun x H1 ⟨d1, ρ1, M1, S1, q1, st1, sim1, b1⟩ => ⟨S1, M1, ρ1, _, sim1, q1, fun y H2 ⟨d2, ρ2, M2, S2, q2, st2, sim2, b2⟩ => by
    dsimp only at q2
    split at q2
    · split at q2
      · rename_i ds em
        split at q2
        · rename_i d ed
          obtain ⟨_, xs, h1, h2⟩ := sim2.mu _ (lookup_mem em)
          obtain ⟨v, ev, rv⟩ := atI_rp h2 ed
          exact ⟨_, xs, _, v, (b1.step st2).ref, b2.int, .of h1, ev, post v H2 ⟨.va d, ρ2, M2, S2, q2, st1.trans st2, sim2, rv⟩⟩
        · exact q2.elim
      · exact q2.elim
    · exact q2.elim⟩⟩
theorem qs_setM {p2 : Pos} (he : PE X e (liE z ea)) (ha : PE X a (liB z qa)) (hb : PE X b (liB z qb))
    (hq : ∀ v, assign (.Subscript a b p2) X.env v = (do
      let ov ← holding [v] (eval a X.env)
      let iv ← holding [v, ov] (eval b X.env)
      standAt p2
      holding [v, ov, iv] (setItem ov iv v)
      release [v, ov, iv] []) := by intro _; rfl)
    (hs : swapsWithSole [.Subscript a b p2] e pos.line X.env = pure false := by rfl) (hw : swappedStores [.Subscript a b p2] e X.env = pure none := by rfl)
    (h1 : (assignEach [.Subscript a b p2] X.env).map (·.2) = [assign (.Subscript a b p2) X.env] := by rfl) : PS X (.Assign [.Subscript a b p2] e pos) (liS z (sSetM ea qa qb)) :=
  ps_w (ps_asg he (pg_sub ha hb set_list hq) hs hw h1) fun D σ H ⟨S, M, ρ, D0, sim, h, nx, _⟩ => ⟨S, M, ρ, _, sim, h, fun v H1 ⟨r, ρ1, M1, S1, q1, st1, sim1, res1⟩ => by
    obtain ⟨S1', sim1', st1', rp1⟩ := sim1.freeze res1
    refine ⟨S1', M1, ρ1, _, sim1', q1, fun x H2 ⟨d2, ρ2, M2, S2, q2, st2, sim2, b2⟩ => ⟨S2, M2, ρ2, _, sim2, q2, fun y H3 ⟨d3, ρ3, M3, S3, q3, st3, sim3, b3⟩ => ?_⟩⟩
    dsimp only at q3
    split at q3
    · split at q3
      · rename_i ds em
        split at q3
        · rename_i j ej
          obtain ⟨_, xs, h1, h2⟩ := sim3.mu _ (lookup_mem em)
          have rp3 := Rp.ext (st2.trans st3).same _ _ rp1
          exact ⟨_, xs, _, j, (b2.step st3).ref, b3.int, h1, by rw [h2.length]; exact ej, nx _ _ S3 σ _ q3 ((st1.trans st1').trans (st2.trans st3)).same (sim3.mset (lookup_mem em) ⟨_, upd_same, h2.set rp3⟩)⟩
        · exact q3.elim
      · exact q3.elim
    · exact q3.elim⟩
end

/-! ### a def keeps its promise -/
abbrev PF := fun (_ : Str) (_ : List D) (_ : Mu) => False
def stE (N : List Str) (ds : List D) : Ev := ds.map .va ++ List.replicate (N.length - ds.length) .un
theorem start_sim {K : Fg} {S : Hp} {M : Mu} {H : Hp} {vs : List V} {ds : List D} {N : List Str} {z : Z} (c : Core z S M H) (hK : z.K = K) (r : RpA K S vs ds) : Sim z S M (stE N ds) (L2.start N vs) H := by
  have hl := r.length
  have at1 : ∀ {i : Nat} {x : Sl}, (stE N ds)[i]? = some x → (∃ d, ds[i]? = some d ∧ x = .va d) ∨ x = .un := fun {i x} e => by
    unfold stE at e
    by_cases hi : i < ds.length
    · rw [List.getElem?_append_left (by simpa using hi), List.getElem?_map] at e
      cases q : ds[i]? with
      | none => rw [q] at e; cases e
      | some d => rw [q] at e; cases e; exact .inl ⟨d, rfl, rfl⟩
    · rw [List.getElem?_append_right (by simpa using hi), List.getElem?_replicate] at e
      split at e
      · cases e; exact .inr rfl
      · cases e
  refine ⟨c, ?_, fun i d e => ?_, fun i o e => ?_, fun i j o o' a e1 => ?_⟩
  · unfold stE L2.start
    simp only [List.length_append, List.length_map, List.length_replicate]
    rw [hl]
  · rcases at1 e with ⟨d', e1, e2⟩ | e2
    · cases e2
      obtain ⟨v, h1, h2⟩ := r.get e1
      refine ⟨v, ?_, by rw [hK]; exact h2⟩
      unfold L2.start
      have hi : i < vs.length := (List.getElem?_eq_some_iff.mp h1).1
      rw [List.getElem?_append_left (by simpa using hi), List.getElem?_map, h1]
      rfl
    · cases e2
  · rcases at1 e with ⟨d', e1, e2⟩ | e2 <;> cases e2
  · rcases at1 e1 with ⟨d', e1, e2⟩ | e2 <;> cases e2
theorem fn_P {P : Program} {w : World} {K : Fg} {mg : Str → Option Value} {base : Heap} {x qual : Str} {params : Arguments} {body : List Stmt} {scope : Scope} {dvs : List V} {kws : List (Str × V)} {f : Addr} {fd : FuncData} {N ps : List Str} {k : Nat} {p : PSp}
    (F : FunD K x qual params body scope dvs kws f fd) (Sc : FnScope N ps scope) (hl : ∀ ds M Q E, p ds M Q E → ds.length = ps.length)
    {q : QS} (hbody : ∀ (cdv : Value) (A : Around) (outer : List Env) (s : Shared) (H : Hp) (E : XK) (z : Z), K = z.K → Room k (A.deeper (envOfC qual scope s.heap.objs.size f cdv)) →
      PSs (cxOf CX0 P w K mg base N qual scope f cdv A outer s H E).nox body (liS z q))
    (hq : ∀ ds M Q0, p ds M Q0 PF → q { nx := fun _ M' => Q0 (.va .non) M', rt := Q0 } (stE N ds) M) : FnOk P w K mg base CX0 (k + 1) f fd ps (liP K p) := by
  refine F.ok Sc (fun vs H Q E ⟨S, M, ds, Q0, c, r, h, _⟩ => by rw [r.length]; exact hl _ _ _ _ h) fun cdv A outer s H vs Q E hr ⟨S, M, ds, Q0, c, r, h, post⟩ => ⟨_, (hbody cdv A outer s H E (zOf K H S M) rfl hr).nox, ?_⟩
  refine ⟨S, M, _, _, start_sim c rfl r, hq ds M Q0 h, fun ρ' M' S' σ' H' q e sim => ?_, fun _ _ _ _ _ q => q.elim, fun _ _ _ _ _ q => q.elim, fun r M' S' v H' q c' res => post v H' r M' S' q c' res⟩
  exact post .non H' _ M' S' q sim.toCore .non
/-! ### the law's tape -/
/-- one draw -/
def pDraw : PSp := fun ds M Q _ => match ds with
  | [.ref T, .int n] => ((T, MO.tape) ∈ M ∧ 1 ≤ n ∧ n < 1267650600228229401496703205376) ∧ ∀ r : Int, 0 ≤ r → r < n → Q (.va (.int r)) M
  | _ => False
theorem mput_mput (M : Mu) (a : Addr) (o o' : MO) : mput (mput M a o) a o' = mput M a o' := by
  unfold mput
  rw [List.map_map]
  refine List.map_congr_left fun p _ => ?_
  show (if (if p.1 = a then (a, o) else p).1 = a then (a, o') else (if p.1 = a then (a, o) else p)) = _
  by_cases h : p.1 = a
  · simp [h]
  · simp [h]
theorem mput_self {M : Mu} (hn : (M.map (·.1)).Nodup) {a : Addr} {o : MO} (h : (a, o) ∈ M) : mput M a o = M := by
  unfold mput
  conv => rhs; rw [← List.map_id M]
  refine List.map_congr_left fun p hp => ?_
  by_cases e : p.1 = a
  · rw [if_pos e]
    obtain ⟨b, o'⟩ := p
    have e' : b = a := e
    subst e'
    rw [nodup_at hn h hp]
    rfl
  · rw [if_neg e]; rfl
theorem lookup_mput {M : Mu} {a : Addr} {o : MO} (h : ∃ p ∈ M, p.1 = a) : (mput M a o).lookup a = some o := by
  induction M with
  | nil => obtain ⟨p, hp, _⟩ := h; cases hp
  | cons q M ih =>
    unfold mput
    rw [List.map_cons]
    by_cases e : q.1 = a
    · rw [if_pos e, List.lookup_cons]
      simp
    · rw [if_neg e]
      obtain ⟨p, hp, e2⟩ := h
      have hp' : p ∈ M := by
        rcases List.mem_cons.mp hp with rfl | hp
        · exact absurd e2 e
        · exact hp
      have := ih ⟨p, hp', e2⟩
      unfold mput at this
      obtain ⟨b, u⟩ := q
      rw [List.lookup_cons]
      have hb : (a == b) = false := beq_eq_false_iff_ne.mpr fun w => e w.symm
      rw [hb]
      exact this
theorem fn_draw {P : Program} {w : World} {K : Fg} {mg : Str → Option Value} {base : Heap} {x qual : Str} {params : Arguments} {body : List Stmt} {scope : Scope} {dvs : List V} {kws : List (Str × V)} {f : Addr} {fd : FuncData} {N ps : List Str} {k : Nat}
    (F : FunD K x qual params body scope dvs kws f fd) (Sc : FnScope N ps scope) (hps : ps.length = 2)
    {q : QS} (hbody : ∀ (cdv : Value) (A : Around) (outer : List Env) (s : Shared) (H : Hp) (E : XK) (z : Z), K = z.K → Room k (A.deeper (envOfC qual scope s.heap.objs.size f cdv)) →
      PSs (cxOf CX0 P w K mg base N qual scope f cdv A outer s H E).nox body (liS z q))
    (hq : ∀ (T : Addr) (n : Int) (M : Mu) (ns : List Int) (c x : Int) (Q0 : Sl → Mu → Prop), M.lookup T = some (.lst [.lst (ns.map D.int), .int c, .int x]) → 0 ≤ c → 0 ≤ x → 1 ≤ n → n < 1267650600228229401496703205376 →
      (∀ r c' x' : Int, 0 ≤ r → r < n → 0 ≤ c' → 0 ≤ x' → Q0 (.va (.int r)) (mput M T (.lst [.lst (ns.map D.int), .int c', .int x']))) → q { nx := fun _ M' => Q0 (.va .non) M', rt := Q0 } (stE N [.ref T, .int n]) M) :
    FnOk P w K mg base CX0 (k + 1) f fd ps (liP K pDraw) := by
  refine F.ok Sc (fun vs H Q E ⟨S, M, ds, Q0, c, r, h, _⟩ => ?_) fun cdv A outer s H vs Q E hr ⟨S, M, ds, Q0, c, r, h, post⟩ => ⟨_, (hbody cdv A outer s H E (zOf K H S M) rfl hr).nox, ?_⟩
  · rw [r.length, hps]
    unfold pDraw at h
    split at h
    · rfl
    · exact h.elim
  · unfold pDraw at h
    split at h
    · obtain ⟨⟨hm, h1, h2⟩, h3⟩ := h
      rename_i T n
      obtain ⟨cc, ns, kk, xx, e1, e2, e3, e4⟩ := (c.mu _ hm).2
      have hk : MOk K S H T (.lst [.lst (ns.map D.int), .int kk, .int xx]) := ⟨_, e1, .cons (.lst e2 .ints) (.cons (.int _) (.cons (.int _) .nil))⟩
      have c1 := c.mtell hm hk
      refine ⟨S, _, _, _, start_sim c1 rfl r, hq T n _ ns kk xx (fun r M' => (∃ i : Int, r = .va (.int i) ∧ 0 ≤ i ∧ i < n) ∧ ∃ c' x' : Int, 0 ≤ c' ∧ 0 ≤ x' ∧ M' = mput M T (.lst [.lst (ns.map D.int), .int c', .int x'])) (lookup_mput ⟨_, hm, rfl⟩) e3 e4 h1 h2 fun r c' x' r0 r1 c0 x0 => ⟨⟨r, rfl, r0, r1⟩, c', x', c0, x0, mput_mput _ _ _ _⟩,
        fun ρ' M' S' σ' H' q e sim => ?_, fun _ _ _ _ _ q => q.elim, fun _ _ _ _ _ q => q.elim, fun r M' S' v H' q c' res => ?_⟩
      · obtain ⟨⟨i, e, _⟩, _⟩ := q
        cases e
      · obtain ⟨⟨i, rfl, i0, i1⟩, c2, x2, c0, x0, rfl⟩ := q
        have hm2 : (T, MO.lst [.lst (ns.map D.int), .int c2, .int x2]) ∈ mput M T (.lst [.lst (ns.map D.int), .int c2, .int x2]) := lookup_mem (lookup_mput ⟨_, hm, rfl⟩)
        obtain ⟨xs, k1, k2⟩ := (c'.mu _ hm2).2
        have c3 := c'.mtell (o' := .tape) hm2 (by
          cases k2 with
          | cons a1 a2 =>
            cases a2 with
            | cons b1 b2 =>
              cases b2 with
              | cons d1 d2 =>
                cases d2
                cases b1
                cases d1
                cases a1 with
                | lst w1 w2 => exact ⟨_, ns, c2, x2, k1, by rw [w1, w2.intsV], c0, x0⟩)
        rw [mput_mput, mput_self c.mnd hm] at c3
        exact post v H' _ M S' (h3 i i0 i1) c3 res
    · exact h.elim

/-! ### the law -/
/-- script -> the tape -/
def spTape (K : Fg) : Sp := fun vs H Q _ => ∃ (a : Addr) (ns : List Int), vs = [.ref a] ∧ SqL K H a (ns.map V.int) ∧ ∀ (H' : Hp) (c p : Addr), Same H H' → H c = none → H p = none → p ≠ c → H' c = some (.lst (ns.map V.int)) → H' p = some (.lst [.ref c, .int 0, .int 0]) → Q (.ref p) H'
def spLaw (K : Fg) : Sp := fun vs H Q _ => ∃ (a : Addr) (ns : List Int), vs = [.ref a] ∧ SqL K H a (ns.map V.int) ∧ ∀ H', Q (.bl true) H'
theorem law_P {K : Fg} {N : List Str} {a : Addr} {H : Hp} {ns : List Int} {Q : VK} {q : QS} {t0 : TE} (hN : 2 ≤ N.length)
    (hS : SqL K H a (ns.map V.int)) (hQ : ∀ H', Q (.bl true) H')
    (h0 : ∀ Q' : VK, (∀ (H' : Hp) (c p : Addr), Same H H' → H c = none → H p = none → p ≠ c → H' c = some (.lst (ns.map V.int)) → H' p = some (.lst [.ref c, .int 0, .int 0]) → Q' (.ref p) H') → t0 (L2.start N [.ref a]) H Q')
    (hq : ∀ (T : Addr), q { nx := fun _ _ => False, rt := fun r _ => r = .va (.bl true) } ([Sl.un, .va (.ref T)] ++ List.replicate (N.length - 2) .un) [(T, .tape)]) :
    tSeq (tAsg t0 (gName 1)) (liS (zOf K H (fun _ => none) []) q) { nx := fun _ H' => Q .non H', rt := Q } (L2.start N [.ref a]) H := by
  refine h0 _ fun H' c p e nc np ne hc hp => ?_
  have hS1 : ∀ {b : Addr} {o : HO}, (if b = c then some (HO.lst (ns.map V.int)) else none) = some o → b = c ∧ o = .lst (ns.map V.int) := fun {b o} q => by
    by_cases hb : b = c
    · rw [if_pos hb] at q; cases q; exact ⟨hb, rfl⟩
    · rw [if_neg hb] at q; cases q
  refine ⟨fun b => if b = c then some (.lst (ns.map V.int)) else none, [(p, .tape)], _, _, ⟨⟨⟨fun _ _ q => (by cases q), fun b o q _ => e b o q, fun w hw => ?_, fun b q => ?_⟩, fun b o q => ?_, fun b q => ?_, fun w hw => ?_, by simp, fun _ r => r.elim⟩, ?_, fun i d q => ?_, fun i o q => ?_, fun i j o o' b q => ?_⟩, hq p, fun _ _ _ _ _ q => q.elim, fun _ _ _ _ _ q => q.elim, fun _ _ _ _ _ q => q.elim, fun r M' S' v H'' q c' res => ?_⟩
  · rw [List.mem_singleton.mp hw]; exact .inr np
  · cases k : H b with
    | none => exact absurd k q
    | some o => rw [e b o k]; simp
  · obtain ⟨rfl, rfl⟩ := hS1 q; exact hc
  · cases k : (if b = c then some (HO.lst (ns.map V.int)) else none) with
    | none => exact absurd k q
    | some o => obtain ⟨rfl, _⟩ := hS1 k; exact .inr nc
  · rw [List.mem_singleton.mp hw]
    exact ⟨if_neg ne, c, ns, 0, 0, hp, if_pos rfl, Int.le_refl _, Int.le_refl _⟩
  · unfold L2.start
    simp only [List.length_set, List.length_append, List.length_map, List.length_replicate, List.length_cons, List.length_nil]
    omega
  · match i with
    | 0 => cases q
    | 1 =>
      cases q
      refine ⟨.ref p, ?_, .ref p⟩
      rw [List.getElem?_set_self]
      unfold L2.start
      simp only [List.length_append, List.length_map, List.length_replicate, List.length_cons, List.length_nil]
      omega
    | i + 2 =>
      simp only [List.cons_append, List.nil_append, List.getElem?_cons_succ, List.getElem?_replicate] at q
      split at q <;> cases q
  · match i with
    | 0 => cases q
    | 1 => cases q
    | i + 2 =>
      simp only [List.cons_append, List.nil_append, List.getElem?_cons_succ, List.getElem?_replicate] at q
      split at q <;> cases q
  · match i with
    | 0 => cases q
    | 1 => cases q
    | i + 2 =>
      simp only [List.cons_append, List.nil_append, List.getElem?_cons_succ, List.getElem?_replicate] at q
      split at q <;> cases q
  · subst q
    cases res
    exact hQ H''
end PL
/-! the head's facts, with one more Bool of the written part -/
namespace PL
open PySem PySem.Spec PyProof.Rows L2 He
def obsE (fa : List Fa) (fn : List DefD) (ex : Fg → Bool) (K : Fg) : AlD := (((fa.all fun f => f.ok K) && fn.all fun d => d.ok K) && ex K, fn.map fun d => fnW K d.at_)
structure SaysE (fa : List Fa) (fn : List DefD) (ex : Fg → Bool) (K : Fg) : Prop where
  d : SaysD fa fn K
  x : ex K = true
theorem saysE_of {fa : List Fa} {fn : List DefD} {ex : Fg → Bool} {K : Fg} (h : obsE fa fn ex K = valD fn) : SaysE fa fn ex K := by
  unfold obsE valD at h
  have h1 := (Prod.mk.inj h).1
  have h2 := (Prod.mk.inj h).2
  obtain ⟨a, b⟩ := ba h1
  exact ⟨by unfold SaysD obsD valD; rw [a, h2], b⟩
/-! ### tables of the module: tuples of data -/
mutual
def tabB (K : Fg) : Value → D → Bool
  | .none, .non => true
  | .bool b, .bl c => b == c
  | .int i _, .int j => decide (i = j)
  | .str x _, .str y => decide (x = y)
  | .ref a, .tup ds => (match K.lookup a with
    | some ⟨.type c, _, .seq its _, _⟩ => decide (c = "tuple") && (decide (its.size ≤ sizeLine) && tabA K its.toList ds)
    | _ => false)
  | _, _ => false
def tabA (K : Fg) : List Value → List D → Bool
  | [], [] => true
  | v :: vs, d :: ds => tabB K v d && tabA K vs ds
  | _, _ => false
end
section
variable {K : Fg}
mutual
theorem tabB_rp (S : Hp) : ∀ (d : D) (u : Value), tabB K u d = true → ∃ v, RelV v u ∧ Rp K S v d
  | .non, u, h => by cases u <;> first | exact ⟨.non, rfl, .non⟩ | (simp [tabB] at h)
  | .bl c, u, h => by
    cases u <;> first | (simp [tabB] at h; done) | skip
    rename_i b
    simp [tabB] at h
    subst h
    exact ⟨.bl _, rfl, .bl _⟩
  | .int j, u, h => by
    cases u <;> first | (simp [tabB] at h; done) | skip
    rename_i i t
    simp [tabB] at h
    subst h
    exact ⟨.int _, ⟨_, rfl⟩, .int _⟩
  | .str y, u, h => by
    cases u <;> first | (simp [tabB] at h; done) | skip
    rename_i i t
    simp [tabB] at h
    subst h
    exact ⟨.str _, ⟨_, rfl⟩, .str _⟩
  | .lst ds, u, h => by cases u <;> simp [tabB] at h
  | .ref a, u, h => by cases u <;> simp [tabB] at h
  | .ty n, u, h => by cases u <;> simp [tabB] at h
  | .set f n, u, h => by cases u <;> simp [tabB] at h
  | .dic ks ds, u, h => by cases u <;> simp [tabB] at h
  | .obj c fs ds, u, h => by cases u <;> simp [tabB] at h
  | .tup ds, u, h => by
    cases u <;> first | (simp [tabB] at h; done) | skip
    rename_i a
    rw [tabB] at h
    split at h
    · rename_i c dd its n sl q
      simp only [Bool.and_eq_true, decide_eq_true_eq] at h
      obtain ⟨h1, h2, h3⟩ := h
      obtain ⟨vs, r1, r2⟩ := tabA_rp S ds its.toList h3
      exact ⟨.ref a, rfl, .tup (.inr ⟨_, its, n, q, by rw [h1], rfl, h2, r1⟩) r2⟩
    · cases h
theorem tabA_rp (S : Hp) : ∀ (ds : List D) (us : List Value), tabA K us ds = true → ∃ vs, Vals vs us ∧ RpA K S vs ds
  | [], us, h => by
    cases us with
    | nil => exact ⟨[], .nil, .nil⟩
    | cons => simp [tabA] at h
  | d :: ds, us, h => by
    cases us with
    | nil => simp [tabA] at h
    | cons u us =>
      rw [tabA, Bool.and_eq_true] at h
      obtain ⟨v, a1, a2⟩ := tabB_rp S d u h.1
      obtain ⟨vs, b1, b2⟩ := tabA_rp S ds us h.2
      exact ⟨v :: vs, .cons a1 b1, .cons a2 b2⟩
end
theorem tabB_ok {a : Addr} {d : D} (h : tabB K (.ref a) d = true) (S : Hp) : Rp K S (.ref a) d := by
  obtain ⟨v, r, q⟩ := tabB_rp S d _ h
  cases v with
  | ref b => cases r; exact q
  | non => cases r
  | bl _ => cases r
  | int _ => obtain ⟨_, e⟩ := r; cases e
  | str _ => obtain ⟨_, e⟩ := r; cases e
  | byt _ => obtain ⟨_, e⟩ := r; cases e
  | flt _ => obtain ⟨_, e⟩ := r; cases e
  | ty _ => cases r
end
/-! ### data compared -/
theorem cmpOk_int {i : Int} : cmpOk (.int i) = true := by rfl
theorem cmpOk_bl {i : Bool} : cmpOk (.bl i) = true := by rfl
theorem cmpOk_non : cmpOk .non = true := by rfl
theorem deq_int {i j : Int} : deq (.int i) (.int j) = decide (i = j) := by
  show (i == j) = decide (i = j)
  rw [Bool.beq_eq_decide_eq]
theorem deq_bl {i j : Bool} : deq (.bl i) (.bl j) = decide (i = j) := by
  show (i == j) = decide (i = j)
  rw [Bool.beq_eq_decide_eq]
theorem deq_str {i j : Str} : deq (.str i) (.str j) = decide (i = j) := by
  show (i == j) = decide (i = j)
  rw [Bool.beq_eq_decide_eq]
theorem deq_refl {d : D} (h : cmpOk d = true) : deq d d = true := by
  unfold cmpOk at h
  rw [Bool.and_eq_true] at h
  exact SeqAt.eqv_refl _ (SeqAt.canLay_of_shaped h.2)
theorem isi_non_bool : isInst .non "bool" = some false := by show kitB "NoneType" "bool" = some false; decide +kernel
theorem isi_non_int : isInst .non "int" = some false := by show kitB "NoneType" "int" = some false; decide +kernel
theorem isi_non_str : isInst .non "str" = some false := by show kitB "NoneType" "str" = some false; decide +kernel
theorem isi_non_list : isInst .non "list" = some false := by show kitB "NoneType" "list" = some false; decide +kernel
theorem isi_non_tuple : isInst .non "tuple" = some false := by show kitB "NoneType" "tuple" = some false; decide +kernel
theorem isi_bl_bool {i : Bool} : isInst (.bl i) "bool" = some true := by show kitB "bool" "bool" = some true; decide +kernel
theorem isi_bl_int {i : Bool} : isInst (.bl i) "int" = some true := by show kitB "bool" "int" = some true; decide +kernel
theorem isi_bl_str {i : Bool} : isInst (.bl i) "str" = some false := by show kitB "bool" "str" = some false; decide +kernel
theorem isi_bl_list {i : Bool} : isInst (.bl i) "list" = some false := by show kitB "bool" "list" = some false; decide +kernel
theorem isi_bl_tuple {i : Bool} : isInst (.bl i) "tuple" = some false := by show kitB "bool" "tuple" = some false; decide +kernel
theorem isi_int_bool {i : Int} : isInst (.int i) "bool" = some false := by show kitB "int" "bool" = some false; decide +kernel
theorem isi_int_int {i : Int} : isInst (.int i) "int" = some true := by show kitB "int" "int" = some true; decide +kernel
theorem isi_int_str {i : Int} : isInst (.int i) "str" = some false := by show kitB "int" "str" = some false; decide +kernel
theorem isi_int_list {i : Int} : isInst (.int i) "list" = some false := by show kitB "int" "list" = some false; decide +kernel
theorem isi_int_tuple {i : Int} : isInst (.int i) "tuple" = some false := by show kitB "int" "tuple" = some false; decide +kernel
theorem isi_str_bool {i : Str} : isInst (.str i) "bool" = some false := by show kitB "str" "bool" = some false; decide +kernel
theorem isi_str_int {i : Str} : isInst (.str i) "int" = some false := by show kitB "str" "int" = some false; decide +kernel
theorem isi_str_str {i : Str} : isInst (.str i) "str" = some true := by show kitB "str" "str" = some true; decide +kernel
theorem isi_str_list {i : Str} : isInst (.str i) "list" = some false := by show kitB "str" "list" = some false; decide +kernel
theorem isi_str_tuple {i : Str} : isInst (.str i) "tuple" = some false := by show kitB "str" "tuple" = some false; decide +kernel
theorem isi_lst_bool {i : List D} : isInst (.lst i) "bool" = some false := by show kitB "list" "bool" = some false; decide +kernel
theorem isi_lst_int {i : List D} : isInst (.lst i) "int" = some false := by show kitB "list" "int" = some false; decide +kernel
theorem isi_lst_str {i : List D} : isInst (.lst i) "str" = some false := by show kitB "list" "str" = some false; decide +kernel
theorem isi_lst_list {i : List D} : isInst (.lst i) "list" = some true := by show kitB "list" "list" = some true; decide +kernel
theorem isi_lst_tuple {i : List D} : isInst (.lst i) "tuple" = some false := by show kitB "list" "tuple" = some false; decide +kernel
theorem isi_tup_bool {i : List D} : isInst (.tup i) "bool" = some false := by show kitB "tuple" "bool" = some false; decide +kernel
theorem isi_tup_int {i : List D} : isInst (.tup i) "int" = some false := by show kitB "tuple" "int" = some false; decide +kernel
theorem isi_tup_str {i : List D} : isInst (.tup i) "str" = some false := by show kitB "tuple" "str" = some false; decide +kernel
theorem isi_tup_list {i : List D} : isInst (.tup i) "list" = some false := by show kitB "tuple" "list" = some false; decide +kernel
theorem isi_tup_tuple {i : List D} : isInst (.tup i) "tuple" = some true := by show kitB "tuple" "tuple" = some true; decide +kernel
/-- may be compared: how deep -/
def Ck (n : Nat) (d : D) : Prop := isPure d = true ∧ (toPy d).canLay0 = true ∧ (toPy d).depth ≤ n
def CkA (n : Nat) (ds : List D) : Prop := isPureA ds = true ∧ PyData.canLayAll0 (toPyA ds) = true ∧ PyData.depthAll (toPyA ds) ≤ n
theorem cmpOk_iff {d : D} : cmpOk d = true ↔ Ck 64 d := by
  unfold cmpOk Ck SeqAt.shaped
  simp only [Bool.and_eq_true, decide_eq_true_eq]
theorem ckA_iff {n : Nat} : ∀ {ds : List D}, CkA n ds ↔ ∀ d ∈ ds, Ck n d
  | [] => ⟨fun _ _ h => (by simp at h), fun _ => ⟨rfl, rfl, Nat.zero_le _⟩⟩
  | d :: ds => by
    have ih := ckA_iff (n := n) (ds := ds)
    unfold CkA at ih ⊢
    unfold Ck at ih ⊢
    simp only [isPureA, toPyA, PyData.canLayAll0, PyData.depthAll, Bool.and_eq_true, Nat.max_le, List.mem_cons, forall_eq_or_imp]
    rw [← ih]
    constructor
    · rintro ⟨⟨a, b⟩, ⟨c, e⟩, f, g⟩; exact ⟨⟨a, c, f⟩, b, e, g⟩
    · rintro ⟨⟨a, c, f⟩, b, e, g⟩; exact ⟨⟨a, b⟩, ⟨c, e⟩, f, g⟩
theorem ck_lst {n : Nat} {ds : List D} : Ck (n + 1) (.lst ds) ↔ ∀ d ∈ ds, Ck n d := by
  rw [← ckA_iff]
  unfold Ck CkA
  simp only [isPure, toPy, PyData.canLay0, PyData.depth, Nat.add_le_add_iff_right]
theorem ck_tup {n : Nat} {ds : List D} : Ck (n + 1) (.tup ds) ↔ ∀ d ∈ ds, Ck n d := by
  rw [← ckA_iff]
  unfold Ck CkA
  simp only [isPure, toPy, PyData.canLay0, PyData.depth, Nat.add_le_add_iff_right]
theorem ck_int {n : Nat} {i : Int} : Ck n (.int i) := ⟨rfl, rfl, Nat.zero_le _⟩
theorem ck_bl {n : Nat} {i : Bool} : Ck n (.bl i) := ⟨rfl, rfl, Nat.zero_le _⟩
theorem ck_non {n : Nat} : Ck n .non := ⟨rfl, rfl, Nat.zero_le _⟩
theorem ck_str {n : Nat} {x : Str} (h : PyData.strOk x = true) : Ck n (.str x) := ⟨rfl, by simpa [toPy, PyData.canLay0] using h, by simp [toPy, PyData.depth]⟩
theorem Ck.mono {n m : Nat} {d : D} (h : Ck n d) (k : n ≤ m) : Ck m d := ⟨h.1, h.2.1, Nat.le_trans h.2.2 k⟩
theorem ck_intsA {n : Nat} {ns : List Int} : ∀ d ∈ ns.map D.int, Ck n d := fun d h => by
  obtain ⟨i, _, rfl⟩ := List.mem_map.mp h
  exact ck_int
def deqA : List D → List D → Bool
  | [], [] => true
  | x :: xs, y :: ys => deq x y && deqA xs ys
  | _, _ => false
theorem deqA_eq : ∀ xs ys : List D, PyData.eqvAll (toPyA xs) (toPyA ys) = deqA xs ys
  | [], [] => by simp [toPyA, PyData.eqvAll, deqA]
  | [], _ :: _ => by simp [toPyA, PyData.eqvAll, deqA]
  | _ :: _, [] => by simp [toPyA, PyData.eqvAll, deqA]
  | x :: xs, y :: ys => by simp [toPyA, PyData.eqvAll, deqA, deqA_eq xs ys, deq]
theorem deq_tup {xs ys : List D} : deq (.tup xs) (.tup ys) = deqA xs ys := by
  unfold deq
  rw [toPy, toPy, PyData.eqv, deqA_eq]
theorem deq_lst {xs ys : List D} : deq (.lst xs) (.lst ys) = deqA xs ys := by
  unfold deq
  rw [toPy, toPy, PyData.eqv, deqA_eq]
theorem deqA_nil : deqA [] [] = true := rfl
theorem deqA_cons {x y : D} {xs ys : List D} : deqA (x :: xs) (y :: ys) = (deq x y && deqA xs ys) := rfl
theorem deqA_ints : ∀ {ns ms : List Int}, deqA (ns.map D.int) (ms.map D.int) = decide (ns = ms)
  | [], [] => by simp [deqA]
  | [], _ :: _ => by simp [deqA]
  | _ :: _, [] => by simp [deqA]
  | n :: ns, m :: ms => by
    rw [List.map_cons, List.map_cons, deqA_cons, deqA_ints, deq_int]
    by_cases h : n = m <;> by_cases h2 : ns = ms <;> simp [h, h2]
/-! ### readings opened -/
theorem atI0 {d : D} {ds : List D} : atI (d :: ds) 0 = some d := by
  unfold atI ixN
  rw [if_pos (Int.le_refl _), if_pos (by simp)]
  rfl
theorem atI_one {a d : D} {ds : List D} : atI (a :: d :: ds) 1 = some d := by
  unfold atI ixN
  rw [if_pos (by decide), if_pos (by simp only [List.length_cons]; omega)]
  rfl
theorem atI1 {a d : D} {ds : List D} : atI (a :: d :: ds) 1 = some d := atI_one
theorem atI2 {a b d : D} {ds : List D} : atI (a :: b :: d :: ds) 2 = some d := by
  unfold atI ixN
  rw [if_pos (by decide), if_pos (by simp only [List.length_cons]; omega)]
  rfl
theorem atI3 {a b c d : D} {ds : List D} : atI (a :: b :: c :: d :: ds) 3 = some d := by
  unfold atI ixN
  rw [if_pos (by decide), if_pos (by simp only [List.length_cons]; omega)]
  rfl
theorem atI4 {a b c e d : D} {ds : List D} : atI (a :: b :: c :: e :: d :: ds) 4 = some d := by
  unfold atI ixN
  rw [if_pos (by decide), if_pos (by simp only [List.length_cons]; omega)]
  rfl
theorem atI_nn {ds : List D} {i : Int} {d : D} (h0 : 0 ≤ i) (h : ds[i.toNat]? = some d) : atI ds i = some d := by
  unfold atI ixN
  have hl := (List.getElem?_eq_some_iff.mp h).1
  rw [if_pos h0, if_pos (by omega)]
  exact h
theorem ixN31 : ixN 3 1 = some 1 := rfl
theorem ixN32 : ixN 3 2 = some 2 := rfl
/-- a whole number within bounds -/
def InB (a b : Int) (d : D) : Prop := ∃ v, d = .int v ∧ a ≤ v ∧ v ≤ b
theorem InB.mk {a b v : Int} (h1 : a ≤ v) (h2 : v ≤ b) : InB a b (.int v) := ⟨v, rfl, h1, h2⟩
theorem sSeq_i {t u : QS} {D' : QK} {ρ : Ev} {M : Mu} (h : ∀ N : Ev → Mu → Prop, (∀ ρ M, u D' ρ M → N ρ M) → t { D' with nx := N } ρ M) : sSeq t u D' ρ M := h _ fun _ _ h => h
end PL
namespace PL
open PySem PySem.Spec PyProof.Rows L2
/-- a comprehension that picks and maps, without effect -/
theorem eLc_fm {qi : QA} {g : QG} {qt : QT} {qe : QE} {vs : List Nat} {ρ : Ev} {M : Mu} {Q : Sl → Ev → Mu → Prop} (h : D → Option D) (ds : List D)
    (hq : ∀ Q : List D → Ev → Mu → Prop, Q ds ρ M → qi ρ M Q) (hv : notOw ρ vs = true) (hl : ds.length < 16777216)
    (hs : ∀ (i : Nat) (d : D) (acc : List D) (J : List D → Mu → Prop), ds[i]? = some d → acc.length < 16777216 → J (acc ++ (h d).toList) M → g d (wipeE ρ vs) fun ρ2 => wipeE ρ2 vs = wipeE ρ vs ∧ qt ρ2 M fun b ρ3 M3 => ρ3 = ρ2 ∧
      (if b = true then qe ρ3 M3 fun r ρ4 M4 => ρ4 = ρ3 ∧ acc.length < 16777216 ∧ J (acc ++ [r.val]) M4 else J acc M3))
    (hk : Q (.ow (.lst (ds.filterMap h))) ρ M) : eLc qi g qt qe vs ρ M Q := by
  refine hq _ ⟨hv, fun i acc M' => M' = M ∧ acc = (ds.take i).filterMap h ∧ i ≤ ds.length, ⟨rfl, rfl, Nat.zero_le _⟩, ?_, ?_⟩
  · rintro i d acc M' hd ⟨rfl, rfl, hi⟩
    have hlt : i < ds.length := by
      rcases Nat.lt_or_ge i ds.length with w | w
      · exact w
      · rw [List.getElem?_eq_none w] at hd; cases hd
    have ht : ds.take (i + 1) = ds.take i ++ [d] := by rw [List.take_add_one, hd]; rfl
    have hlen : ((ds.take i).filterMap h).length < 16777216 := by
      have h1 := List.length_filterMap_le h (ds.take i)
      rw [List.length_take] at h1
      omega
    refine hs i d _ (fun acc M2 => M2 = M' ∧ acc = (ds.take (i + 1)).filterMap h ∧ i + 1 ≤ ds.length) hd hlen ⟨rfl, ?_, by omega⟩
    rw [ht, List.filterMap_append]
    cases e : h d <;> simp [e]
  · rintro acc M' ⟨rfl, rfl, _⟩
    rw [List.take_length]
    exact hk
/-- the whole numbers from lo that are less than hi -/
def rgI (lo hi : Int) : List Int := (List.range (hi - lo).toNat).map fun (k : Nat) => lo + (k : Int)
theorem rangeL_rgI (lo hi : Int) : rangeL lo hi = (rgI lo hi).map D.int := by
  unfold rangeL rgI
  rw [List.map_map]
  rfl
theorem rgI_mem {lo hi n : Int} : n ∈ rgI lo hi ↔ lo ≤ n ∧ n < hi := by
  unfold rgI
  rw [List.mem_map]
  constructor
  · rintro ⟨k, h, rfl⟩
    have := List.mem_range.mp h
    omega
  · intro h
    exact ⟨(n - lo).toNat, List.mem_range.mpr (by omega), by omega⟩
def chS (r : Sl) (A B : Prop) : Prop := match r with
  | .va (.bl true) => A
  | .va (.bl false) => B
  | _ => False
theorem chS_true {A B : Prop} : chS (.va (.bl true)) A B = A := rfl
theorem chS_false {A B : Prop} : chS (.va (.bl false)) A B = B := rfl
theorem eChain_eq {od od' : OD} {qa qb qc : QB} : eChain od od' qa qb qc = fun ρ M Q => qa ρ M fun d1 ρ1 M1 => qb ρ1 M1 fun d2 ρ2 M2 => od d1 d2 fun r => chS r (qc ρ2 M2 fun d3 ρ3 M3 => od' d2 d3 fun r => Q r ρ3 M3) (Q (.va (.bl false)) ρ2 M2) := by
  rfl
theorem wipeE_nil {ρ : Ev} : wipeE ρ [] = ρ := rfl
theorem wipeE_cons {ρ : Ev} {v : Nat} {vs : List Nat} : wipeE ρ (v :: vs) = (wipeE ρ vs).set v .un := rfl
end PL
namespace PL
open PySem PySem.Spec PyProof.Rows L2
/-! ### comparing literal data -/
def CkAl (n : Nat) (ds : List D) : Prop := ∀ d ∈ ds, Ck n d
theorem ckAl_nil {n : Nat} : CkAl n [] := fun _ h => (by cases h)
theorem ckAl_cons {n : Nat} {d : D} {ds : List D} : CkAl n (d :: ds) ↔ Ck n d ∧ CkAl n ds := by unfold CkAl; simp
theorem ckAl_ints {n : Nat} {ns : List Int} : CkAl n (ns.map D.int) := ck_intsA
theorem ckAl_rangeL {n : Nat} {a b : Int} : CkAl n (rangeL a b) := by rw [rangeL_rgI]; exact ck_intsA
theorem cmpOk_lstA {ds : List D} : cmpOk (.lst ds) = true ↔ CkAl 63 ds := cmpOk_iff.trans ck_lst
theorem cmpOk_tupA {ds : List D} : cmpOk (.tup ds) = true ↔ CkAl 63 ds := cmpOk_iff.trans ck_tup
theorem ckA_lst {n : Nat} {ds : List D} : Ck (n + 1) (.lst ds) ↔ CkAl n ds := ck_lst
theorem ckA_tup {n : Nat} {ds : List D} : Ck (n + 1) (.tup ds) ↔ CkAl n ds := ck_tup
theorem cmpOk_str {x : Str} : cmpOk (.str x) = true ↔ PyData.strOk x = true := by
  rw [cmpOk_iff]
  constructor
  · intro h
    have := h.2.1
    simpa [toPy, PyData.canLay0] using this
  · exact ck_str
theorem ck_strI {n : Nat} {x : Str} : Ck n (.str x) ↔ PyData.strOk x = true := ⟨fun h => by simpa [toPy, PyData.canLay0] using h.2.1, ck_str⟩
theorem chS_bl {b : Bool} {A B : Prop} : chS (.va (.bl b)) A B = (if b = true then A else B) := by cases b <;> rfl
theorem eAnd_eq {qa qb : QE} : eAnd qa qb = fun ρ M Q => qa ρ M fun r ρ1 M1 => chS r (qb ρ1 M1 Q) (Q (.va (.bl false)) ρ1 M1) := rfl
theorem eOr_eq {qa qb : QE} : eOr qa qb = fun ρ M Q => qa ρ M fun r ρ1 M1 => chS r (Q (.va (.bl true)) ρ1 M1) (qb ρ1 M1 Q) := by
  unfold eOr
  funext ρ M Q
  congr 1
  funext r ρ1 M1
  unfold chS
  split <;> first | rfl | (split <;> first | rfl | (rename_i a b c; cases b) | skip)
  all_goals first | rfl | contradiction | skip
/-- a statement that is never come to -/
def sNever : QS := fun _ _ _ => False
/-- a comprehension that picks and maps, without effect -/
theorem eLc_fmj {qi : QA} {g : QG} {qt : QT} {qe : QE} {vs : List Nat} {ρ0 : Ev} {M0 : Mu} {Q : Sl → Ev → Mu → Prop} (h : D → Option D) (ds : List D) (ρ : Ev) (M : Mu)
    (hq : ∀ Q : List D → Ev → Mu → Prop, Q ds ρ M → qi ρ0 M0 Q) (hv : notOw ρ vs = true) (hl : ds.length < 16777216)
    (hs : ∀ (i : Nat) (d : D) (acc : List D) (J : List D → Mu → Prop), ds[i]? = some d → acc.length < 16777216 → J (acc ++ (h d).toList) M → g d (wipeE ρ vs) fun ρ2 => wipeE ρ2 vs = wipeE ρ vs ∧ qt ρ2 M fun b ρ3 M3 => ρ3 = ρ2 ∧
      (if b = true then qe ρ3 M3 fun r ρ4 M4 => ρ4 = ρ3 ∧ acc.length < 16777216 ∧ J (acc ++ [r.val]) M4 else J acc M3))
    (hk : Q (.ow (.lst (ds.filterMap h))) ρ M) : eLc qi g qt qe vs ρ0 M0 Q := by
  refine hq _ ⟨hv, fun i acc M' => M' = M ∧ acc = (ds.take i).filterMap h ∧ i ≤ ds.length, ⟨rfl, rfl, Nat.zero_le _⟩, ?_, ?_⟩
  · rintro i d acc M' hd ⟨rfl, rfl, hi⟩
    have hlt : i < ds.length := by
      rcases Nat.lt_or_ge i ds.length with w | w
      · exact w
      · rw [List.getElem?_eq_none w] at hd; cases hd
    have ht : ds.take (i + 1) = ds.take i ++ [d] := by rw [List.take_add_one, hd]; rfl
    have hlen : ((ds.take i).filterMap h).length < 16777216 := by
      have h1 := List.length_filterMap_le h (ds.take i)
      rw [List.length_take] at h1
      omega
    refine hs i d _ (fun acc M2 => M2 = M' ∧ acc = (ds.take (i + 1)).filterMap h ∧ i + 1 ≤ ds.length) hd hlen ⟨rfl, ?_, by omega⟩
    rw [ht, List.filterMap_append]
    cases e : h d <;> simp [e]
  · rintro acc M' ⟨rfl, rfl, _⟩
    rw [List.take_length]
    exact hk
end PL
namespace PL
open PySem PySem.Spec PyProof.Rows L2
theorem intsOf_ints : ∀ ns : List Int, intsOf (ns.map D.int) = some ns
  | [] => rfl
  | n :: ns => by
    rw [List.map_cons]
    unfold intsOf
    rw [intsOf_ints ns]
    rfl
theorem boolsOf_bls : ∀ ns : List Bool, boolsOf (ns.map D.bl) = some ns
  | [] => rfl
  | n :: ns => by
    rw [List.map_cons]
    unfold boolsOf
    rw [boolsOf_bls ns]
    rfl
theorem plAnyI {a : Int} : ∀ ns : List Int, ((ns.map D.int).any fun x => deq x (.int a)) = decide (a ∈ ns)
  | [] => by simp
  | n :: ns => by
    rw [List.map_cons, List.any_cons, plAnyI ns, deq_int, Bool.eq_iff_iff]
    simp only [Bool.or_eq_true, decide_eq_true_eq, List.mem_cons]
    rw [show (n = a) = (a = n) from propext ⟨Eq.symm, Eq.symm⟩]
theorem plAnyR {lo hi a : Int} : ((rangeL lo hi).any fun x => deq x (.int a)) = decide (lo ≤ a ∧ a < hi) := by
  rw [rangeL_rgI, plAnyI, Bool.eq_iff_iff]
  simp [rgI_mem]
/-- strictly ascending -/
abbrev Asc (ns : List Int) : Prop := ns.Pairwise (· < ·)
theorem Asc.get {ns : List Int} (h : Asc ns) {i j : Nat} {a b : Int} (hij : i < j) (ha : ns[i]? = some a) (hb : ns[j]? = some b) : a < b := by
  obtain ⟨h1, rfl⟩ := List.getElem?_eq_some_iff.mp ha
  obtain ⟨h2, rfl⟩ := List.getElem?_eq_some_iff.mp hb
  exact List.pairwise_iff_getElem.mp h i j h1 h2 hij
/-- a loop over these data -/
def LoopK (g : QG) (tb : QS) (D' : QK) (ds : List D) (ρ : Ev) (M : Mu) : Prop := ∃ I : Nat → Ev → Mu → Prop, I 0 ρ M ∧
  (∀ i d ρ M, ds[i]? = some d → I i ρ M → g d ρ fun ρ2 => tb { nx := I (i + 1), ct := I (i + 1), bk := D'.nx, rt := D'.rt } ρ2 M) ∧ (∀ ρ M, I ds.length ρ M → D'.nx ρ M)
theorem sFor_k {qi : QA} {g : QG} {tb : QS} {D' : QK} {ρ : Ev} {M : Mu} (h : ∀ N : List D → Ev → Mu → Prop, (∀ ds ρ1 M1, LoopK g tb D' ds ρ1 M1 → N ds ρ1 M1) → qi ρ M N) : sFor qi g tb D' ρ M := h _ fun _ _ _ h => h
theorem loop_i {g : QG} {tb : QS} {D' : QK} {ds : List D} {ρ : Ev} {M : Mu} (I : Nat → Ev → Mu → Prop) (h0 : I 0 ρ M)
    (hs : ∀ J : Nat → Ev → Mu → Prop, (∀ i ρ M, I i ρ M → J i ρ M) → ∀ i d ρ M, ds[i]? = some d → I i ρ M → g d ρ fun ρ2 => tb { nx := J (i + 1), ct := J (i + 1), bk := D'.nx, rt := D'.rt } ρ2 M)
    (hn : ∀ ρ M, I ds.length ρ M → D'.nx ρ M) : LoopK g tb D' ds ρ M := ⟨I, h0, hs I fun _ _ _ h => h, hn⟩
end PL
namespace PL
open PySem PySem.Spec PyProof.Rows L2
/-! ### a, b, .. = a tuple or a list -/
def gSq (n : Nat) (gs : QGs) : QG := fun d ρ Q => match d with
  | .tup ds => ds.length = n ∧ gs ds ρ Q
  | .lst ds => ds.length = n ∧ gs ds ρ Q
  | _ => False
section
variable {X : Cx} {z : Z} {pos : Pos} {e o : Expr} {es : List Expr} {gs : QGs} {as : List Nat}
theorem qg_lst {k n : Nat} (hc : X.calm = true) (h : PGs X es (liGs z as gs)) (hK : X.K = z.K := by first | assumption | rfl) (hn : (assignEach es X.env).length = n := by rfl) (hst : (assignEach es X.env).findIdx? (·.1) = none := by rfl) :
    PG X (.Tuple es k pos) (liG z as fun d ρ Q => match d with | .lst ds => ds.length = n ∧ gs ds ρ Q | _ => False) :=
  pg_w (pg_lst hc h hn hst) fun v σ H Q ⟨S, M, ρ, d, Q0, sim, r, h, post⟩ => by
    dsimp only at h
    split at h
    · cases r with
      | lst r1 r2 => exact ⟨_, _, rfl, .of (sim.sub _ _ r1), by rw [r2.length]; exact h.1, S, M, ρ, _, Q0, sim, r2, h.2, post⟩
    · exact h.elim
theorem qg_seq {k n : Nat} (hc : X.calm = true) (h : PGs X es (liGs z as gs)) (hK : X.K = z.K := by first | assumption | rfl) (hn : (assignEach es X.env).length = n := by rfl) (hst : (assignEach es X.env).findIdx? (·.1) = none := by rfl) : PG X (.Tuple es k pos) (liG z as (gSq n gs)) := by
  refine ⟨fun pins s σ H v u Q I r ⟨S, M, ρ, d, Q0, sim, rp, h0, post⟩ => ?_⟩
  unfold gSq at h0
  split at h0
  · exact (qg_tup (n := n) hc h hK hn hst).run pins s σ H v u Q I r ⟨S, M, ρ, _, Q0, sim, rp, h0, post⟩
  · exact (qg_lst (n := n) hc h hK hn hst).run pins s σ H v u Q I r ⟨S, M, ρ, _, Q0, sim, rp, h0, post⟩
  · exact h0.elim

/-! ### methods of built-in types -/
abbrev MD := D → List D → (Sl → Prop) → Prop
/-- the built-in type of data -/
def tyM : D → String
  | .lst _ => "list"
  | .str _ => "str"
  | .set _ _ => "set"
  | _ => ""
def eM (T : String) (md : MD) (qo : QB) (qr : QA) : QE := fun ρ M Q => qo ρ M fun d ρ1 M1 => tyM d = T ∧ qr ρ1 M1 fun ds ρ2 M2 => md d ds fun r => Q r ρ2 M2
/-- l.index(x): the first equal one -/
def mIndex : MD := fun d ds Q => match d, ds with
  | .lst xs, [a] => (cmpOk a = true ∧ cmpOk (.lst xs) = true) ∧ (match xs.findIdx? (fun x => deq x a) with | some j => Q (.va (.int (j : Nat))) | none => False)
  | _, _ => False
/-! ### sets of ints -/
/-- set(tuple of ints) -/
def cSet : CD := fun ds Q => match ds with
  | [.tup xs] => ∃ ns : List Int, xs = ns.map D.int ∧ ns.length < 4000 ∧ ∀ c : Nat, c ≤ ns.length → Q (.va (.set (fun j => decide (j ∈ ns)) c))
  | _ => False
/-- in: a list, a tuple, a set -/
def dInX (neg : Bool) : OD := fun a b Q => match b with
  | .set f n => (match a with | .int i => Q (.va (.bl (if neg then !f i else f i))) | _ => False)
  | b => dIn neg a b Q
theorem Rb.setV {S : Hp} {M : Mu} {H : Hp} {v : V} {f : Int → Bool} {n : Nat} (h : Rb z.K S M H v (.set f n)) : ∃ a, v = .ref a ∧ S a = some (.set f n) := by
  rcases h with h | ⟨_, _, _, rfl, e, _⟩
  · cases h with | set a => exact ⟨_, rfl, a⟩
  · cases e
theorem ob_notInX (hu : X.A.units + 65 < cLine) (hK : X.K = z.K := by first | assumption | rfl) : OpB X z (compareOp .NotIn) (dInX true) := by
  intro pins s σ H S M ρ x y u w d1 d2 Q0 I sim b1 b2 r1 r2 q
  cases d2 with
  | set f n =>
    unfold dInX at q
    dsimp only at q
    split at q
    · rename_i i
      obtain ⟨a, rfl, ha⟩ := b2.setV
      rw [b1.int] at r1
      obtain ⟨tk, rfl⟩ := r1
      cases r2
      exact wpAny_notInSet_of (intKind_is _ _ _ _) rfl (I.hok a _ (sim.sub _ _ ha)) ⟨.bl (!f i), H, I.tok _, rfl, poE_va sim (.bl _) q⟩
    · exact q.elim
  | _ => exact ob_notIn hu hK pins s σ H S M ρ x y u w d1 _ Q0 I sim b1 b2 r1 r2 q
end
theorem natc0 : ((0 : Nat) : Int) = 0 := rfl
theorem natc1 : ((1 : Nat) : Int) = 1 := rfl
theorem natc2 : ((2 : Nat) : Int) = 2 := rfl
end PL
namespace PL
open PySem PySem.Spec PyProof.Rows L2
/-! ### exceptions, told by their class's name -/
def clsV (K : Fg) (c : Str) : Value := .ref (He.ga K c)
abbrev WP := Str → List D → Ev → Mu → Prop
/-- what an exception carries: nothing, or its class's name with its fields -/
def ExAt (K : Fg) (S : Hp) (cls : Value) (d : Option Addr) (x : List D) : Prop := x = [] ∨ ∃ (c : Str) (ns : List Str) (ds : List D) (dd : Addr) (xs : List V), x = [.obj c ns ds] ∧ cls = clsV K c ∧ d = some dd ∧ S dd = some (.xd (ns.zip xs)) ∧ ns.length = xs.length ∧ RpA K S xs ds
def liX (z : Z) (W : WP) : WX := fun cls d σ H => ∃ S M ρ c x, cls = clsV z.K c ∧ Sim z S M ρ σ H ∧ ExAt z.K S cls d x ∧ W c x ρ M
/-- a promise of a def that may raise -/
def liPX (K : Fg) (p : PSp) : Sp := fun vs H Q E => ∃ S M ds Q0 E0, Core (zOf K H S M) S M H ∧ RpA K S vs ds ∧ p ds M Q0 E0 ∧
  (∀ v H' r M' S', Q0 r M' → Core (zOf K H S M) S' M' H' → ResF (zOf K H S M) S' M' H' v r → Q v H') ∧
  ∀ c x d M' S' H', E0 c x M' → Core (zOf K H S M) S' M' H' → ExAt K S' (clsV K c) d x → E (clsV K c) d H'
def eCallX (W : WP) (p : PSp) (qr : QA) : QE := fun ρ M Q => qr ρ M fun ds ρ1 M1 => p ds M1 (fun r M2 => Q r ρ1 M2) fun c x M2 => W c x ρ1 M2
section
variable {X : Cx} {z : Z} {k : Nat} {f : Addr} {fd : FuncData} {ps : List Str} {p : PSp} {x : Str} {pp pos : Pos} {e : Expr} {es : List Expr} {qr : QA} {W : WP}
/-- X() -/
theorem pmk_own0 {C : Addr} {bmB : List Value} {B newId initId : String} (F : ExcBaseFacts B newId initId bmB) (q : PySem.W.excIn X.K C bmB newId = true) (gC : X.mg x = some (.ref C)) (kC : PySem.W.keepIn X.K (.ref C) = true) (r : Raises X (.ref C)) (hg : Gl X x)
    (hdb : (x == ("__debug__" : Str)) = false := by decide) : PMk X (.Call (.Name x pp) [] [] pos) (fun _ H Q => Q (.ref C) none H) := by
  intro pins s σ H Q I h
  refine wpAny_Call_Name_kw (ld_glob I hg gC ?_ hdb)
  refine PySem.W.callWith_K0 I.kIn kC ?_
  show wpAny _ _ (call (.ref C) []) _ _ _
  obtain ⟨bm, N, nm, qn, bs, hdct, sn, sub, ab, col, dd, k0, k1, k2, k3, k5, mN, hC, hN, hni, T⟩ := exc_obj I.kIn q
  refine wpAny_call_exc_subT F T hC hN hni (fun h' e hm => ?_) (by show 0 ≤ sizeLine; omega)
  exact mk_of I hm r h (I.hok.gone hm.new)
def sRaise (W : WP) (c : Str) : QS := fun _ ρ M => W c [] ρ M
theorem qs_raise {W : WP} {pos' : Pos} (tk : Takes X (liX z W)) (hc : X.calm = true) (q : PySem.W.excIn X.K (He.ga X.K x) [.type "ValueError", .type "Exception", .type "BaseException", .type "object"] "ValueError.__new__" = true) (gC : X.mg x = some (.ref (He.ga X.K x))) (kC : PySem.W.keepIn X.K (.ref (He.ga X.K x)) = true)
    (h1 : PySem.W.subIn X.K (.ref (He.ga X.K x)) (.type "BaseException") = some true) (h2 : PySem.W.typeIn X.K (.ref (He.ga X.K x)) = some (.type "type")) (hg : Gl X x) (hK : X.K = z.K := by first | assumption | rfl) (hdb : (x == ("__debug__" : Str)) = false := by decide) :
    PS X (.Raise (some (.Call (.Name x pp) [] [] pos)) none pos') (liS z (sRaise W x)) :=
  ps_w (ps_raise hc tk (pmk_own0 PySem.F.excBase_ValueError q gC kC (raises_own h1 h2) hg hdb)) fun D σ H ⟨S, M, ρ, D0, sim, h, _⟩ => ⟨S, M, ρ, x, [], by rw [hK]; rfl, sim, .inl rfl, h⟩
abbrev Z.at (z : Z) (S : Hp) : Z := { z with S0 := S }
theorem Sim.up {S : Hp} {M : Mu} {ρ : Ev} {σ : St} {H : Hp} (h : Sim z S M ρ σ H) : Sim (z.at S) S M ρ σ H :=
  ⟨⟨⟨.refl _, h.step.keep, h.step.mnew, h.step.dom⟩, h.sub, fun b q => .inl q, h.mu, h.mnd, h.rsv⟩, h.len, h.va, h.ow, h.sep⟩
theorem Core.down {S S' : Hp} {M M' : Mu} {H H' : Hp} (h0 : Core z S M H) (h : Core (z.at S) S' M' H') : Core z S' M' H' :=
  ⟨⟨h0.step.same.trans h.step.same, h.step.keep, h.step.mnew, h.step.dom⟩, h.sub, fun b q => by
    rcases h.frS b q with w | w
    · exact h0.frS b w
    · exact .inr w, h.mu, h.mnd, h.rsv⟩
theorem Sim.down {S S' : Hp} {M M' : Mu} {ρ : Ev} {σ : St} {H H' : Hp} (h0 : Core z S M H) (h : Sim (z.at S) S' M' ρ σ H') : Sim z S' M' ρ σ H' :=
  ⟨h0.down h.toCore, h.len, h.va, h.ow, h.sep⟩
theorem ResF.down {S S' : Hp} {M' : Mu} {H' : Hp} {v : V} {r : Sl} (h : ResF (z.at S) S' M' H' v r) : ResF z S' M' H' v r := by
  cases r <;> exact h
/-- try: body, except x: suite; cat tells of a class whether it is caught -/
def sTry (W : WP) (cat : Str → Option Bool) (tb : WP → QS) (th : QS) : QS := fun D ρ M => tb (fun c x ρ' M' => match cat c with
  | some true => th D ρ' M'
  | some false => W c x ρ' M'
  | none => False) D ρ M
theorem qs_try {W : WP} {cat : Str → Option Bool} {tb : WP → QS} {th : QS} {body suite : List Stmt} {b₀ : Stmt} {np pos' : Pos} (hs : X.stack = X.env :: X.outer) (hf : X.env.frame = some X.env.locals) (hg : Gl X x) (hdb : (x == ("__debug__" : Str)) = false) (gC : X.mg x = some (clsV X.K x)) (tk : Takes X (liX z W))
    (hK : X.K = z.K) (hcat : ∀ c b, cat c = some b → PySem.W.exmOne X.K (clsV X.K c) (clsV X.K x) = some b)
    (hb : ∀ (z' : Z) (W' : WP) (pn : List (Addr × Obj)) (xe : Value → Shared → Prop), X.K = z'.K → Takes (X.tr pn xe) (liX z' W') → PSs (X.tr pn xe) body (liS z' (tb W')))
    (hsu : ∀ (z' : Z) (a : Addr) (pn : List (Addr × Obj)), X.K = z'.K → PSs (X.suite a pn) (b₀ :: suite) (liS z' th)) :
    PS X (.Try body [.ExceptHandler (some (.Name x np)) none (b₀ :: suite) pos'] [] [] pos) (liS z (sTry W cat tb th)) := by
  refine ps_w (ps_try_only (c := clsV X.K x) (tb := fun Wx D σ H => ∃ (z' : Z) (W' : WP), X.K = z'.K ∧ (∀ cls d σ H, liX z' W' cls d σ H → Wx cls d σ H) ∧ liS z' (tb W') D σ H) (ts := fun a cls d D σ H => ∃ z' : Z, X.K = z'.K ∧ liS z' th D σ H) (Wout := liX z W) hs hf ⟨hg, hdb, .inl gC⟩ tk
    (fun Wx pn xe tkx _ => ⟨fun pins s σ H D I ⟨z', W', e, hi, h⟩ => (hb z' W' pn xe e (tkx.imp hi)).run pins s σ H D I h⟩)
    (fun a oe cls d pn _ _ => ⟨fun pins s σ H D I ⟨z', e, h⟩ => (hsu z' a _ e).run pins s σ H D I h⟩)) ?_
  intro D σ H ⟨S, M, ρ, D0, sim, h, nx, bk, ct, rt⟩
  refine ⟨z.at S, _, hK, ?_, S, M, ρ, D0, sim.up, h, fun ρ' M' S' σ' H' q e s => nx ρ' M' S' σ' H' q e (s.down sim.toCore), fun ρ' M' S' σ' H' q e s => bk ρ' M' S' σ' H' q e (s.down sim.toCore), fun ρ' M' S' σ' H' q e s => ct ρ' M' S' σ' H' q e (s.down sim.toCore), fun r M' S' v H' q c res => rt r M' S' v H' q (sim.toCore.down c) res.down⟩
  intro cls d σ1 H1 ⟨S1, M1, ρ1, c, x1, e1, sim1, ex1, w⟩
  have hk : clsV (z.at S).K c = clsV X.K c := by rw [hK]
  rw [hk] at e1
  subst e1
  split at w
  · rename_i hc
    have s2 := sim1.down sim.toCore
    have e0 := sim1.step.same
    refine ⟨true, hcat c true hc, fun _ a _ => ⟨z, hK, S1, M1, ρ1, D0, s2, w, fun ρ' M' S' σ' H' q e s => nx ρ' M' S' σ' H' q (e0.trans e) s, fun ρ' M' S' σ' H' q e s => bk ρ' M' S' σ' H' q (e0.trans e) s, fun ρ' M' S' σ' H' q e s => ct ρ' M' S' σ' H' q (e0.trans e) s, rt⟩, fun q => nomatch q⟩
  · rename_i hc
    exact ⟨false, hcat c false hc, (fun q => nomatch q), fun _ => ⟨S1, M1, ρ1, c, x1, by rw [hK], sim1.down sim.toCore, ex1, w⟩⟩
  · exact w.elim
end
/-- a def whose body may raise -/
theorem fn_PX {P : Program} {w : World} {K : Fg} {mg : Str → Option Value} {base : Heap} {x qual : Str} {params : Arguments} {body : List Stmt} {scope : Scope} {dvs : List V} {kws : List (Str × V)} {f : Addr} {fd : FuncData} {N ps : List Str} {k : Nat} {p : PSp}
    (F : FunD K x qual params body scope dvs kws f fd) (Sc : FnScope N ps scope) (hl : ∀ ds M Q E, p ds M Q E → ds.length = ps.length)
    {q : WP → QS} (hbody : ∀ (cdv : Value) (A : Around) (outer : List Env) (s : Shared) (H : Hp) (E : XK) (z : Z) (W : WP), K = z.K → Room k (A.deeper (envOfC qual scope s.heap.objs.size f cdv)) →
      Takes (cxOf (L2.CX P w) P w K mg base N qual scope f cdv A outer s H E) (liX z W) → PSs (cxOf (L2.CX P w) P w K mg base N qual scope f cdv A outer s H E) body (liS z (q W)))
    (hq : ∀ ds M Q0 E0, p ds M Q0 E0 → q (fun c x _ M' => E0 c x M') { nx := fun _ M' => Q0 (.va .non) M', rt := Q0 } (stE N ds) M) : FnOk P w K mg base (L2.CX P w) (k + 1) f fd ps (liPX K p) := by
  refine F.ok Sc (fun vs H Q E ⟨S, M, ds, Q0, E0, c, r, h, _⟩ => by rw [r.length]; exact hl _ _ _ _ h) fun cdv A outer s H vs Q E hr ⟨S, M, ds, Q0, E0, c, r, h, post, px⟩ => ⟨_, hbody cdv A outer s H E (zOf K H S M) (fun c x _ M' => E0 c x M') rfl hr ((takes_of rfl rfl rfl rfl).imp fun cls d σ H' ⟨S', M', ρ', c', x', e, sim, ex, w⟩ => by subst e; exact px c' x' d M' S' H' w sim.toCore ex), ?_⟩
  refine ⟨S, M, _, _, start_sim c rfl r, hq ds M Q0 E0 h, fun ρ' M' S' σ' H' q e sim => ?_, fun _ _ _ _ _ q => q.elim, fun _ _ _ _ _ q => q.elim, fun r M' S' v H' q c' res => post v H' r M' S' q c' res⟩
  exact post .non H' _ M' S' q sim.toCore .non
theorem takesF {X : Cx} {z : Z} : Takes X (liX z fun _ _ _ _ => False) := takes0.imp fun _ _ _ _ ⟨_, _, _, _, _, _, _, _, w⟩ => w
def isSome1 (o : Option Bool) (b : Bool) : Bool := match o with | some c => c == b | none => false
theorem isSome1_eq {o : Option Bool} {b : Bool} (h : isSome1 o b = true) : o = some b := by
  cases o with
  | none => cases h
  | some c => rw [show c = b from beq_iff_eq.mp h]
def isTyp (o : Option Value) : Bool := match o with | some (.type s) => s == "type" | _ => false
theorem isTyp_eq {o : Option Value} (h : isTyp o = true) : o = some (.type "type") := by
  unfold isTyp at h
  split at h
  · rw [show _ = _ from beq_iff_eq.mp h]
  · cases h
end PL
namespace PL
open PySem PySem.Spec PyProof.Rows L2 He HandSHeadRun
/-! ### the head's objects, gathered with a row of bits -/
def refF (g : Addr → Option Obj) (a : Addr) : List Addr := match g a with
  | some o => refsD o
  | none => []
def gat (g : Addr → Option Obj) : Nat → List Addr → Nat → List Addr
  | 0, _, _ => []
  | _ + 1, [], _ => []
  | n + 1, a :: r, seen => frNat a fun a => match seen.testBit a with
    | true => gat g n r seen
    | false => a :: frNat (seen ||| (1 <<< a)) fun seen => gat g n (refF g a ++ r) seen
def asF (g : Addr → Option Obj) : List Addr := gat g 20000 [mainGlobals] 0
def obsFG (fa : List Fa) (fn : List DefD) (ex : Fg → Bool) (g : Addr → Option Obj) : AlD := obsE fa fn ex (frG g (asF g))
def hookF (fa : List Fa) (fn : List DefD) (ex : Fg → Bool) : PySem.W.Hook where
  α := AlD
  obs := fun s => obsFG fa fn ex s.heap.get?
  val := fun _ => valD fn
  says := fun _ h => ∃ K : PySem.W.Frag, K.In h ∧ SaysE fa fn ex K
  of := fun _ _ e => ⟨_, frG_in, saysE_of e⟩
  keeps := fun _ _ _ ⟨K, hK, c⟩ k => ⟨K, PySem.W.Frag.In.keeps hK k, c⟩
theorem obsFG_eq {fa : List Fa} {fn : List DefD} {ex : Fg → Bool} {g : Addr → Option Obj} {s : Shared} (h : ∀ a, g a = s.heap.get? a) : obsFG fa fn ex g = (hookF fa fn ex).obs s := by
  have e : g = s.heap.get? := funext h
  rw [e] <;> rfl
/-- the run's equation, by parts -/
theorem run_split {α S : Type} {o : Option α} {l : α → Bool} {s : α → S} {g : α → Addr → Option Obj} {fa : List Fa} {fn : List DefD} {ex : Fg → Bool} {sv : S}
    (h1 : o.map l = some true) (h2 : o.map s = some sv) (h3 : o.map (fun x => (fa.all fun f => f.ok (frG (g x) (asF (g x)))) && ex (frG (g x) (asF (g x)))) = some true)
    (h4 : o.map (fun x => fn.all fun d => d.ok (frG (g x) (asF (g x)))) = some true) (h5 : o.map (fun x => fn.map fun d => fnW (frG (g x) (asF (g x))) d.at_) = some (fn.map DefD.val)) :
    o.map (fun x => (l x, s x, obsFG fa fn ex (g x))) = some (true, sv, valD fn) := by
  cases o with
  | none => cases h1
  | some x =>
    simp only [Option.map_some, Option.some.injEq] at h1 h2 h3 h4 h5 ⊢
    rw [Bool.and_eq_true] at h3
    unfold obsFG obsE valD
    rw [h1, h2, h3.1, h3.2, h4, h5]
    rfl
end PL
namespace PL
open PySem PySem.Spec PyProof.Rows L2

/-! ### is True, is not True, of truth values -/
def dIsB : OD := fun a b Q => match a, b with
  | .bl x, .bl y => Q (.va (.bl (decide (x = y))))
  | _, _ => False
def dNotB : OD := fun a b Q => match a, b with
  | .bl x, .bl y => Q (.va (.bl (!decide (x = y))))
  | _, _ => False
section
variable {X : Cx} {z : Z}
end
end PL
namespace PL
open PySem PySem.Spec PyProof.Rows L2

/-! ### sorted(list of data) -/
abbrev leD : D → D → Bool := PySem.W.dataLe false toPy
abbrev leP : V × D → V × D → Bool := PySem.W.dataLe false fun p : V × D => toPy p.2
def SortOk (ds : List D) : Prop := isPureA ds = true ∧ PySem.W.AllAlike (ds.map toPy) ∧ PySem.W.Sortable (ds.map toPy) ∧ ∀ d ∈ ds, (toPy d).depth ≤ 60
section
variable {X : Cx} {z : Z}
theorem each_of {K : Fg} {ps : List (V × D)} : ∀ {us : List Value}, Vals (ps.map (·.1)) us → PySem.W.EachIs (fun u (p : V × D) => RelV p.1 u) us ps := by
  induction ps with
  | nil => intro us h; cases h; exact .nil
  | cons p ps ih => intro us h; cases h with | cons a b => exact .cons a (ih b)
theorem of_each {ps : List (V × D)} : ∀ {us : List Value}, PySem.W.EachIs (fun u (p : V × D) => RelV p.1 u) us ps → Vals (ps.map (·.1)) us := by
  induction ps with
  | nil => intro us h; cases h; exact .nil
  | cons p ps ih => intro us h; cases h with | cons a b => exact .cons a (ih b)
theorem each_imp {α β : Type} {R T : α → β → Prop} : ∀ {as : List α} {bs : List β}, (∀ a b, b ∈ bs → R a b → T a b) → PySem.W.EachIs R as bs → PySem.W.EachIs T as bs
  | _, _, _, .nil => .nil
  | _, _, f, .cons h t => .cons (f _ _ List.mem_cons_self h) (each_imp (fun a b hb => f a b (List.mem_cons_of_mem _ hb)) t)
def rSortD (K : Fg) : List V → Hp → VK → Prop := fun vs H Q => ∃ (a : Addr) (ps : List (V × D)), vs = [V.ref a] ∧ SqL K H a (ps.map (·.1)) ∧ (∀ p ∈ ps, Dp K H p.1 (toPy p.2)) ∧ SortOk (ps.map (·.2)) ∧
  ∀ p : Addr, H p = none → Q (.ref p) (upd H p (.lst ((ps.mergeSort leP).map (·.1))))
theorem cr_sortD (hu : X.A.units + 64 < cLine) : CallR X (.builtin "sorted") (rSortD X.K) := by
  intro pins s σ H vs us Q I r h
  obtain ⟨a, ps, rfl, hs, hd, ⟨h1, h2, h3, h4⟩, q⟩ := h
  obtain ⟨its, rv, hl, hz⟩ := I.list hs
  obtain ⟨u, rfl, ru⟩ := vals1 r
  obtain rfl : u = Value.ref a := ru
  have e := each_of (K := X.K) rv
  rw [List.map_map] at h2 h3
  rw [List.length_map] at hz
  refine PySem.W.sorted_data (enc := fun p : V × D => toPy p.2) hl.isList e (each_imp (fun u p hp hr => Dp.reads I _ _ _ (hd p hp) hr) e) h2 h3 hz (fun p hp => ?_) fun out ho hout => ?_
  · have := h4 p.2 (List.mem_map.mpr ⟨p, hp, rfl⟩)
    omega
  · obtain ⟨ep, he'⟩ := PyProof.Rows.sortedAll_at s.heap its out.toArray
    have hzz : ((ps.mergeSort leP).map (·.1)).length ≤ sizeLine := by
      rw [List.length_map, List.length_mergeSort]
      exact hz
    refine ⟨.ref _, upd H (s.heap.objs.size + 1) (.lst ((ps.mergeSort leP).map (·.1))), I.laid (t' := s.toks) (fun _ _ => PyProof.Rows.sortedAll_old) (Nat.le_succ _) ⟨hzz, out, ep, of_each hout, he'⟩, rfl, q _ (I.hok.fresh (Nat.le_succ _))⟩
def cSortD : CD := fun ds Q => match ds with
  | [.lst xs] => SortOk xs ∧ Q (.ow (.lst (xs.mergeSort leD)))
  | _ => False
theorem rpA_zip {K : Fg} {S : Hp} : ∀ {vs : List V} {ds : List D}, RpA K S vs ds → (vs.zip ds).map (·.1) = vs ∧ (vs.zip ds).map (·.2) = ds ∧ ∀ p ∈ vs.zip ds, Rp K S p.1 p.2
  | _, _, .nil => ⟨rfl, rfl, by simp⟩
  | _, _, .cons a b => by
    obtain ⟨h1, h2, h3⟩ := rpA_zip b
    refine ⟨by simp [h1], by simp [h2], fun p hp => ?_⟩
    rcases List.mem_cons.mp hp with rfl | w
    · exact a
    · exact h3 p w
theorem rpA_unzip {K : Fg} {S : Hp} : ∀ {ps : List (V × D)}, (∀ p ∈ ps, Rp K S p.1 p.2) → RpA K S (ps.map (·.1)) (ps.map (·.2))
  | [], _ => .nil
  | p :: ps, h => .cons (h p List.mem_cons_self) (rpA_unzip fun q hq => h q (List.mem_cons_of_mem _ hq))
theorem pureA_mem : ∀ {ds : List D}, isPureA ds = true → ∀ d ∈ ds, isPure d = true
  | d :: ds, h, e, he => by
    rw [isPureA, Bool.and_eq_true] at h
    rcases List.mem_cons.mp he with rfl | w
    · exact h.1
    · exact pureA_mem h.2 e w
theorem cb_sortD (hu : X.A.units + 64 < cLine) (hK : X.K = z.K := by first | assumption | rfl) : CallB X z (.builtin "sorted") cSortD := callB_of (cr_sortD hu) fun σ H S M ρ xs ds Q0 sim rb q => by
  unfold cSortD at q
  split at q
  · obtain ⟨ok, q⟩ := q
    cases rb with
    | cons r1 rr =>
      cases rr
      obtain ⟨a, ys, rfl, h1, k1⟩ := r1.lst sim.sub
      obtain ⟨e1, e2, e3⟩ := rpA_zip k1
      generalize ys.zip _ = ps at *
      subst e1
      subst e2
      refine ⟨a, ps, rfl, .of h1, fun p hp => by rw [hK]; exact Rp.dp sim.sub _ _ (pureA_mem ok.1 _ (List.mem_map.mpr ⟨p, hp, rfl⟩)) (e3 p hp), ok, fun p hp => poE_ow sim hp ?_ q⟩
      have e4 : (ps.mergeSort leP).map (·.2) = (ps.map (·.2)).mergeSort leD := List.map_mergeSort fun _ _ _ _ => rfl
      rw [← e4]
      exact rpA_unzip fun p hp => e3 p ((List.mergeSort_perm ps leP).mem_iff.mp hp)
  · exact q.elim
end
/-! rows of pairs of numbers -/
end PL
namespace PL
open PySem PySem.Spec PyProof.Rows L2

/-! ### dicts: made once, then read -/
def keyD : Key → D
  | .inl i => .int i
  | .inr s => .str s
def kyOf : D → Option Key
  | .int i => some (.inl i)
  | .str s => some (.inr s)
  | _ => none
theorem kyOf_rp {K : Fg} {S : Hp} {v : V} {d : D} {k : Key} (h : Rp K S v d) (e : kyOf d = some k) : v = kV k := by
  cases h <;> simp [kyOf] at e <;> subst e <;> rfl
def lookD : List Key → List D → Key → Option D
  | k :: ks, d :: ds, j => if k = j then some d else lookD ks ds j
  | _, _, _ => none
section
variable {X : Cx} {z : Z} {a b c : Expr} {pos : Pos} {qa qb : QB} {q qc : QE}
theorem Rb.dic {K : Fg} {S : Hp} {M : Mu} {H : Hp} {v : V} {ks : List Key} {ds : List D} (h : Rb K S M H v (.dic ks ds)) : ∃ a o xs, v = .ref a ∧ S a = some (.frz o (.dK (ks.zip xs))) ∧ ks.length = xs.length ∧ RpA K S xs ds := by
  rcases h with h | ⟨a, xs, ds', h1, h2, _⟩
  · cases h with
    | dic h1 h2 h3 => exact ⟨_, _, _, rfl, h1, h2, h3⟩
  · cases h2
def lk (d k : D) : Option D := match d, kyOf k with
  | .dic ks ds, some j => lookD ks ds j
  | _, _ => none
theorem lk_int {ks : List Key} {ds : List D} {i : Int} : lk (.dic ks ds) (.int i) = lookD ks ds (.inl i) := rfl
theorem lk_str {ks : List Key} {ds : List D} {i : Str} : lk (.dic ks ds) (.str i) = lookD ks ds (.inr i) := rfl
def isDic : D → Bool
  | .dic _ _ => true
  | _ => false
theorem kyOf_rb {K : Fg} {S : Hp} {M : Mu} {H : Hp} {y : V} {k : D} {j : Key} (r : Rb K S M H y k) (e : kyOf k = some j) : y = kV j := by
  rcases r with r | ⟨_, _, _, _, e2, _⟩
  · exact kyOf_rp r e
  · rw [e2] at e; cases e
/-- d[e] -/
def eDGet (qa qb : QB) : QE := fun ρ M Q => qa ρ M fun d ρ1 M1 => qb ρ1 M1 fun k ρ2 M2 => match lk d k with
  | some r => Q (.va r) ρ2 M2
  | none => False
/-- d.get(e, c) -/
def eDGet2 (qa qb : QB) (qc : QE) : QE := fun ρ M Q => qa ρ M fun d ρ1 M1 => isDic d = true ∧ qb ρ1 M1 fun k ρ2 M2 => qc ρ2 M2 fun r ρ3 M3 => (kyOf k).isSome = true ∧ Q (.va ((lk d k).getD r.val)) ρ3 M3
/-- for k in d -/
def iDic (q : QE) : QA := fun ρ M Q => q ρ M fun r ρ' M' => match r with
  | .va (.dic ks _) => Q (ks.map keyD) ρ' M'
  | _ => False
/-- the dict of a name, locked from now on -/
def tLock (i : Nat) : TE := fun σ H Q => ∃ p kvs, σ[i]? = some (some (.ref p)) ∧ H p = some (.dK kvs) ∧ ∀ od, Q (.ref p) (upd H p (.frz od (.dK kvs)))
theorem pe_lock {i : Nat} {x : Str} (hN : X.N[i]? = some x) (hv : Vis X.env.scope x) (hd : (x == ("__debug__" : Str)) = false := by decide) (hcd : (x == ("__classdict__" : Str)) = false := by decide) : PE X (.Name x pos) (tLock i) := by
  refine ⟨fun pins s σ H Q I ⟨p, kvs, e, hp, q⟩ => ?_⟩
  refine thn ((pe_var hN hv hd hcd).run pins s σ H (fun v H' => v = .ref p ∧ H' = H) I ⟨_, e, rfl, rfl⟩) fun v s1 ⟨y, H1, I1, r1, e1, e2⟩ => ?_
  subst e1 e2
  obtain ⟨od, I2⟩ := I1.lock hp True.intro
  exact ⟨_, _, I2, r1, q od⟩
/-! ### a dict of lists, made by setdefault and append -/
def sByCls : QS := fun D' ρ M => match ρ with
  | [.va (.tup xs), .va (.int c), .un, .un] => ∃ ns : List Int, xs = ns.map D.int ∧ 0 < c ∧ ns.length < 16777216 ∧
    ∀ ks : List Int, ks.Nodup → (∀ k, k ∈ ks ↔ ∃ r ∈ ns, r % c = k) → D'.rt (.va (.dic (ks.map Sum.inl) (ks.map fun k => .lst ((ns.filter fun r => r % c = k).map D.int)))) M
  | _ => False
end
structure ByInv (Hb H : Hp) (p : Addr) (c : Int) (ns : List Int) (es : List (Int × Addr)) : Prop where
  same : Same Hb H
  dict : H p = some (.dK (es.map fun e => (.inl e.1, .ref e.2)))
  knd : (es.map (·.1)).Nodup
  mem : ∀ k, k ∈ es.map (·.1) ↔ ∃ r ∈ ns, r % c = k
  lst : ∀ e ∈ es, Hb e.2 = none ∧ e.2 ≠ p ∧ H e.2 = some (.lst ((ns.filter fun r => r % c = e.1).map V.int))
  and_ : (es.map (·.2)).Nodup
  pn : Hb p = none
  len : es.length ≤ ns.length
theorem valV_es {es : List (Int × Addr)} {k : Int} : (∀ v, valV (es.map fun e => ((.inl e.1 : Key), V.ref e.2)) (.inl k) = some v → ∃ e ∈ es, e.1 = k ∧ v = .ref e.2) ∧ (valV (es.map fun e => ((.inl e.1 : Key), V.ref e.2)) (.inl k) = none → k ∉ es.map (·.1)) := by
  induction es with
  | nil => exact ⟨fun v e => (by cases e), fun _ h => (by cases h)⟩
  | cons e es ih =>
    rw [List.map_cons]
    by_cases c : e.1 = k
    · rw [valV_pos (by rw [c])]
      refine ⟨fun v h => ?_, fun h => by cases h⟩
      cases h
      exact ⟨e, List.mem_cons_self, c, rfl⟩
    · rw [valV_neg (by simpa using c)]
      refine ⟨fun v h => ?_, fun h w => ?_⟩
      · obtain ⟨e', h1, h2⟩ := ih.1 v h
        exact ⟨e', List.mem_cons_of_mem _ h1, h2⟩
      · rcases List.mem_cons.mp w with w | w
        · exact c w.symm
        · exact ih.2 h w
theorem ByInv.new {Hb H : Hp} {p q : Addr} {c r : Int} {ns : List Int} {es : List (Int × Addr)} (h : ByInv Hb H p c ns es) (hq : H q = none) (hk : r % c ∉ es.map (·.1)) :
    ByInv Hb (upd (upd (upd H q (.lst [])) p (.dK (putK (es.map fun e => ((.inl e.1 : Key), V.ref e.2)) (.inl (r % c)) (.ref q)))) q (.lst [.int r])) p c (ns ++ [r]) (es ++ [(r % c, q)]) := by
  obtain ⟨h1, h2, h3, h4, h5, h6, h7, h8⟩ := h
  have hqp : q ≠ p := fun w => by rw [w, h2] at hq; cases hq
  have hv : valV (es.map fun e => ((.inl e.1 : Key), V.ref e.2)) (.inl (r % c)) = none := by
    cases e : valV (es.map fun e => ((.inl e.1 : Key), V.ref e.2)) (.inl (r % c)) with
    | none => rfl
    | some v =>
      obtain ⟨e', a, b, _⟩ := valV_es.1 v e
      exact absurd (List.mem_map.mpr ⟨e', a, b⟩) hk
  refine ⟨fun b o w => ?_, ?_, ?_, fun k => ?_, fun e he => ?_, ?_, h7, by simp; omega⟩
  · have w2 := h1 _ _ w
    rw [upd_ne (ne_of_none w2 hq), upd_ne (ne_of_none w h7), upd_ne (ne_of_none w2 hq)]
    exact w2
  · rw [upd_ne (Ne.symm hqp), upd_same, putK_new _ hv]
    simp
  · rw [List.map_append, List.nodup_append]
    refine ⟨h3, by simp, fun a ha b hb w => ?_⟩
    simp at hb
    rw [w, hb] at ha
    exact hk ha
  · rw [List.map_append, List.mem_append, h4]
    constructor
    · rintro (⟨s, hs, e⟩ | w)
      · exact ⟨s, List.mem_append_left _ hs, e⟩
      · have w2 : k = r % c := by simpa using w
        exact ⟨r, List.mem_append_right _ List.mem_cons_self, w2.symm⟩
    · rintro ⟨s, hs, e2⟩
      rcases List.mem_append.mp hs with w | w
      · exact .inl ⟨s, w, e2⟩
      · rw [List.mem_singleton.mp w] at e2
        exact .inr (by simp [e2])
  · rcases List.mem_append.mp he with w | w
    · obtain ⟨b1, b2, b3⟩ := h5 e w
      refine ⟨b1, b2, ?_⟩
      have hne : ¬ r % c = e.1 := fun w2 => hk (List.mem_map.mpr ⟨e, w, w2.symm⟩)
      rw [upd_ne (ne_of_none b3 hq), upd_ne b2, upd_ne (ne_of_none b3 hq), b3, List.filter_append]
      simp [hne]
    · rw [List.mem_singleton.mp w]
      refine ⟨?_, hqp, ?_⟩
      · cases e : Hb q with
        | none => rfl
        | some o => rw [h1 _ _ e] at hq; cases hq
      · rw [upd_same, List.filter_append]
        have : ns.filter (fun s => s % c = r % c) = [] := by
          rw [List.filter_eq_nil_iff]
          intro s hs w2
          exact hk ((h4 _).mpr ⟨s, hs, by simpa using w2⟩)
        rw [this]
        simp
  · rw [List.map_append, List.nodup_append]
    refine ⟨h6, by simp, fun a ha b hb w => ?_⟩
    simp at hb
    obtain ⟨e, he, rfl⟩ := List.mem_map.mp ha
    have := (h5 e he).2.2
    rw [w, hb, hq] at this
    cases this
end PL
namespace PL
open PySem PySem.Spec PyProof.Rows L2
/-! ### a list given away -/
section
variable {X : Cx} {z : Z}
def eFrz (q : QE) : QE := fun ρ M Q => q ρ M fun r ρ' M' => Q (.va r.val) ρ' M'
end
end PL
namespace PL
open PySem PySem.Spec PyProof.Rows L2
/-! ### objects -/
/-- a class's statements -/
def bodyC : Stmt → List Stmt
  | .ClassDef (body := b) .. => b
  | _ => []
theorem zip_look : ∀ {fs : List Str} {vs : List V} {i : Nat} {f : Str} {v : V}, fs.Nodup → fs[i]? = some f → vs[i]? = some v → (fs.zip vs).lookup f = some v
  | [], _, _, _, _, _, h, _ => by simp at h
  | _ :: _, [], _, _, _, _, _, h => by simp at h
  | g :: fs, u :: vs, 0, f, v, _, h1, h2 => by
    simp at h1 h2
    subst h1 h2
    simp [List.lookup_cons]
  | g :: fs, u :: vs, i + 1, f, v, n, h1, h2 => by
    simp at h1 h2
    have hn := List.nodup_cons.mp n
    have hne : (f == g) = false := by
      cases e : f == g with
      | false => rfl
      | true => exact absurd (by rw [← eq_of_beq e]; exact List.mem_of_getElem? h1) hn.1
    rw [List.zip_cons_cons, List.lookup_cons, hne]
    exact zip_look hn.2 h1 h2
theorem zip_none : ∀ {fs : List Str} {vs : List V} {f : Str}, f ∉ fs → (fs.zip vs).lookup f = none
  | [], _, _, _ => rfl
  | _ :: _, [], _, _ => rfl
  | g :: fs, u :: vs, f, h => by
    have hne : (f == g) = false := by
      cases e : f == g with
      | false => rfl
      | true => exact absurd (by rw [eq_of_beq e]; exact List.mem_cons_self) h
    rw [List.zip_cons_cons, List.lookup_cons, hne]
    exact zip_none fun w => h (List.mem_cons_of_mem _ w)
theorem put_new {f : Str} {v : V} : ∀ {fs : List Str} {vs : List V}, f ∉ fs → fs.length = vs.length → putF f v (fs.zip vs) = (fs ++ [f]).zip (vs ++ [v])
  | [], [], _, _ => rfl
  | [], _ :: _, _, h => by simp at h
  | _ :: _, [], _, h => by simp at h
  | g :: fs, u :: vs, h, l => by
    show (if g = f then _ else _) = _
    rw [if_neg fun e => h (by rw [e]; exact List.mem_cons_self)]
    show (g, u) :: putF f v (fs.zip vs) = (g, u) :: (fs ++ [f]).zip (vs ++ [v])
    rw [put_new (fun w => h (List.mem_cons_of_mem _ w)) (by simpa using l)]
/-- a value that is an object of the class c, its names, its fields -/
def objOf (M : Mu) : D → Option (Str × List Str × List D)
  | .obj c fs ds => some (c, fs, ds)
  | .ref a => (match M.lookup a with
    | some (.ins c fs ds) => some (c, fs, ds)
    | _ => none)
  | _ => none
theorem objOf_rb {z : Z} {S : Hp} {M : Mu} {ρ : Ev} {σ : St} {H : Hp} {v : V} {d : D} {c : Str} {fs : List Str} {ds : List D} (sim : Sim z S M ρ σ H) (rb : Rb z.K S M H v d) (e : objOf M d = some (c, fs, ds)) :
    Rp z.K S v d ∧ ∃ a dx xs, v = .ref a ∧ H a = some (.ins (He.ga z.K c) dx (fs.zip xs)) ∧ fs.length = xs.length ∧ fs.Nodup ∧ RpA z.K S xs ds := by
  have rp : Rp z.K S v d := by
    rcases rb with h | ⟨_, _, _, _, rfl, _⟩
    · exact h
    · cases e
  refine ⟨rp, ?_⟩
  unfold objOf at e
  split at e
  · cases e
    cases rp with
    | obj a l n b => exact ⟨_, _, _, rfl, sim.sub _ _ a, l, n, b⟩
  · split at e
    · rename_i a _ c' fs' ds' em
      cases e
      cases rp
      obtain ⟨_, dx, xs, h1, h2, h3, h4⟩ := sim.mu _ (lookup_mem em)
      exact ⟨a, dx, xs, rfl, h1, h2, h3, h4⟩
    · cases e
  · cases e
/-- o.f, the i-th field of an object of the class c -/
def eFld (c f : Str) (i : Nat) (qb : QB) : QE := fun ρ M Q => qb ρ M fun d ρ1 M1 => match objOf M1 d with
  | some (c', fs, ds) => c' = c ∧ fs[i]? = some f ∧ (match ds[i]? with | some x => Q (.va x) ρ1 M1 | none => False)
  | none => False
/-- o.f = e, a new field -/
def sFldN (c f : Str) (qv : QE) (qb : QB) : QS := fun D' ρ M => qv ρ M fun r ρ1 M1 => qb ρ1 M1 fun d ρ2 M2 => match d with
  | .ref a => (match M2.lookup a with
    | some (.ins c' fs ds) => c' = c ∧ (fs.contains f = false ∧ fs.length < 1000) ∧ D'.nx ρ2 (mput M2 a (.ins c (fs ++ [f]) (ds ++ [r.val])))
    | _ => False)
  | _ => False
/-- o.f = e, the i-th field -/
def sFldU (c f : Str) (i : Nat) (qv : QE) (qb : QB) : QS := fun D' ρ M => qv ρ M fun r ρ1 M1 => qb ρ1 M1 fun d ρ2 M2 => match d with
  | .ref a => (match M2.lookup a with
    | some (.ins c' fs ds) => c' = c ∧ (fs[i]? = some f ∧ fs.length < 1000) ∧ D'.nx ρ2 (mput M2 a (.ins c fs (ds.set i r.val)))
    | _ => False)
  | _ => False
/-- o.m(..) -/
def eMeth (c m : Str) (p : PSp) (qb : QB) (qr : QA) : QE := fun ρ M Q => qb ρ M fun d ρ1 M1 => match objOf M1 d with
  | some (c', fs, ds) => c' = c ∧ fs.contains m = false ∧ qr ρ1 M1 fun ds ρ2 M2 => p (d :: ds) M2 (fun r M3 => Q r ρ2 M3) fun _ _ _ => False
  | none => False
def eMethX (W : WP) (c m : Str) (p : PSp) (qb : QB) (qr : QA) : QE := fun ρ M Q => qb ρ M fun d ρ1 M1 => match objOf M1 d with
  | some (c', fs, ds) => c' = c ∧ fs.contains m = false ∧ qr ρ1 M1 fun ds ρ2 M2 => p (d :: ds) M2 (fun r M3 => Q r ρ2 M3) fun c x M3 => W c x ρ2 M3
  | none => False
section
variable {X : Cx} {z : Z} {o value e : Expr} {es : List Expr} {c f m : Str} {pos pos' tpos apos pp : Pos} {qb : QB} {qv : QE} {qr : QA} {i : Nat}
theorem qe_fld (cl : Cls X.K (He.ga X.K c)) (na : NoAttr X.K (He.ga X.K c) f) (he : PE X o (liB z qb)) (hK : X.K = z.K := by first | assumption | rfl) (hb : attributeBase o f X.env (eval o X.env) = eval o X.env := by rfl) : PE X (.Attribute o f pos) (liE z (eFld c f i qb)) :=
  pe_w (pe_fld he hb) fun σ H Q ⟨S, M, ρ, Q0, sim, h, post⟩ => ⟨S, M, ρ, _, sim, h, fun v H1 ⟨d, ρ1, M1, S1, q, st1, sim1, rb⟩ => by
    dsimp only at q
    split at q
    · rename_i c' fs ds eo
      obtain ⟨rfl, e1, q⟩ := q
      split at q
      · rename_i x ex
        obtain ⟨rp, a, dx, xs, rfl, h1, h2, h3, h4⟩ := objOf_rb sim1 rb eo
        obtain ⟨u, hu, ru⟩ := h4.get ex
        exact ⟨a, _, dx, _, u, rfl, by rw [hK]; exact h1, cl, na, zip_look h3 e1 hu, post u H1 ⟨.va x, ρ1, M1, S1, q, st1, sim1, ru⟩⟩
      · exact q.elim
    · exact q.elim⟩
theorem nctn {fs : List Str} {f : Str} (h : fs.contains f = false) : f ∉ fs := fun w => by rw [List.contains_iff_mem.mpr w] at h; cases h
theorem qs_fldN (cl : Cls X.K (He.ga X.K c)) (na : NoAttr X.K (He.ga X.K c) f) (hv : PE X value (liE z qv)) (he : PE X o (liB z qb)) (hK : X.K = z.K := by first | assumption | rfl)
    (hs : swapsWith value (some (.Attribute o f pos')) pos.line X.env = pure false := by rfl) : PS X (.Assign [.Attribute o f pos'] value pos) (liS z (sFldN c f qv qb)) :=
  ps_w (ps_fld he hv hs) fun D σ H ⟨S, M, ρ, D0, sim, h, nx, _⟩ => ⟨S, M, ρ, _, sim, h, fun y H1 ⟨r, ρ1, M1, S1, q1, st1, sim1, res1⟩ => by
    obtain ⟨S2, sim2, st2, rp⟩ := sim1.freeze res1
    refine ⟨S2, M1, ρ1, _, sim2, q1, fun x H2 ⟨d, ρ2, M2, S3, q2, st3, sim3, rb⟩ => ?_⟩
    dsimp only at q2
    split at q2
    · rename_i a
      split at q2
      · rename_i c' fs ds em
        obtain ⟨rfl, ⟨n1, n2⟩, q2⟩ := q2
        obtain ⟨_, dx, xs, h1, h2, h3, h4⟩ := sim3.mu _ (lookup_mem em)
        have ex : x = .ref a := by
          rcases rb with w | ⟨_, _, _, _, w, _⟩
          · cases w; rfl
          · cases w
        have hl : (fs.zip xs).length < 1000 := by rw [List.length_zip, ← h2, Nat.min_self]; exact n2
        refine ⟨a, _, dx, _, ex, by rw [hK]; exact h1, cl, na, hl, nx _ _ S3 σ _ q2 ((st1.trans st2).trans st3).same ?_⟩
        rw [put_new (nctn n1) h2, hK]
        refine sim3.mset (lookup_mem em) ⟨dx, _, upd_same, by simp [h2], ?_, h4.append (.one (Rp.ext st3.same _ _ rp))⟩
        rw [List.nodup_append]
        exact ⟨h3, by simp, fun u hu w hw e => nctn n1 (by rw [List.mem_singleton.mp hw] at e; exact e ▸ hu)⟩
      · exact q2.elim
    · exact q2.elim⟩
/-- o.m(e, ..) -/
theorem meth_lift2 {E : XK} {σ : St} {H : Hp} {Q : VK} {p : PSp} (hK : X.K = z.K) (h : liE z (eMeth c m p qb qr) σ H Q) : tMeth (He.ga X.K c) m (liP X.K p) [] E (liB z qb) (liA z qr) σ H Q := by
  obtain ⟨S, M, ρ, Q0, sim, h, post⟩ := h
  refine ⟨S, M, ρ, _, sim, h, fun v H1 ⟨d, ρ1, M1, S1, q, st1, sim1, rb⟩ => ?_⟩
  dsimp only at q
  split at q
  · rename_i c' fs xs eo
    obtain ⟨rfl, e1, q⟩ := q
    obtain ⟨rp, a, dx, us, rfl, h1, h2, h3, h4⟩ := objOf_rb sim1 rb eo
    refine ⟨a, dx, _, rfl, by rw [hK]; exact h1, zip_none (nctn e1), S1, M1, ρ1, _, sim1, q, fun vs H2 ⟨ds, ρ2, M2, S2, q2, st2, sim2, rp2⟩ => ?_⟩
    show liP X.K p (.ref a :: (vs ++ [])) H2 Q E
    rw [List.append_nil, hK]
    exact ⟨S2, M2, d :: ds, _, sim2.core0, .cons (Rp.ext st2.same _ _ rp) rp2, q2, fun w H3 r M3 S3 q3 cr res => post w H3 ⟨r, ρ2, M3, S3, q3, (st1.trans st2).trans cr.step, sim2.after cr, sim2.afterR res⟩⟩
  · exact q.elim
theorem qe_ometh {CX : CXT} {k : Nat} {g : Addr} {fd : FuncData} {ps : List Str} {p : PSp} {E : XK} {pl : Sem Bool} (he : PE X o (liB z qb)) (cl : Cls X.K (He.ga X.K c)) (hm : Meth X.K (He.ga X.K c) m g) (F : FnOk X.prog X.w X.K X.mg X.base CX k g fd ps (liP X.K p))
    (hr : Room k X.A) (hb : Binds X.K fd ps []) (hx : Passes CX X E) (ha : PA X (e :: es) (liA z qr)) (hK : X.K = z.K := by first | assumption | rfl) (hst : starEach (e :: es) X.env = (false, eval e X.env) :: starEach es X.env := by rfl) (hpl : (backTo pos (starEach es X.env)).any (·.1) = false := by rfl)
    (ht : eval (.Call (.Attribute o m apos) (e :: es) [] pos) X.env = (do
      let ov ← eval o X.env
      standAt apos.atName
      let (fv, first) ← holding [ov] (getMethod ov m pl)
      callWith pos fv first (backTo pos (starEach (e :: es) X.env)) (backToKw pos (keywordEach [] X.env))) := by rfl) : PE X (.Call (.Attribute o m apos) (e :: es) [] pos) (liE z (eMeth c m p qb qr)) :=
  pe_w (pe_meth he cl hm F hr hb .nil hx ha hst hpl ht) fun _ _ _ h => meth_lift2 hK h
/-- o.m(e, ..), which may raise -/
def tMethS (C : Addr) (m : Str) (sp : Sp) (E : St → XK) (ta : TE) (t : TA) : TE := fun σ H Q => ta σ H fun x H1 => ∃ a dx fs, (x = .ref a ∧ H1 a = some (.ins C dx fs)) ∧ fs.lookup m = none ∧ t σ H1 fun vs H2 => sp (x :: vs) H2 Q (E σ)
theorem qe_omethX {k : Nat} {g : Addr} {fd : FuncData} {ps : List Str} {p : PSp} {W : WP} {pl : Sem Bool} (tk : Takes X (liX z W)) (he : PE X o (liB z qb)) (cl : Cls X.K (He.ga X.K c)) (hm : Meth X.K (He.ga X.K c) m g) (F : FnOk X.prog X.w X.K X.mg X.base (L2.CX X.prog X.w) k g fd ps (liPX X.K p))
    (hr : Room k X.A) (hb : Binds X.K fd ps []) (ha : PA X (e :: es) (liA z qr)) (hK : X.K = z.K := by first | assumption | rfl) (hst : starEach (e :: es) X.env = (false, eval e X.env) :: starEach es X.env := by rfl) (hpl : (backTo pos (starEach es X.env)).any (·.1) = false := by rfl)
    (ht : eval (.Call (.Attribute o m apos) (e :: es) [] pos) X.env = (do
      let ov ← eval o X.env
      standAt apos.atName
      let (fv, first) ← holding [ov] (getMethod ov m pl)
      callWith pos fv first (backTo pos (starEach (e :: es) X.env)) (backToKw pos (keywordEach [] X.env))) := by rfl) : PE X (.Call (.Attribute o m apos) (e :: es) [] pos) (liE z (eMethX W c m p qb qr)) := by
  have raw : PE X (.Call (.Attribute o m apos) (e :: es) [] pos) (tMethS (He.ga X.K c) m (liPX X.K p) (WE (liX z W)) (liB z qb) (liA z qr)) := by
    refine ⟨fun pins s σ H Q I h => PySem.W.methodCall_KW (pl := pl) (thn (he.run pins s σ H _ I h) fun u s1 ⟨x, H1, I1, rx, a, dx, fs, ⟨ex, ea⟩, l, q⟩ => ?_) ht⟩
    subst ex
    obtain rfl : u = Value.ref a := rx
    refine getmeth_ok I1 ea cl hm l (PySem.W.callWith_K (first := [.ref a]) (h₀ := X.base) I1.ok.mod.kin hm.kp ?_ hst hpl)
    exact thn (ha.run pos pins s1 σ H1 _ I1 q) fun us s2 ⟨vs, H2, I2, r, q2⟩ => ⟨I2.kIn, run_fnS (us := .ref a :: us) (vs := .ref a :: vs) F hr hb (passAt tk σ) I2 (.cons rfl r) q2⟩
  refine pe_w raw fun σ H Q h => ?_
  obtain ⟨S, M, ρ, Q0, sim, h, post⟩ := h
  refine ⟨S, M, ρ, _, sim, h, fun v H1 ⟨d, ρ1, M1, S1, q, st1, sim1, rb⟩ => ?_⟩
  dsimp only at q
  split at q
  · rename_i c' fs xs eo
    obtain ⟨rfl, e1, q⟩ := q
    obtain ⟨rp, a, dx, us, rfl, h1, h2, h3, h4⟩ := objOf_rb sim1 rb eo
    refine ⟨a, dx, _, ⟨rfl, by rw [hK]; exact h1⟩, zip_none (nctn e1), S1, M1, ρ1, _, sim1, q, fun vs H2 ⟨ds, ρ2, M2, S2, q2, st2, sim2, rp2⟩ => ?_⟩
    show liPX X.K p (.ref a :: vs) H2 Q _
    rw [hK]
    exact ⟨S2, M2, d :: ds, _, _, sim2.core0, .cons (Rp.ext st2.same _ _ rp) rp2, q2, fun w H3 r M3 S3 q3 cr res => post w H3 ⟨r, ρ2, M3, S3, q3, (st1.trans st2).trans cr.step, sim2.after cr, sim2.afterR res⟩,
      fun cn y dd M3 S3 H3 q3 c3 ex => ⟨S3, M3, ρ2, cn, y, rfl, sim2.after c3, ex, q3⟩⟩
  · exact q.elim
/-! ### a new object -/
theorem Core.madd {S : Hp} {M : Mu} {H : Hp} {x : Addr} {ho : HO} {mo : MO} (h : Core z S M H) (hx : H x = none) (hk : MOk z.K S (upd H x ho) x mo) : Core z S ((x, mo) :: M) (upd H x ho) := by
  have hsame : Same H (upd H x ho) := same_upd hx
  have hm : ∀ p ∈ M, p.1 ≠ x := fun p hp e => by
    obtain ⟨u, hu⟩ := (h.mu p hp).2.at
    rw [e, hx] at hu
    cases hu
  refine ⟨h.step.trans ⟨.refl _, fun b o e _ => hsame b o e, fun p hp => ?_, fun b e => ?_⟩, fun b o e => hsame b o (h.sub b o e), h.frS, fun p hp => ?_, ?_, fun b hb => ?_⟩
  · rcases List.mem_cons.mp hp with rfl | w
    · exact .inr hx
    · exact .inl ⟨p, w, rfl⟩
  · cases q : H b with
    | none => exact absurd q e
    | some o => rw [hsame b o q]; simp
  · rcases List.mem_cons.mp hp with rfl | w
    · exact ⟨h.sNone hx, hk⟩
    · obtain ⟨k1, k2⟩ := h.mu p w
      exact ⟨k1, k2.ext (.refl _) (upd_ne (hm p w))⟩
  · rw [List.map_cons]
    exact List.nodup_cons.mpr ⟨fun w => by obtain ⟨p, hp, e⟩ := List.mem_map.mp w; exact hm p hp e, h.mnd⟩
  · obtain ⟨r1, r2, r3⟩ := h.rsv b hb
    have hne : b ≠ x := fun e => r2 (by rw [e]; exact hx)
    refine ⟨r1, by rw [upd_ne hne]; exact r2, fun p hp e => ?_⟩
    rcases List.mem_cons.mp hp with rfl | w
    · exact hne e.symm
    · exact r3 p w e
theorem Sim.madd {S : Hp} {M : Mu} {ρ : Ev} {σ : St} {H : Hp} {x : Addr} {ho : HO} {mo : MO} (h : Sim z S M ρ σ H) (hx : H x = none) (hk : MOk z.K S (upd H x ho) x mo) : Sim z S ((x, mo) :: M) ρ σ (upd H x ho) ∧ Step S M H S ((x, mo) :: M) (upd H x ho) := by
  refine ⟨⟨h.toCore.madd hx hk, h.len, h.va, fun i o e => ?_, h.sep⟩, .refl _, fun b o e _ => same_upd hx b o e, fun p hp => ?_, fun b e => ?_⟩
  · obtain ⟨b, h1, h2, h3, h4, h5⟩ := h.ow i o e
    obtain ⟨u, hu⟩ := h4.at
    have hne : b ≠ x := fun w => by rw [w, hx] at hu; cases hu
    refine ⟨b, h1, h2, h3, h4.ext (.refl _) (upd_ne hne), fun p hp => ?_⟩
    rcases List.mem_cons.mp hp with rfl | w
    · exact hne.symm
    · exact h5 p w
  · rcases List.mem_cons.mp hp with rfl | w
    · exact .inr hx
    · exact .inl ⟨p, w, rfl⟩
  · cases q : H b with
    | none => exact absurd q e
    | some o => rw [same_upd hx b o q]; simp
/-- C(e, .., k = v, ..) -/
def eMakeX (W : WP) (c : Str) (n mm : Nat) (p : PSp) (qr qk : QA) : QE := fun ρ M Q => qr ρ M fun ds ρ1 M1 => qk ρ1 M1 fun es ρ2 M2 => (ds.length = n ∧ es.length = mm) ∧ ∀ x : Addr, (∀ q ∈ M2, q.1 ≠ x) →
  p (.ref x :: (ds ++ es)) ((x, .ins c [] []) :: M2) (fun r M3 => r = .va .non ∧ ∃ fs xs M4, M3 = (x, .ins c fs xs) :: M4 ∧ Q (.va (.obj c fs xs)) ρ2 M4) (fun cl y M3 => ∃ o M4, M3 = (x, o) :: M4 ∧ W cl y ρ2 M4)
def tMakeS (C : Addr) (n mm : Nat) (sp : Sp) (E : St → XK) (t tk : TA) : TE := fun σ H Q => t σ H fun vs H1 => tk σ H1 fun zs H2 => (vs.length = n ∧ zs.length = mm) ∧ ∀ x dx, H2 x = none → H2 dx = none → dx ≠ x →
  sp (.ref x :: (vs ++ zs)) (upd (upd H2 dx (.own x)) x (.ins C dx [])) (fun v H3 => v = .non ∧ Q (.ref x) H3) (E σ)
section
variable {kws : List Keyword} {qk : QA} {W : WP} {k n : Nat} {g : Addr} {fd : FuncData} {ps ks : List Str} {p : PSp}
theorem run_makeS {sp : Sp} {E : St → XK} {CX : CXT} {pins : List (Addr × Obj)} {σ : St} {H : Hp} {s : Shared} {Q : VK} {us ws : List Value} {vs zs : List V} {C : Addr} (mk : Mk X.K C g) (F : FnOk X.prog X.w X.K X.mg X.base CX k g fd ps sp) (hr : Room (k + 1) X.A)
    (hb : KBn X.K fd ps (n + 1) ks (fun us ws => us ++ ws) (fun vs zs => vs ++ zs)) (hx : PassesAt CX X σ (E σ)) (I : Inv X pins σ H s) (r : Vals vs us) (rz : Vals zs ws) (l1 : vs.length = n) (l2 : zs.length = ks.length)
    (h : ∀ x dx, H x = none → H dx = none → dx ≠ x → sp (.ref x :: (vs ++ zs)) (upd (upd H dx (.own x)) x (.ins C dx [])) (fun v H3 => v = .non ∧ Q (.ref x) H3) (E σ)) :
    wpAny (model X.prog X.w) X.A (call (.ref C) us (ks.zip ws)) (EP X pins σ Q) X.xe s := by
  have J := Inv.made (C := C) I
  obtain ⟨nx, hnx⟩ : ∃ nx, nx = s.heap.objs.size + 1 := ⟨_, rfl⟩
  have hq := h nx s.heap.objs.size (I.hok.fresh (by rw [hnx]; exact Nat.le_succ _)) (I.hok.fresh (Nat.le_refl _)) (by rw [hnx]; exact Nat.ne_of_lt (Nat.lt_succ_self _))
  rw [← hnx] at J
  have r1 : Vals (V.ref nx :: vs) (Value.ref nx :: us) := .cons rfl r
  have n1 : (Value.ref nx :: us).length = n + 1 := by rw [List.length_cons, ← r.length, l1]
  refine wpAny_call (make_map (f := g) I.kIn mk.makes mk.init (beq_iff_eq.mp mk.fn) ?_)
  rw [← hnx]
  refine codeAny_mono (F.run _ X.stack _ _ ⟨Value.ref nx :: us, ks.zip ws⟩ ((Value.ref nx :: us) ++ ws) ((V.ref nx :: vs) ++ zs) _ (E σ) (hr.make C us _) (J.env0.make C us _) (hb.to _ _ ws J.kIn n1 (rz.length.symm.trans l2)) (hb.rel r1 rz) hq) fun res s' hq' => ?_
  cases res with
  | error e => exact hx pins _ _ e s' J hq'
  | ok fl =>
    cases fl with
    | ret u =>
      obtain ⟨v, H', I3, rv, ev, q3⟩ := J.after hq'
      subst ev
      exact ⟨rv, ⟨V.ref nx, H', I3, rfl, q3⟩⟩
    | _ => exact False.elim hq'
end
end
end PL
namespace PL
open PySem PySem.Spec PyProof.Rows L2
/-! ### dicts that change -/
def gK {κ : Type} [DecidableEq κ] (l : List (κ × D)) (k : κ) : Option D := (l.find? fun p => decide (p.1 = k)).map (·.2)
def pK {κ : Type} [DecidableEq κ] (l : List (κ × D)) (k : κ) (d : D) : List (κ × D) :=
  if (l.any fun p => decide (p.1 = k)) = true then l.map (fun p => if p.1 = k then (p.1, d) else p) else l ++ [(k, d)]
section
variable {κ : Type} [DecidableEq κ]
theorem gK_nil {k : κ} : gK [] k = none := rfl
theorem gK_cons {p : κ × D} {l : List (κ × D)} {k : κ} : gK (p :: l) k = if p.1 = k then some p.2 else gK l k := by
  unfold gK
  rw [List.find?_cons]
  by_cases c : p.1 = k
  · rw [decide_eq_true c, if_pos c]; rfl
  · rw [decide_eq_false c, if_neg c]
theorem gK_any {k : κ} : ∀ {l : List (κ × D)}, (l.any fun p => decide (p.1 = k)) = (gK l k).isSome
  | [] => rfl
  | p :: l => by
    rw [List.any_cons, gK_cons, gK_any]
    by_cases c : p.1 = k
    · rw [if_pos c, decide_eq_true c]; rfl
    · rw [if_neg c, decide_eq_false c]; rfl
theorem gK_map {k j : κ} {d : D} : ∀ {l : List (κ × D)}, gK (l.map fun p => if p.1 = k then (p.1, d) else p) j = if j = k ∧ (gK l k).isSome then some d else gK l j
  | [] => by simp [gK_nil]
  | p :: l => by
    rw [List.map_cons, gK_cons, gK_map, gK_cons, gK_cons]
    by_cases c : p.1 = k
    · rw [if_pos c, if_pos c]
      by_cases c2 : p.1 = j
      · rw [if_pos (show (p.1, d).1 = j from c2)]
        rw [if_pos ⟨c2.symm.trans c, rfl⟩]
      · rw [if_neg (show ¬ (p.1, d).1 = j from c2), if_neg c2, if_neg fun w => c2 (c.trans w.1.symm), if_neg fun w => c2 (c.trans w.1.symm)]
    · rw [if_neg c, if_neg c]
      by_cases c2 : p.1 = j
      · rw [if_pos c2, if_pos c2, if_neg fun w => c (c2.trans w.1)]
      · rw [if_neg c2, if_neg c2]
theorem gK_snoc {k j : κ} {d : D} : ∀ {l : List (κ × D)}, gK (l ++ [(k, d)]) j = match gK l j with | some x => some x | none => if k = j then some d else none
  | [] => by rw [List.nil_append, gK_cons, gK_nil]
  | p :: l => by
    rw [List.cons_append, gK_cons, gK_snoc, gK_cons]
    by_cases c : p.1 = j
    · rw [if_pos c, if_pos c]
    · rw [if_neg c, if_neg c]
theorem gK_pK {l : List (κ × D)} {k j : κ} {d : D} : gK (pK l k d) j = if j = k then some d else gK l j := by
  unfold pK
  rw [gK_any]
  by_cases c : (gK l k).isSome = true
  · rw [if_pos c, gK_map]
    by_cases e : j = k
    · rw [if_pos ⟨e, c⟩, if_pos e]
    · rw [if_neg fun w => e w.1, if_neg e]
  · rw [if_neg c, gK_snoc]
    have cn : gK l k = none := by simpa using c
    by_cases e : j = k
    · subst e
      simp [cn]
    · rw [if_neg e, if_neg fun w => e w.symm]
      cases gK l j <;> rfl
theorem pK_length {l : List (κ × D)} {k : κ} {d : D} : (pK l k d).length ≤ l.length + 1 := by
  unfold pK
  split <;> simp
theorem KP.get {K : Fg} {S : Hp} {kvs : List (κ × V)} {kds : List (κ × D)} (h : KP K S kvs kds) (k : κ) : (∀ d, gK kds k = some d → ∃ v, valV kvs k = some v ∧ Rp K S v d) ∧ (gK kds k = none → valV kvs k = none) := by
  induction h with
  | nil => exact ⟨fun d e => (by cases e), fun _ => rfl⟩
  | @cons k' v d kvs kds a _ ih =>
    rw [gK_cons]
    by_cases c : k' = k
    · rw [if_pos c, valV_pos c]
      exact ⟨fun d' e => by cases e; exact ⟨v, rfl, a⟩, fun e => by cases e⟩
    · rw [if_neg c, valV_neg c]
      exact ih
theorem KP.any {K : Fg} {S : Hp} {kvs : List (κ × V)} {kds : List (κ × D)} (h : KP K S kvs kds) (k : κ) : (kvs.any fun p => decide (p.1 = k)) = kds.any fun p => decide (p.1 = k) := by
  induction h with
  | nil => rfl
  | cons _ _ ih => rw [List.any_cons, List.any_cons, ih]
theorem KP.put {K : Fg} {S : Hp} {kvs : List (κ × V)} {kds : List (κ × D)} (h : KP K S kvs kds) {k : κ} {v : V} {d : D} (r : Rp K S v d) : KP K S (putK kvs k v) (pK kds k d) := by
  unfold putK pK
  rw [h.any k]
  split
  · rename_i c
    clear c
    induction h with
    | nil => exact .nil
    | @cons k' v' d' kvs kds a _ ih =>
      rw [List.map_cons, List.map_cons]
      by_cases c : k' = k
      · rw [if_pos c, if_pos c]; exact .cons r ih
      · rw [if_neg c, if_neg c]; exact .cons a ih
  · rename_i c
    clear c
    induction h with
    | nil => exact .cons r .nil
    | cons a _ ih => exact .cons a ih
end
/-! #### rules -/
/-- {} -/
def eDNew : QE := fun ρ M Q => ∀ a : Addr, (∀ q ∈ M, q.1 ≠ a) → Q (.va (.ref a)) ρ ((a, .dic []) :: M)
def dicOf (M : Mu) (d : D) : Option (List (Key × D)) := match d with
  | .ref a => (match M.lookup a with
    | some (.dic l) => some l
    | _ => none)
  | _ => none
/-- d[k] -/
def eMGet (qa qb : QB) : QE := fun ρ M Q => qa ρ M fun d ρ1 M1 => qb ρ1 M1 fun k ρ2 M2 => match dicOf M2 d, kyOf k with
  | some l, some j => (match gK l j with | some r => Q (.va r) ρ2 M2 | none => False)
  | _, _ => False
/-- d.get(k) -/
def eMGet1 (qa qb : QB) : QE := fun ρ M Q => qa ρ M fun d ρ1 M1 => (dicOf M1 d).isSome = true ∧ qb ρ1 M1 fun k ρ2 M2 => match dicOf M2 d, kyOf k with
  | some l, some j => Q (.va ((gK l j).getD .non)) ρ2 M2
  | _, _ => False
/-- d.get(k, c) -/
def eMGet2 (qa qb : QB) (qc : QE) : QE := fun ρ M Q => qa ρ M fun d ρ1 M1 => (dicOf M1 d).isSome = true ∧ qb ρ1 M1 fun k ρ2 M2 => qc ρ2 M2 fun r ρ3 M3 => match dicOf M3 d, kyOf k with
  | some l, some j => Q (.va ((gK l j).getD r.val)) ρ3 M3
  | _, _ => False
/-- k in d -/
def tMIn (neg : Bool) (qb qa : QB) : QT := fun ρ M Q => qb ρ M fun k ρ1 M1 => qa ρ1 M1 fun d ρ2 M2 => match dicOf M2 d, kyOf k with
  | some l, some j => Q (if neg then !(gK l j).isSome else (gK l j).isSome) ρ2 M2
  | _, _ => False
/-- d[k] = e -/
def sMPut (qv : QE) (qa qb : QB) : QS := fun D' ρ M => qv ρ M fun r ρ1 M1 => qa ρ1 M1 fun d ρ2 M2 => qb ρ2 M2 fun k ρ3 M3 => match d, kyOf k with
  | .ref a, some j => (match M3.lookup a with
    | some (.dic l) => l.length < 16777216 ∧ D'.nx ρ3 (mput M3 a (.dic (pK l j r.val)))
    | _ => False)
  | _, _ => False
section
variable {X : Cx} {z : Z} {a b c value : Expr} {pos pos' : Pos} {qa qb : QB} {qv qc : QE}
theorem qe_dnew : PE X (.Dict [] [] pos) (liE z eDNew) :=
  pe_w pe_dnewK fun σ H Q ⟨S, M, ρ, Q0, sim, h, post⟩ p hp => by
    have hm : ∀ q ∈ M, q.1 ≠ p := fun q hq e => by
      obtain ⟨u, hu⟩ := (sim.mu q hq).2.at
      rw [e, hp] at hu
      cases hu
    obtain ⟨sim2, st2⟩ := sim.madd (mo := .dic []) (ho := .dK []) hp ⟨[], upd_same, .nil⟩
    exact post _ _ ⟨.va (.ref p), ρ, _, S, h p hm, st2, sim2, .ref p⟩
theorem dicOf_rb {S : Hp} {M : Mu} {ρ : Ev} {σ : St} {H : Hp} {v : V} {d : D} {l : List (Key × D)} (sim : Sim z S M ρ σ H) (rb : Rb z.K S M H v d) (e : dicOf M d = some l) : ∃ p kvs, v = .ref p ∧ H p = some (.dK kvs) ∧ KP z.K S kvs l := by
  unfold dicOf at e
  split at e
  · split at e
    · rename_i p _ l' em
      cases e
      obtain ⟨_, kvs, h1, h2⟩ := sim.mu _ (lookup_mem em)
      rcases rb with w | ⟨_, _, _, _, w, _⟩
      · cases w
        exact ⟨_, kvs, rfl, h1, h2⟩
      · cases w
    · cases e
  · cases e
theorem qe_mget (hu : X.A.units + 1 < cLine) (ha : PE X a (liB z qa)) (hb : PE X b (liB z qb)) (hs : NoSl b := by exact fun _ _ => rfl) : PE X (.Subscript a b pos) (liE z (eMGet qa qb)) :=
  pe_w (pe_dget hu ha hb hs) fun σ H Q ⟨S, M, ρ, Q0, sim, h, post⟩ => ⟨S, M, ρ, _, sim, h, fun v H1 ⟨d, ρ1, M1, S1, q1, st1, sim1, r1⟩ => ⟨S1, M1, ρ1, _, sim1, q1, fun y H2 ⟨k, ρ2, M2, S2, q2, st2, sim2, r2⟩ => by
    dsimp only at q2
    split at q2
    · rename_i l j el ek
      split at q2
      · rename_i r er
        obtain ⟨p, kvs, rfl, h1, h2⟩ := dicOf_rb sim2 (r1.step st2) el
        obtain ⟨w, e3, rw'⟩ := (h2.get j).1 _ er
        exact ⟨p, w, rfl, .inl ⟨_, _, .inl h1, kyOf_rb r2 ek, e3.symm⟩, post _ _ ⟨.va _, ρ2, M2, S2, q2, st1.trans st2, sim2, rw'⟩⟩
      · exact q2.elim
    · exact q2.elim⟩⟩
theorem qe_mget2 (hu : X.A.units + 1 < cLine) {apos cpos : Pos} (ha : PE X a (liB z qa)) (hb : PE X b (liB z qb)) (hc : PE X c (liE z qc)) (m : M2 X a "get" apos b c cpos) : PE X (.Call (.Attribute a "get" apos) [b, c] [] cpos) (liE z (eMGet2 qa qb qc)) :=
  pe_w (pe_dget2 hu ha hb hc m) fun σ H Q ⟨S, M, ρ, Q0, sim, h, post⟩ => ⟨S, M, ρ, _, sim, h, fun v H1 ⟨d, ρ1, M1, S1, ⟨q0, q1⟩, st1, sim1, r1⟩ => by
    obtain ⟨l0, el0⟩ := Option.isSome_iff_exists.mp q0
    obtain ⟨p, kvs0, rfl, h1, _⟩ := dicOf_rb sim1 r1 el0
    refine ⟨p, rfl, .inl ⟨_, .inl h1⟩, S1, M1, ρ1, _, sim1, q1, fun y H2 ⟨k, ρ2, M2, S2, q2, st2, sim2, r2⟩ => ⟨S2, M2, ρ2, _, sim2, q2, fun u H3 ⟨r, ρ3, M3, S3, q3, st3, sim3, r3⟩ => ?_⟩⟩
    obtain ⟨S4, sim4, st4, rp⟩ := sim3.freeze r3
    have e4 := (st2.trans st3).trans st4
    dsimp only at q3
    split at q3
    · rename_i l j el ek
      obtain ⟨p', kvs, e1, h3, h4⟩ := dicOf_rb sim4 (r1.step e4) el
      cases e1
      cases er : gK l j with
      | some r' =>
        rw [er] at q3
        obtain ⟨w, e3, rw'⟩ := (h4.get j).1 _ er
        exact ⟨some w, .inl ⟨_, j, .inl h3, kyOf_rb r2 ek, e3.symm⟩, post _ _ ⟨.va _, ρ3, M3, S4, q3, st1.trans e4, sim4, rw'⟩⟩
      | none =>
        rw [er] at q3
        exact ⟨none, .inl ⟨_, j, .inl h3, kyOf_rb r2 ek, ((h4.get j).2 er).symm⟩, post _ _ ⟨.va _, ρ3, M3, S4, q3, st1.trans e4, sim4, rp⟩⟩
    · exact q3.elim⟩
theorem qs_mput (hu : X.A.units + 1 < cLine) (hv : PE X value (liE z qv)) (ha : PE X a (liB z qa)) (hb : PE X b (liB z qb)) (hs : swapsWith value (some (.Subscript a b pos')) pos.line X.env = pure false := by rfl) :
    PS X (.Assign [.Subscript a b pos'] value pos) (liS z (sMPut qv qa qb)) :=
  ps_w (ps_dput hu ha hb hv hs) fun D σ H ⟨S, M, ρ, D0, sim, h, nx, _⟩ => ⟨S, M, ρ, _, sim, h, fun v H1 ⟨r, ρ1, M1, S1, q1, st1, sim1, res1⟩ => by
    obtain ⟨S2, sim2, st2, rp⟩ := sim1.freeze res1
    refine ⟨S2, M1, ρ1, _, sim2, q1, fun x H2 ⟨d, ρ2, M2, S3, q2, st3, sim3, rb⟩ => ⟨S3, M2, ρ2, _, sim3, q2, fun y H3 ⟨k, ρ3, M3, S4, q3, st4, sim4, rk⟩ => ?_⟩⟩
    dsimp only at q3
    cases d with
    | ref p =>
      cases ek : kyOf k with
      | none => rw [ek] at q3; exact q3.elim
      | some j =>
        rw [ek] at q3
        dsimp only at q3
        split at q3
        · rename_i l em
          obtain ⟨_, kvs, h1, h2⟩ := sim4.mu _ (lookup_mem em)
          have ex : x = .ref p := by
            rcases rb with w | ⟨_, _, _, _, w, _⟩
            · cases w; rfl
            · cases w
          refine ⟨p, _, ex, .inl ⟨kvs, j, h1, kyOf_rb rk ek, by rw [h2.length, sizeLine_eq]; exact q3.1, rfl⟩, nx _ _ S4 σ _ q3.2 (((st1.trans st2).trans st3).trans st4).same ?_⟩
          exact sim4.mset (lookup_mem em) ⟨_, upd_same, h2.put (Rp.ext (st3.trans st4).same _ _ rp)⟩
        · exact q3.elim
    | _ => exact q3.elim⟩
end
/-! #### keywords -/
section
variable {X : Cx} {z : Z} {e : Expr} {nm : Option Str} {kpos : Pos} {kws : List Keyword} {ea : QE} {qr : QA}
theorem kbn_of {K : Fg} {fd : FuncData} {ps : List Str} {n : Nat} (h : Binds K fd ps []) (hl : n = ps.length) : KBn K fd ps n [] (fun us ws => us ++ ws) (fun vs zs => vs ++ zs) :=
  ⟨fun s us ws k l1 l2 => by
    have e : ws = [] := List.eq_nil_of_length_eq_zero l2
    subst e
    exact h s us k (by rw [List.append_nil]; omega), fun r1 r2 => r1.append r2⟩
end
end PL
namespace PL
open PySem PySem.Spec PyProof.Rows L2
/-! ### dicts with tuple keys that change -/
section
variable {X : Cx} {pins : List (Addr × Obj)} {σ : St} {H : Hp} {s : Shared} {a b : Addr} {d : V} {u r : Value} {k : List Key} {kvs : List (List Key × V)} {A : Around} {E : Value → Shared → Prop}
theorem keyT_of (I : Inv X pins σ H s) (h : SqT X.K H b (k.map kV)) : (tupleKind (mixKind X.prog X.w)).is s.heap k b := by
  obtain ⟨its, r, ⟨o, h1, h2, n, h3⟩, _⟩ := I.tuple h
  exact ⟨o, its.toArray, n, h1, h2, h3, by simpa using items_are r⟩
theorem t_get1 {Q : Value → Shared → Prop} (hu : A.units + 1 < cLine) (I : Inv X pins σ H s) (e : H a = some (.dT kvs)) (eb : SqT X.K H b (k.map kV)) (h : ∀ w' s', Inv X pins σ H s' → RelV ((valV kvs k).getD .non) w' → Q w' s') :
    wpAny (model X.prog X.w) A (call (.builtin "dict.get") [.ref a, .ref b]) Q E s := by
  obtain ⟨z, hd, xs, rel, dd⟩ := dt_of I.hok e
  exact call_meetsIn PySem.F.slot_dict_get dd.typeIs PySem.F.entry_dict_get (PySem.F.args_dict_get_2 _ _) (meetsH_dict_get (tupleKind (mixKind X.prog X.w)) a b hd) ⟨tupleKind_room_in1 hu, k, xs, keyT_of I eb, dd, h _ _ (I.tok _) ((rel.val k).getD rfl)⟩
theorem t_get2 {Q : Value → Shared → Prop} (hu : A.units + 1 < cLine) (I : Inv X pins σ H s) (e : H a = some (.dT kvs)) (eb : SqT X.K H b (k.map kV)) (rd : RelV d r) (h : ∀ w' s', Inv X pins σ H s' → RelV ((valV kvs k).getD d) w' → Q w' s') :
    wpAny (model X.prog X.w) A (call (.builtin "dict.get") [.ref a, .ref b, r]) Q E s := by
  obtain ⟨z, hd, xs, rel, dd⟩ := dt_of I.hok e
  exact call_meetsIn PySem.F.slot_dict_get dd.typeIs PySem.F.entry_dict_get (PySem.F.args_dict_get_3 _ _ _) (meetsH_dict_get_default (tupleKind (mixKind X.prog X.w)) a b hd r) ⟨tupleKind_room_in1 hu, k, xs, keyT_of I eb, dd, h _ _ (I.tok _) ((rel.val k).getD rd)⟩
theorem t_pop2 {Q : VK} (hu : A.units + 1 < cLine) (hx : A = X.A) (I : Inv X pins σ H s) (e : H a = some (.dT kvs)) (eb : SqT X.K H b (k.map kV)) (rd : RelV d r) (q1 : ∀ v, valV kvs k = some v → Q v (upd H a (.dT (dropK kvs k)))) (q2 : valV kvs k = none → Q d H) :
    wpAny (model X.prog X.w) A (call (.builtin "dict.pop") [.ref a, .ref b, r]) (EP X pins σ Q) E s := by
  obtain ⟨z, hd, xs', rel, dd⟩ := dt_of I.hok e
  have hz : xs'.length ≤ sizeLine := by rw [← Paired.length rel]; exact z
  refine call_meetsIn PySem.F.slot_dict_pop dd.typeIs PySem.F.entry_dict_pop (PySem.F.args_dict_pop_3 _ _ _) (DT.meetsPop (knd := tupleKind (mixKind X.prog X.w)) (k := k) r hd)
    ⟨xs', tupleKind_room_in1 hu, keyT_of I eb, dd, hz, fun hn tk => ?_, fun p hp h' tk dd' hs => ?_⟩
  · have r' := rel.val k
    rw [hn] at r'
    have e : valV kvs k = none := by
      cases ev : valV kvs k with
      | none => rfl
      | some v0 => rw [ev] at r'; exact (show False from r').elim
    exact ⟨d, H, I.tok tk, rd, q2 e⟩
  · have r' := rel.val k
    rw [hp] at r'
    obtain ⟨v0, ev, rv⟩ : ∃ v0, valV kvs k = some v0 ∧ RelV v0 p.2 := by
      cases ev : valV kvs k with
      | none => rw [ev] at r'; exact (show False from r').elim
      | some v0 => rw [ev] at r'; exact ⟨v0, rfl, r'⟩
    obtain ⟨o, es, ep, hq, h2, h3, h4, _, h5⟩ := dd'
    have I2 : Inv X pins σ (upd H a (.dT (dropK kvs k))) { s with heap := h', toks := tk } :=
      d_write I (by rw [e]; exact True.intro) hs ⟨o, hq⟩ ⟨Nat.le_trans (dropK_le kvs k) z, hd, _, (L2.DX.KT_drop k rel).keeps (fun c ys ec => (by rw [upd_ne (ne_of ec e (fun z => nomatch z))]; exact ec)), o, es, ep, hq, h2, h3, h4, h5⟩
    exact ⟨v0, _, I2, rv, q1 v0 ev⟩
end
/-- what stands at the key y in the dict x -/
def TAt (K : Fg) (H : Hp) (x y : V) (a : Addr) (kvs : List (List Key × V)) (k : List Key) : Prop := ∃ b, (x = .ref a ∧ y = .ref b) ∧ H a = some (.dT kvs) ∧ SqT K H b (k.map kV)
def tTGet1 (K : Fg) (td ty : TE) : TE := fun σ H Q => td σ H fun x H1 => ∃ a0, x = .ref a0 ∧ IsD H1 a0 ∧ ty σ H1 fun y H2 => ∃ a kvs k, TAt K H2 x y a kvs k ∧ Q ((valV kvs k).getD .non) H2
def tTGet2 (K : Fg) (td ty tx : TE) : TE := fun σ H Q => td σ H fun x H1 => ∃ a0, x = .ref a0 ∧ IsD H1 a0 ∧ ty σ H1 fun y H2 => tx σ H2 fun z H3 => ∃ a kvs k, TAt K H3 x y a kvs k ∧ Q ((valV kvs k).getD z) H3
def tTPop2 (K : Fg) (td ty tx : TE) : TE := fun σ H Q => td σ H fun x H1 => ∃ a0, x = .ref a0 ∧ IsD H1 a0 ∧ ty σ H1 fun y H2 => tx σ H2 fun z H3 => ∃ a kvs k, TAt K H3 x y a kvs k ∧ (∀ v, valV kvs k = some v → Q v (upd H3 a (.dT (dropK kvs k)))) ∧ (valV kvs k = none → Q z H3)
section
variable {X : Cx} {o i e f : Expr} {pos apos cpos : Pos} {td ty tx : TE}
theorem pe_tget1 (hu : X.A.units + 1 < cLine) (ho : PE X o td) (he : PE X e ty) (m : M1 X o "get" apos e cpos) : PE X (.Call (.Attribute o "get" apos) [e] [] cpos) (tTGet1 X.K td ty) := by
  refine ⟨fun pins s σ H Q I h => ?_⟩
  refine wpAny_Call_method m.base m.few m.line PySem.F.plainAttrs_dict PySem.F.slot_dict_get PySem.F.type_dict_get (thn (ho.run pins s σ H _ I h) fun u s1 ⟨x, H1, I1, rx, a0, ex, d, q1⟩ => ?_)
  subst ex
  obtain rfl : u = Value.ref a0 := rx
  obtain ⟨t1, t2, _⟩ := isD_at I1 d
  refine ⟨t1, t2, ?_⟩
  rw [m.trees]
  refine Calls.callWith_builtin rfl (Calls.evalArgs_plain (Calls.spliced_cons (thn (he.run pins s1 σ H1 _ I1 q1) fun iv s2 ⟨y, H2, I2, ry, a, kvs, k, ⟨b, ⟨ex, ey⟩, g, g2⟩, q2⟩ => Calls.spliced_nil ?_)))
  cases ex
  subst ey
  obtain rfl : iv = Value.ref b := ry
  exact t_get1 hu I2 g g2 fun w' s3 I3 rw' => ⟨_, H2, I3, rw', q2⟩
theorem pe_tget2 (hu : X.A.units + 1 < cLine) (ho : PE X o td) (he : PE X e ty) (hf : PE X f tx) (m : M2 X o "get" apos e f cpos) : PE X (.Call (.Attribute o "get" apos) [e, f] [] cpos) (tTGet2 X.K td ty tx) := by
  refine ⟨fun pins s σ H Q I h => ?_⟩
  refine wpAny_Call_method m.base m.few m.line PySem.F.plainAttrs_dict PySem.F.slot_dict_get PySem.F.type_dict_get (thn (ho.run pins s σ H _ I h) fun u s1 ⟨x, H1, I1, rx, a0, ex, d, q1⟩ => ?_)
  subst ex
  obtain rfl : u = Value.ref a0 := rx
  obtain ⟨t1, t2, _⟩ := isD_at I1 d
  refine ⟨t1, t2, ?_⟩
  rw [m.trees]
  refine Calls.callWith_builtin rfl (Calls.evalArgs_plain (Calls.spliced_cons (thn (he.run pins s1 σ H1 _ I1 q1) fun iv s2 ⟨y, H2, I2, ry, q2⟩ =>
    Calls.spliced_cons (thn (hf.run pins s2 σ H2 _ I2 q2) fun fv s3 ⟨z, H3, I3, rz, a, kvs, k, ⟨b, ⟨ex, ey⟩, g, g2⟩, q3⟩ => Calls.spliced_nil ?_))))
  cases ex
  subst ey
  obtain rfl : iv = Value.ref b := ry
  exact t_get2 hu I3 g g2 rz fun w' s4 I4 rw' => ⟨_, H3, I4, rw', q3⟩
theorem pe_tpop2 (hu : X.A.units + 1 < cLine) (ho : PE X o td) (he : PE X e ty) (hf : PE X f tx) (m : M2 X o "pop" apos e f cpos) : PE X (.Call (.Attribute o "pop" apos) [e, f] [] cpos) (tTPop2 X.K td ty tx) := by
  refine ⟨fun pins s σ H Q I h => ?_⟩
  refine wpAny_Call_method m.base m.few m.line PySem.F.plainAttrs_dict PySem.F.slot_dict_pop PySem.F.type_dict_pop (thn (ho.run pins s σ H _ I h) fun u s1 ⟨x, H1, I1, rx, a0, ex, d, q1⟩ => ?_)
  subst ex
  obtain rfl : u = Value.ref a0 := rx
  obtain ⟨t1, t2, _⟩ := isD_at I1 d
  refine ⟨t1, t2, ?_⟩
  rw [m.trees]
  refine Calls.callWith_builtin rfl (Calls.evalArgs_plain (Calls.spliced_cons (thn (he.run pins s1 σ H1 _ I1 q1) fun iv s2 ⟨y, H2, I2, ry, q2⟩ =>
    Calls.spliced_cons (thn (hf.run pins s2 σ H2 _ I2 q2) fun fv s3 ⟨z, H3, I3, rz, a, kvs, k, ⟨b, ⟨ex, ey⟩, g, g2⟩, q3, q4⟩ => Calls.spliced_nil ?_))))
  cases ex
  subst ey
  obtain rfl : iv = Value.ref b := ry
  exact t_pop2 hu rfl I3 g g2 rz q3 q4
end
/-! #### over data -/
def kyL : List D → Option (List Key)
  | [] => some []
  | d :: ds => match kyOf d, kyL ds with
    | some k, some ks => some (k :: ks)
    | _, _ => none
def kysOf : D → Option (List Key)
  | .tup ds => kyL ds
  | _ => none
def ditOf (M : Mu) (d : D) : Option (List (List Key × D)) := match d with
  | .ref a => (match M.lookup a with
    | some (.dit l) => some l
    | _ => none)
  | _ => none
theorem kyL_rp {K : Fg} {S : Hp} : ∀ {ds : List D} {vs : List V} {ks : List Key}, RpA K S vs ds → kyL ds = some ks → vs = ks.map kV
  | [], _, _, h, e => by cases h; cases e; rfl
  | d :: ds, _, _, h, e => by
    cases h with
    | cons a b =>
      unfold kyL at e
      split at e
      · rename_i k ks e1 e2
        cases e
        rw [List.map_cons, kyL_rp b e2]
        congr 1
        exact kyOf_rb (M := []) (H := S) (.inl a) e1
      · cases e
theorem kysOf_sq {K : Fg} {S : Hp} {M : Mu} {H : Hp} {v : V} {d : D} {ks : List Key} (rb : Rb K S M H v d) (e : kysOf d = some ks) : ∃ b, v = .ref b ∧ SqT K S b (ks.map kV) := by
  unfold kysOf at e
  split at e
  · rcases rb with h | ⟨_, _, _, _, w, _⟩
    · cases h with
      | tup a b => rw [← kyL_rp b e]; exact ⟨_, rfl, a⟩
    · cases w
  · cases e
theorem ditOf_rb {z : Z} {S : Hp} {M : Mu} {ρ : Ev} {σ : St} {H : Hp} {v : V} {d : D} {l : List (List Key × D)} (sim : Sim z S M ρ σ H) (rb : Rb z.K S M H v d) (e : ditOf M d = some l) : ∃ p kvs, v = .ref p ∧ H p = some (.dT kvs) ∧ KP z.K S kvs l := by
  unfold ditOf at e
  split at e
  · split at e
    · rename_i p _ l' em
      cases e
      obtain ⟨_, kvs, h1, h2⟩ := sim.mu _ (lookup_mem em)
      rcases rb with w | ⟨_, _, _, _, w, _⟩
      · cases w
        exact ⟨_, kvs, rfl, h1, h2⟩
      · cases w
    · cases e
  · cases e
/-- {}, for tuple keys -/
def eTNew : QE := fun ρ M Q => ∀ a : Addr, (∀ q ∈ M, q.1 ≠ a) → Q (.va (.ref a)) ρ ((a, .dit []) :: M)
def eTGet (qa qb : QB) : QE := fun ρ M Q => qa ρ M fun d ρ1 M1 => qb ρ1 M1 fun k ρ2 M2 => match ditOf M2 d, kysOf k with
  | some l, some j => (match gK l j with | some r => Q (.va r) ρ2 M2 | none => False)
  | _, _ => False
def eTGet1 (qa qb : QB) : QE := fun ρ M Q => qa ρ M fun d ρ1 M1 => (ditOf M1 d).isSome = true ∧ qb ρ1 M1 fun k ρ2 M2 => match ditOf M2 d, kysOf k with
  | some l, some j => Q (.va ((gK l j).getD .non)) ρ2 M2
  | _, _ => False
def eTGet2 (qa qb : QB) (qc : QE) : QE := fun ρ M Q => qa ρ M fun d ρ1 M1 => (ditOf M1 d).isSome = true ∧ qb ρ1 M1 fun k ρ2 M2 => qc ρ2 M2 fun r ρ3 M3 => match ditOf M3 d, kysOf k with
  | some l, some j => Q (.va ((gK l j).getD r.val)) ρ3 M3
  | _, _ => False
def tTIn' (neg : Bool) (qb qa : QB) : QT := fun ρ M Q => qb ρ M fun k ρ1 M1 => qa ρ1 M1 fun d ρ2 M2 => match ditOf M2 d, kysOf k with
  | some l, some j => Q (if neg then !(gK l j).isSome else (gK l j).isSome) ρ2 M2
  | _, _ => False
/-- d.pop(k, c) -/
def dK {κ : Type} [DecidableEq κ] (l : List (κ × D)) (k : κ) : List (κ × D) := l.filter fun p => decide (p.1 ≠ k)
def eTPop2 (qa qb : QB) (qc : QE) : QE := fun ρ M Q => qa ρ M fun d ρ1 M1 => (ditOf M1 d).isSome = true ∧ qb ρ1 M1 fun k ρ2 M2 => qc ρ2 M2 fun r ρ3 M3 => match d, kysOf k with
  | .ref a, some j => (match M3.lookup a with
    | some (.dit l) => (match gK l j with | some x => Q (.va x) ρ3 (mput M3 a (.dit (dK l j))) | none => Q (.va r.val) ρ3 M3)
    | _ => False)
  | _, _ => False
/-- d[(k, ..)] = e -/
def sTPut (qv : QE) (qa : QB) (qk : QA) : QS := fun D' ρ M => qv ρ M fun r ρ1 M1 => qa ρ1 M1 fun d ρ2 M2 => qk ρ2 M2 fun ks ρ3 M3 => ks.length < 16777216 ∧ match d, kyL ks with
  | .ref a, some j => (match M3.lookup a with
    | some (.dit l) => l.length < 16777216 ∧ D'.nx ρ3 (mput M3 a (.dit (pK l j r.val)))
    | _ => False)
  | _, _ => False
theorem KP.drop {κ : Type} [DecidableEq κ] {K : Fg} {S : Hp} {kvs : List (κ × V)} {kds : List (κ × D)} (h : KP K S kvs kds) (k : κ) : KP K S (dropK kvs k) (dK kds k) := by
  unfold dropK dK
  induction h with
  | nil => exact .nil
  | @cons k' v d kvs kds a _ ih =>
    rw [List.filter_cons, List.filter_cons]
    by_cases c : k' = k
    · rw [if_neg (by simp [c]), if_neg (by simp [c])]; exact ih
    · rw [if_pos (by simp [c]), if_pos (by simp [c])]; exact .cons a ih
section
variable {X : Cx} {z : Z} {a b c value : Expr} {es : List Expr} {pos pos' kpos : Pos} {qa qb : QB} {qv qc : QE} {qk : QA} {kk : Nat}
theorem qe_tnew : PE X (.Dict [] [] pos) (liE z eTNew) :=
  pe_w pe_dnewT fun σ H Q ⟨S, M, ρ, Q0, sim, h, post⟩ p hp => by
    have hm : ∀ q ∈ M, q.1 ≠ p := fun q hq e => by
      obtain ⟨u, hu⟩ := (sim.mu q hq).2.at
      rw [e, hp] at hu
      cases hu
    obtain ⟨sim2, st2⟩ := sim.madd (mo := .dit []) (ho := .dT []) hp ⟨[], upd_same, .nil⟩
    exact post _ _ ⟨.va (.ref p), ρ, _, S, h p hm, st2, sim2, .ref p⟩
theorem qe_tget1 (hu : X.A.units + 1 < cLine) {apos cpos : Pos} (ha : PE X a (liB z qa)) (hb : PE X b (liB z qb)) (m : M1 X a "get" apos b cpos) (hK : X.K = z.K := by first | assumption | rfl) : PE X (.Call (.Attribute a "get" apos) [b] [] cpos) (liE z (eTGet1 qa qb)) :=
  pe_w (pe_tget1 hu ha hb m) fun σ H Q ⟨S, M, ρ, Q0, sim, h, post⟩ => ⟨S, M, ρ, _, sim, h, fun v H1 ⟨d, ρ1, M1, S1, ⟨q0, q1⟩, st1, sim1, r1⟩ => by
    obtain ⟨l0, el0⟩ := Option.isSome_iff_exists.mp q0
    obtain ⟨p, kvs0, rfl, h1, _⟩ := ditOf_rb sim1 r1 el0
    refine ⟨p, rfl, .inr ⟨_, .inl h1⟩, S1, M1, ρ1, _, sim1, q1, fun y H2 ⟨k, ρ2, M2, S2, q2, st2, sim2, r2⟩ => ?_⟩
    dsimp only at q2
    split at q2
    · rename_i l j el ek
      obtain ⟨p', kvs, e1, h3, h4⟩ := ditOf_rb sim2 (r1.step st2) el
      obtain ⟨b', rfl, hb'⟩ := kysOf_sq r2 ek
      refine ⟨p', kvs, j, ⟨b', ⟨e1, rfl⟩, h3, by rw [hK]; exact same_seqT sim2.sub hb'⟩, ?_⟩
      cases er : gK l j with
      | some r =>
        rw [er] at q2
        obtain ⟨w, e3, rw'⟩ := (h4.get j).1 _ er
        rw [e3]
        exact post _ _ ⟨.va _, ρ2, M2, S2, q2, st1.trans st2, sim2, rw'⟩
      | none =>
        rw [er] at q2
        rw [(h4.get j).2 er]
        exact post _ _ ⟨.va _, ρ2, M2, S2, q2, st1.trans st2, sim2, .non⟩
    · exact q2.elim⟩
theorem qe_tget2 (hu : X.A.units + 1 < cLine) {apos cpos : Pos} (ha : PE X a (liB z qa)) (hb : PE X b (liB z qb)) (hc : PE X c (liE z qc)) (m : M2 X a "get" apos b c cpos) (hK : X.K = z.K := by first | assumption | rfl) : PE X (.Call (.Attribute a "get" apos) [b, c] [] cpos) (liE z (eTGet2 qa qb qc)) :=
  pe_w (pe_tget2 hu ha hb hc m) fun σ H Q ⟨S, M, ρ, Q0, sim, h, post⟩ => ⟨S, M, ρ, _, sim, h, fun v H1 ⟨d, ρ1, M1, S1, ⟨q0, q1⟩, st1, sim1, r1⟩ => by
    obtain ⟨l0, el0⟩ := Option.isSome_iff_exists.mp q0
    obtain ⟨p, kvs0, rfl, h1, _⟩ := ditOf_rb sim1 r1 el0
    refine ⟨p, rfl, .inr ⟨_, .inl h1⟩, S1, M1, ρ1, _, sim1, q1, fun y H2 ⟨k, ρ2, M2, S2, q2, st2, sim2, r2⟩ => ⟨S2, M2, ρ2, _, sim2, q2, fun u H3 ⟨r, ρ3, M3, S3, q3, st3, sim3, r3⟩ => ?_⟩⟩
    obtain ⟨S4, sim4, st4, rp⟩ := sim3.freeze r3
    have e4 := (st2.trans st3).trans st4
    dsimp only at q3
    split at q3
    · rename_i l j el ek
      obtain ⟨p', kvs, e1, h3, h4⟩ := ditOf_rb sim4 (r1.step e4) el
      obtain ⟨b', rfl, hb'⟩ := kysOf_sq (r2.step (st3.trans st4)) ek
      refine ⟨p', kvs, j, ⟨b', ⟨e1, rfl⟩, h3, by rw [hK]; exact same_seqT sim4.sub hb'⟩, ?_⟩
      cases er : gK l j with
      | some r' =>
        rw [er] at q3
        obtain ⟨w, e3, rw'⟩ := (h4.get j).1 _ er
        rw [e3]
        exact post _ _ ⟨.va _, ρ3, M3, S4, q3, st1.trans e4, sim4, rw'⟩
      | none =>
        rw [er] at q3
        rw [(h4.get j).2 er]
        exact post _ _ ⟨.va _, ρ3, M3, S4, q3, st1.trans e4, sim4, rp⟩
    · exact q3.elim⟩
theorem qe_tpop2 (hu : X.A.units + 1 < cLine) {apos cpos : Pos} (ha : PE X a (liB z qa)) (hb : PE X b (liB z qb)) (hc : PE X c (liE z qc)) (m : M2 X a "pop" apos b c cpos) (hK : X.K = z.K := by first | assumption | rfl) : PE X (.Call (.Attribute a "pop" apos) [b, c] [] cpos) (liE z (eTPop2 qa qb qc)) :=
  pe_w (pe_tpop2 hu ha hb hc m) fun σ H Q ⟨S, M, ρ, Q0, sim, h, post⟩ => ⟨S, M, ρ, _, sim, h, fun v H1 ⟨d, ρ1, M1, S1, ⟨q0, q1⟩, st1, sim1, r1⟩ => by
    obtain ⟨l0, el0⟩ := Option.isSome_iff_exists.mp q0
    obtain ⟨p, kvs0, rfl, h1, _⟩ := ditOf_rb sim1 r1 el0
    refine ⟨p, rfl, .inr ⟨_, .inl h1⟩, S1, M1, ρ1, _, sim1, q1, fun y H2 ⟨k, ρ2, M2, S2, q2, st2, sim2, r2⟩ => ⟨S2, M2, ρ2, _, sim2, q2, fun u H3 ⟨r, ρ3, M3, S3, q3, st3, sim3, r3⟩ => ?_⟩⟩
    obtain ⟨S4, sim4, st4, rp⟩ := sim3.freeze r3
    have e4 := (st2.trans st3).trans st4
    dsimp only at q3
    split at q3
    · rename_i p' j ek _ _
      split at q3
      · rename_i l em
        obtain ⟨_, kvs, h3, h4⟩ := sim4.mu _ (lookup_mem em)
        have ep : V.ref p = .ref p' := by
          rcases r1 with w | ⟨_, _, _, _, w, _⟩
          · cases w; rfl
          · cases w
        cases ep
        obtain ⟨b', rfl, hb'⟩ := kysOf_sq (r2.step (st3.trans st4)) ek
        refine ⟨_, kvs, j, ⟨b', ⟨rfl, rfl⟩, h3, by rw [hK]; exact same_seqT sim4.sub hb'⟩, fun w ew => ?_, fun ew => ?_⟩
        · cases er : gK l j with
          | some r' =>
            rw [er] at q3
            obtain ⟨w', e3, rw'⟩ := (h4.get j).1 _ er
            rw [e3] at ew
            cases ew
            have hs := sim4.mset (lookup_mem em) (o' := .dit (dK l j)) (ho := .dT (dropK kvs j)) ⟨_, upd_same, h4.drop j⟩
            refine post _ _ ⟨.va _, ρ3, _, S4, q3, (st1.trans e4).trans ?_, hs, rw'⟩
            exact ⟨.refl _, fun b o hb hn => by rw [upd_ne (fun e => hn _ (lookup_mem em) e.symm)]; exact hb, fun q hq => by
              obtain ⟨q', h1', rfl⟩ := List.mem_map.mp hq
              refine .inl ⟨q', h1', ?_⟩
              split
              · rename_i e; exact e
              · rfl, fun b hb => by
              by_cases e : b = p
              · subst e; rw [upd_same]; simp
              · rw [upd_ne e]; exact hb⟩
          | none =>
            rw [(h4.get j).2 er] at ew
            cases ew
        · cases er : gK l j with
          | some r' =>
            obtain ⟨w', e3, rw'⟩ := (h4.get j).1 _ er
            rw [e3] at ew
            cases ew
          | none =>
            rw [er] at q3
            exact post _ _ ⟨.va _, ρ3, M3, S4, q3, st1.trans e4, sim4, rp⟩
      · exact q3.elim
    · exact q3.elim⟩
theorem KP.some {κ : Type} [DecidableEq κ] {K : Fg} {S : Hp} {kvs : List (κ × V)} {kds : List (κ × D)} (h : KP K S kvs kds) {k : κ} : (valV kvs k).isSome = (gK kds k).isSome := by
  cases e : gK kds k with
  | none => rw [(h.get k).2 e]; rfl
  | some d => obtain ⟨v, e2, _⟩ := (h.get k).1 d e; rw [e2]; rfl
theorem qs_tput (hu : X.A.units + 1 < cLine) (hv : PE X value (liE z qv)) (ha : PE X a (liB z qa)) (hk : PA X es (liA z qk)) (hs : swapsWith value (some (.Subscript a (.Tuple es kk kpos) pos')) pos.line X.env = pure false := by rfl) :
    PS X (.Assign [.Subscript a (.Tuple es kk kpos) pos'] value pos) (liS z (sTPut qv qa qk)) :=
  ps_w (ps_dput hu ha (pe_tup hk) hv hs) fun D σ H ⟨S, M, ρ, D0, sim, h, nx, _⟩ => ⟨S, M, ρ, _, sim, h, fun v H1 ⟨r, ρ1, M1, S1, q1, st1, sim1, res1⟩ => by
    obtain ⟨S2, sim2, st2, rp⟩ := sim1.freeze res1
    refine ⟨S2, M1, ρ1, _, sim2, q1, fun x H2 ⟨d, ρ2, M2, S3, q2, st3, sim3, rb⟩ => ⟨S3, M2, ρ2, _, sim3, q2, fun vs H3 ⟨ds, ρ3, M3, S4, q3, st4, sim4, rk⟩ => ?_⟩⟩
    obtain ⟨q9, q3⟩ := q3
    split at q3
    · rename_i p j ek _
      split at q3
      · rename_i l em
        obtain ⟨q0, q3⟩ := q3
        have ev := kyL_rp rk ek
        refine ⟨?_, fun b hb => ?_⟩
        · rw [rk.length]
          exact line_eq (Nat.le_of_lt q9)
        obtain ⟨_, kvs, h1, h2⟩ := sim4.mu _ (lookup_mem em)
        have ex : x = .ref p := by
          rcases rb with w | ⟨_, _, _, _, w, _⟩
          · cases w; rfl
          · cases w
        obtain ⟨sim5, st5⟩ := sim4.alloc (o := .tup vs) hb
        have hpb : p ≠ b := fun e => by rw [e, hb] at h1; cases h1
        refine ⟨p, _, ex, .inr ⟨kvs, j, b, by rw [upd_ne hpb]; exact h1, rfl, by rw [ev]; exact upd_same, by rw [h2.length, sizeLine_eq]; exact q0, rfl⟩, nx _ _ _ σ _ q3 ((((st1.trans st2).trans st3).trans st4).trans st5).same ?_⟩
        exact sim5.mset (lookup_mem em) ⟨_, upd_same, (h2.ext st5.same).put (Rp.ext ((st3.trans st4).trans st5).same _ _ rp)⟩
      · exact q3.elim
    · exact q3.elim⟩
end
end PL
namespace PL
open PySem PySem.Spec PyProof.Rows L2
/-! ### objects that stay known by their address -/
section
variable {X : Cx} {z : Z} {c : Str} {e : Expr} {es : List Expr} {qr : QA} {W : WP} {k n : Nat} {g : Addr} {fd : FuncData} {ps : List Str} {p : PSp} {pp pos : Pos}
/-- C(e, ..), the new object being known by its address from now on -/
def eMakeM (W : WP) (c : Str) (n : Nat) (p : PSp) (qr : QA) : QE := fun ρ M Q => qr ρ M fun ds ρ2 M2 => ds.length = n ∧ ∀ x : Addr, (∀ q ∈ M2, q.1 ≠ x) →
  p (.ref x :: ds) ((x, .ins c [] []) :: M2) (fun r M3 => r = .va .non ∧ Q (.va (.ref x)) ρ2 M3) (fun cl y M3 => W cl y ρ2 M3)
theorem make_liftM {σ : St} {H : Hp} {Q : VK} (hK : X.K = z.K) (h : liE z (eMakeM W c n p qr) σ H Q) : tMakeS (He.ga X.K c) n 0 (liPX X.K p) (WE (liX z W)) (liA z qr) tNil σ H Q := by
  obtain ⟨S, M, ρ, Q0, sim, h, post⟩ := h
  refine ⟨S, M, ρ, _, sim, h, fun vs H2 ⟨ds, ρ2, M2, S2, q2, st2, sim2, rp1⟩ => ?_⟩
  obtain ⟨l1, q2⟩ := q2
  have l1' := rp1.length
  refine ⟨⟨by omega, rfl⟩, fun x dx hx hdx hne => ?_⟩
  have hm : ∀ q ∈ M2, q.1 ≠ x := fun q hq e => by
    obtain ⟨u, hu⟩ := (sim2.mu q hq).2.at
    rw [e, hx] at hu
    cases hu
  obtain ⟨simA, stA⟩ := sim2.more (o := .own x) hdx
  have hx2 : upd H2 dx (.own x) x = none := by rw [upd_ne hne.symm]; exact hx
  obtain ⟨simB, stB⟩ := simA.madd (mo := .ins c [] []) (ho := .ins (He.ga z.K c) dx []) hx2 ⟨dx, [], upd_same, rfl, by simp, .nil⟩
  rw [hK, List.append_nil]
  refine ⟨S2, _, .ref x :: ds, _, _, simB.core0, .cons (.ref x) rp1, q2 x hm, fun v H3 r M3 S3 q3 cr res => ?_, fun cn y dd M3 S3 H3 q3 c3 ex => ?_⟩
  · obtain ⟨rfl, q3⟩ := q3
    have ev : v = .non := by
      have res : Rp _ _ v .non := res
      cases res
      rfl
    exact ⟨ev, post _ H3 ⟨_, ρ2, M3, S3, q3, ((st2.trans stA).trans stB).trans cr.step, simB.after cr, .ref x⟩⟩
  · exact ⟨S3, M3, ρ2, cn, y, rfl, simB.after c3, ex, q3⟩
/-- C() -/
theorem qe_makeM0 (tk : Takes X (liX z W)) (mk : Mk X.K (He.ga X.K c) g) (F : FnOk X.prog X.w X.K X.mg X.base (L2.CX X.prog X.w) k g fd ps (liPX X.K p)) (hr : Room (k + 1) X.A) (hg : Gl X c) (hm : X.mg c = some (.ref (He.ga X.K c)))
    (hb : KBn X.K fd ps (0 + 1) [] (fun us ws => us ++ ws) (fun vs zs => vs ++ zs)) (hK : X.K = z.K := by first | assumption | rfl) (hdb : (c == ("__debug__" : Str)) = false := by decide) :
    PE X (.Call (.Name c pp) [] [] pos) (liE z (eMakeM W c 0 p aNil)) := by
  have raw : PE X (.Call (.Name c pp) [] [] pos) (tMakeS (He.ga X.K c) 0 0 (liPX X.K p) (WE (liX z W)) tNil tNil) := by
    refine ⟨fun pins s σ H Q I h => wpAny_Call_Name_kw (ld_glob I hg hm ?_ hdb)⟩
    refine PySem.W.callWith_K0 I.kIn mk.kp ?_
    obtain ⟨⟨l1, l2⟩, q2⟩ := h
    exact run_makeS (us := []) (vs := []) (ws := []) (zs := []) mk F hr hb (passAt tk σ) (I.tok _) .nil .nil l1 rfl q2
  refine pe_w raw fun σ H Q h => ?_
  have h2 := make_liftM (X := X) (p := p) (qr := aNil) hK h
  obtain ⟨S, M, ρ, Q0, sim, h, post⟩ := h2
  exact post [] H ⟨[], ρ, M, S, h, .refl, sim, .nil⟩
end
/-! ### x.pop(e) -/
section
variable {X : Cx} {z : Z} {e : Expr} {qb : QB}
/-- x.append(y.pop(e)), two lists of one's own -/
def sAppPop (i j : Nat) (qa : QA) : QS := fun D' ρ M => match ρ[i]?, ρ[j]? with
  | some (.ow (.lst _)), some (.ow (.lst _)) => i ≠ j ∧ qa ρ M fun ds1 ρ2 M2 => (match ρ2[i]?, ρ2[j]?, ds1 with
    | some (.ow (.lst ds)), some (.ow (.lst us)), [.int k] => ((0 ≤ k ∧ k < us.length ∧ k < 1000000) ∧ ds.length < 16777216) ∧ (match us[k.toNat]? with
      | some x => D'.nx ((ρ2.set j (.ow (.lst (us.eraseIdx k.toNat)))).set i (.ow (.lst (ds ++ [x])))) M2
      | none => False)
    | _, _, _ => False)
  | _, _ => False
theorem RpA.erase {K : Fg} {S : Hp} : ∀ {ds : List D} {vs : List V} (j : Nat), RpA K S vs ds → RpA K S (vs.eraseIdx j) (ds.eraseIdx j)
  | [], _, _, h => by cases h; exact .nil
  | d :: ds, _, 0, h => by cases h with | cons a b => exact b
  | d :: ds, _, j + 1, h => by cases h with | cons a b => exact .cons a (b.erase j)
theorem qs_appPop {i j : Nat} {x y : Str} {qa : QE} {p1 p2 apos cpos apos2 cpos2 pos : Pos} (hN : X.N[i]? = some x) (hvis : Vis X.env.scope x) (hN2 : X.N[j]? = some y) (hvis2 : Vis X.env.scope y) (he : PE X e (liE z qa))
    (hd : (x == ("__debug__" : Str)) = false := by decide) (hcd : (x == ("__classdict__" : Str)) = false := by decide) (hd2 : (y == ("__debug__" : Str)) = false := by decide) (hcd2 : (y == ("__classdict__" : Str)) = false := by decide)
    (hbase : attributeBase (.Name y p1) "pop" X.env (eval (.Name y p1) X.env) = eval (.Name y p1) X.env := by rfl)
    (hfew : ((backTo cpos (starEach [e] X.env)).all (fun x => !x.1) && (backToKw cpos (keywordEach [] X.env)).all (fun x => x.1.isSome) && decide ([e].length + ([] : List Keyword).length + (if ([] : List Keyword).isEmpty then 0 else 1) < 30)) = true := by rfl)
    (hline : (apos.endLine == cpos.line) = true := by rfl) (hst : starEach [e] X.env = (false, eval e X.env) :: starEach [] X.env := by rfl) (hplain : (backTo cpos (starEach [] X.env)).any (·.1) = false := by rfl)
    (hbase2 : attributeBase (.Name x p2) "append" X.env (eval (.Name x p2) X.env) = eval (.Name x p2) X.env := by rfl)
    (hfew2 : ((backTo cpos2 (starEach [.Call (.Attribute (.Name y p1) "pop" apos) [e] [] cpos] X.env)).all (fun x => !x.1) && (backToKw cpos2 (keywordEach [] X.env)).all (fun x => x.1.isSome) && decide (([.Call (.Attribute (.Name y p1) "pop" apos) [e] [] cpos] : List Expr).length + ([] : List Keyword).length + (if ([] : List Keyword).isEmpty then 0 else 1) < 30)) = true := by rfl)
    (hline2 : (apos2.endLine == cpos2.line) = true := by rfl) (hst2 : starEach [.Call (.Attribute (.Name y p1) "pop" apos) [e] [] cpos] X.env = (false, eval (.Call (.Attribute (.Name y p1) "pop" apos) [e] [] cpos) X.env) :: starEach [] X.env := by rfl) (hplain2 : (backTo cpos2 (starEach [] X.env)).any (·.1) = false := by rfl)
    (hs : swapsWith (.Call (.Attribute (.Name x p2) "append" apos2) [.Call (.Attribute (.Name y p1) "pop" apos) [e] [] cpos] [] cpos2) none pos.line X.env = pure false := by rfl) :
    PS X (.Expr (.Call (.Attribute (.Name x p2) "append" apos2) [.Call (.Attribute (.Name y p1) "pop" apos) [e] [] cpos] [] cpos2) pos) (liS z (sAppPop i j (aCons qa aNil))) :=
  ps_w (ps_expr (pe_bm PySem.F.plainAttrs_list PySem.F.slot_list_append PySem.F.type_list_append mt_append (pe_var hN hvis hd hcd)
    (pa_cons (pe_bm PySem.F.plainAttrs_list PySem.F.slot_list_pop PySem.F.type_list_pop mt_popAt (pe_var hN2 hvis2 hd2 hcd2) (qa_cons he qa_nil hst) hbase hfew hline hst hplain) pa_nil hst2) hbase2 hfew2 hline2 hst2 hplain2) hs) fun D σ H ⟨S, M, ρ, D0, sim, h, nx, _⟩ => by
    unfold sAppPop at h
    split at h
    · rename_i ds0 us0 e0 f0
      obtain ⟨hij, h⟩ := h
      obtain ⟨a, h1, _, _, ⟨xs0, h4, _⟩, _⟩ := sim.ow i _ e0
      obtain ⟨b, k1, _, _, ⟨ys0, k4, _⟩, _⟩ := sim.ow j _ f0
      refine ⟨_, h1, .inl ⟨rfl, xs0, .of h4⟩, _, k1, .inl ⟨rfl, ys0, .of k4⟩, S, M, ρ, _, sim, h, fun vs H1 ⟨ds1, ρ1, M1, S1, q1, st1, sim1, rp⟩ => ?_⟩
      dsimp only at q1
      split at q1
      · rename_i ds us k e1 f1
        obtain ⟨⟨⟨g0, g1, g2⟩, g3⟩, q1⟩ := q1
        split at q1
        · rename_i x ex
          obtain ⟨a', w1, _, _, ⟨xs, w4, w5⟩, _⟩ := sim1.ow i _ e1
          rw [h1] at w1
          cases w1
          obtain ⟨b', u1, _, _, ⟨ys, u4, u5⟩, _⟩ := sim1.ow j _ f1
          rw [k1] at u1
          cases u1
          obtain ⟨v, hv, rv⟩ := u5.get ex
          have hl := u5.length
          have hab : a ≠ b := fun e => hij (sim1.sep i j _ _ a e1 f1 h1 (by rw [e]; exact k1))
          cases rp with
          | cons ra rr =>
            cases ra
            cases rr
            refine ⟨b, ys, k, k.toNat, v, rfl, rfl, u4, by omega, by omega, (ixN_seq (by unfold ixN; rw [if_pos g0, if_pos (by omega)])).1, hv, ?_⟩
            have s2 := sim1.owSet f1 k1 (u5.erase k.toNat)
            have e2 : (ρ1.set j (.ow (.lst (us.eraseIdx k.toNat))))[i]? = some (.ow (.lst ds)) := by rw [List.getElem?_set_ne (Ne.symm hij)]; exact e1
            have s3 := s2.owSet e2 h1 (w5.append (.one rv))
            refine ⟨a, xs, v, rfl, rfl, by rw [upd_ne hab]; exact w4, by rw [w5.length, sizeLine_eq]; exact g3, nx _ M1 S1 σ _ q1 st1.same s3⟩
        · exact q1.elim
      · exact q1.elim
    · exact h.elim
end
end PL
namespace PL
open PySem PySem.Spec PyProof.Rows L2
/-! ### a dict is locked while an expression walks through it -/
def kD : Key → D
  | .inl i => .int i
  | .inr s => .str s
theorem kD_rp {K : Fg} {S : Hp} : ∀ k : Key, Rp K S (kV k) (kD k)
  | .inl i => .int i
  | .inr s => .str s
theorem kD_rpA {K : Fg} {S : Hp} : ∀ ks : List Key, RpA K S (ks.map kV) (ks.map kD)
  | [] => .nil
  | k :: ks => .cons (kD_rp k) (kD_rpA ks)
theorem KP.keys {κ : Type} {K : Fg} {S : Hp} {kvs : List (κ × V)} {kds : List (κ × D)} (h : KP K S kvs kds) : kvs.map (·.1) = kds.map (·.1) := by
  induction h with
  | nil => rfl
  | cons _ _ ih => rw [List.map_cons, List.map_cons, ih]
section
variable {X : Cx} {z : Z} {S S' : Hp} {M M' : Mu} {ρ : Ev} {σ : St} {H H' : Hp}
theorem Step.mset {a : Addr} {o o' : MO} {ho : HO} (hm : (a, o) ∈ M) : Step S M H S (mput M a o') (upd H a ho) :=
  ⟨.refl _, fun b u hb hn => by rw [upd_ne (fun e => hn _ hm e.symm)]; exact hb, fun q hq => by
    obtain ⟨q', h1', rfl⟩ := List.mem_map.mp hq
    refine .inl ⟨q', h1', ?_⟩
    split
    · rename_i e; exact e
    · rfl, fun b hb => by
    by_cases e : b = a
    · subst e; rw [upd_same]; simp
    · rw [upd_ne e]; exact hb⟩
theorem ResE.mset {a : Addr} {o o' : MO} {ho : HO} {v : V} {r : Sl} (hm : (a, o) ∈ M) (h : ResE z S M ρ σ H v r) : ResE z S (mput M a o') ρ σ (upd H a ho) v r := by
  cases r with
  | un => exact h
  | va d => exact h
  | ow w =>
    obtain ⟨b, h1, h2, h3, h4, h5, h6⟩ := h
    refine ⟨b, h1, h2, h3, h4.ext (.refl _) (upd_ne fun e => h5 _ hm e.symm), fun p hp e => ?_, h6⟩
    rcases mem_mput hp with ⟨rfl, q, hq, e2⟩ | ⟨hp, _⟩
    · exact h5 q hq (e2.trans e)
    · exact h5 p hp e
theorem ResF.mset {a : Addr} {o o' : MO} {ho : HO} {v : V} {r : Sl} (hm : (a, o) ∈ M) (h : ResF z S M H v r) : ResF z S (mput M a o') (upd H a ho) v r := by
  cases r with
  | un => exact h
  | va d => exact h
  | ow w =>
    obtain ⟨b, h1, h2, h3, h4, h5⟩ := h
    refine ⟨b, h1, h2, h3, h4.ext (.refl _) (upd_ne fun e => h5 _ hm e.symm), fun p hp e => ?_⟩
    rcases mem_mput hp with ⟨rfl, q, hq, e2⟩ | ⟨hp, _⟩
    · exact h5 q hq (e2.trans e)
    · exact h5 p hp e
def eLk (q : QE) : QE := fun ρ M Q => ∃ (a : Addr) (l : List (List Key × D)), M.lookup a = some (.dit l) ∧ ∀ o kvs, q ρ (mput M a (.ditL o kvs l)) fun r ρ' M' => M'.lookup a = some (.ditL o kvs l) ∧ Q r ρ' (mput M' a (.dit l))
theorem qe_lk {e : Expr} {q : QE} (h : PE X e (liE z q)) : PE X e (liE z (eLk q)) :=
  pe_w (L2.pe_lock h) fun σ H Q ⟨S, M, ρ, Q0, sim, ⟨a, l, em, h⟩, post⟩ => by
    obtain ⟨_, kvs, h1, h2⟩ := sim.mu _ (lookup_mem em)
    refine ⟨a, .dT kvs, h1, trivial, fun od => ⟨S, mput M a (.ditL od kvs l), ρ, _, sim.mset (lookup_mem em) ⟨upd_same, h2⟩, h od kvs, fun v H' ⟨r, ρ', M', S', ⟨em', q⟩, st, sim', res⟩ => ?_⟩⟩
    obtain ⟨_, h3, h4⟩ := sim'.mu _ (lookup_mem em')
    exact ⟨h3, post v _ ⟨r, ρ', mput M' a (.dit l), S', q, ((Step.mset (lookup_mem em)).trans st).trans (Step.mset (lookup_mem em')), sim'.mset (lookup_mem em') ⟨kvs, upd_same, h4⟩, res.mset (lookup_mem em')⟩⟩
end
/-! ### [.. for a, b in d ..], d's keys being tuples -/
def liGT (z : Z) (n : Nat) (as : List Nat) (q : QGs) : TG := fun v σ H Q => ∃ S M ρ ds Q0 a xs, (v = .ref a ∧ SqT z.K H a xs ∧ xs.length = n) ∧ Sim z S M ρ σ H ∧ RpA z.K S xs ds ∧ q ds ρ Q0 ∧ ∀ ρ' σ', Q0 ρ' → Sim z S M ρ' σ' H → (∀ j, j ∉ as → σ'[j]? = σ[j]?) → Q σ' H
def anGT (K : Fg) (n : Nat) (as : List Nat) (q : QGs) : TG := fun v σ H Q => ∃ z : Z, K = z.K ∧ liGT z n as q v σ H Q
theorem an_gT {X : Cx} {e : Expr} {q : QGs} {n : Nat} {as : List Nat} {K : Fg} (h : ∀ z : Z, K = z.K → PG X e (liGT z n as q)) : PG X e (anGT K n as q) := ⟨fun pins s σ H v u Q I r ⟨z, e, w⟩ => (h z e).run pins s σ H v u Q I r w⟩
theorem qg_tupH {X : Cx} {z : Z} {es : List Expr} {gs : QGs} {as : List Nat} {pos : Pos} {k n : Nat} (hc : X.calm = true) (h : PGs X es (liGs z as gs)) (hK : X.K = z.K := by first | assumption | rfl) (hn : (assignEach es X.env).length = n := by rfl) (hst : (assignEach es X.env).findIdx? (·.1) = none := by rfl) :
    PG X (.Tuple es k pos) (liGT z n as gs) :=
  pg_w (pg_tup hc h hn hst) fun v σ H Q ⟨S, M, ρ, ds, Q0, a, xs, ⟨e, sq, hl⟩, sim, r, h, post⟩ => ⟨a, xs, e, by rw [hK]; exact sq, hl, S, M, ρ, _, Q0, sim, r, h, post⟩
def eLcT (qa : QB) (gs : QGs) (n : Nat) (qt : QT) (qe : QE) (vs : List Nat) : QE := fun ρ M Q => qa ρ M fun d ρ1 M1 => match d with
  | .ref a => (match M1.lookup a with
    | some (.ditL o kvs l) => notOw ρ1 vs = true ∧ ∃ I : Nat → List D → Mu → Prop, I 0 [] M1 ∧
        (∀ i k acc M, (l.map (·.1))[i]? = some k → I i acc M → (M.lookup a = some (.ditL o kvs l) ∧ k.length = n) ∧ gs (k.map kD) (wipeE ρ1 vs) fun ρ2 => wipeE ρ2 vs = wipeE ρ1 vs ∧ qt ρ2 M fun b ρ3 M3 => ρ3 = ρ2 ∧
          (if b = true then qe ρ3 M3 fun r ρ4 M4 => ρ4 = ρ3 ∧ acc.length < 16777216 ∧ I (i + 1) (acc ++ [r.val]) M4 else I (i + 1) acc M3)) ∧
        (∀ acc M, I l.length acc M → M.lookup a = some (.ditL o kvs l) ∧ Q (.ow (.lst acc)) ρ1 M)
    | _ => False)
  | _ => False
section
variable {X : Cx} {z : Z}
theorem lc_liftT {qa : QB} {gs : QGs} {n : Nat} {qt : QT} {qe : QE} {vs as : List Nat} (hvs : ∀ j ∈ as, j ∈ vs) {σ : St} {H : Hp} {Q : VK} (h : liE z (eLcT qa gs n qt qe vs) σ H Q) : tLc (iKeys (liB z qa)) (anGT z.K n as gs) (anT z.K qt) (anE z.K qe) vs σ H Q := by
  obtain ⟨S, M, ρ, Q0, sim, h, post⟩ := h
  refine ⟨S, M, ρ, _, sim, h, fun v H1 ⟨dd, ρ1, M1, S1, q1, st1, sim1, rb⟩ => ?_⟩
  dsimp only at q1
  split at q1
  rotate_left
  · exact q1.elim
  rename_i a
  split at q1
  rotate_left
  · exact q1.elim
  rename_i o kvs l em
  obtain ⟨hn, I, w0, turn, fin⟩ := q1
  have ev : v = .ref a := by
    rcases rb with w | ⟨_, _, _, _, w, _⟩
    · cases w; rfl
    · cases w
  obtain ⟨_, ea, kp⟩ := sim1.mu _ (lookup_mem em)
  have hkeys := kp.keys
  have hlen : kvs.length = l.length := kp.length
  refine ⟨a, o, ev, .inr ⟨kvs, ea, fun D hD => ?_⟩⟩
  obtain ⟨simD, stD, resD⟩ := sim1.fresh (ds := []) hD .nil
  have hD0 : H D = none := by
    cases q : H D with
    | none => rfl
    | some o => exact absurd hD (st1.dom D (by rw [q]; simp))
  refine ⟨fun i m H' => m = l.length - i ∧ i ≤ l.length ∧ ∃ S' M' acc, Step S M H S' M' H' ∧ Same S1 S' ∧ Sim z S' M' ρ1 σ H' ∧ ResE z S' M' ρ1 σ H' (.ref D) (.ow (.lst acc)) ∧ I i acc M',
    ⟨l.length, by simp, Nat.zero_le _, S1, M1, [], st1.trans stD, .refl _, simD, resD, w0⟩, ?_⟩
  rintro i m H2 ⟨rfl, hi, S2, M2, acc, st2, e2, sim2, res2, w2⟩
  by_cases hlt : i < l.length
  · have ed : (l.map (·.1))[i]? = some (l[i]).1 := by rw [List.getElem?_map, List.getElem?_eq_getElem hlt]; rfl
    obtain ⟨⟨em2, hkn⟩, w3⟩ := turn i _ acc M2 ed w2
    obtain ⟨_, ea2, _⟩ := sim2.mu _ (lookup_mem em2)
    refine .inr ⟨⟨ea2, by omega⟩, fun H' => i + 1 ≤ l.length ∧ ∃ S' M' acc, Step S M H S' M' H' ∧ Same S1 S' ∧ Sim z S' M' ρ1 σ H' ∧ ResE z S' M' ρ1 σ H' (.ref D) (.ow (.lst acc)) ∧ I (i + 1) acc M',
      fun H' h => ⟨l.length - (i + 1), by omega, rfl, h.1, h.2⟩, fun x H3 hy => ?_⟩
    obtain ⟨rfl, k', v', q', hk', rfl, hq'⟩ := hy
    have ek : k' = (l[i]).1 := by
      have h1 : (kvs.map (·.1))[i]? = some k' := by rw [List.getElem?_map, hk']; rfl
      rw [hkeys, ed] at h1
      exact (Option.some.inj h1).symm
    subst ek
    obtain ⟨D', eD, n1, n2, ⟨xs, n3, n4⟩, n5, n6⟩ := id res2
    cases eD
    have hid := sim2.hide res2
    refine ⟨{ z with R := fun b => z.R b ∨ b = D }, rfl, S2, M2, wipeE ρ1 vs, _, _, q', _, ⟨rfl, .inl (.inl hq'), by rw [List.length_map]; exact hkn⟩, hid.wiped vs, kD_rpA _, w3, fun ρ4 σ4 ⟨er, q4⟩ sim4 k4 => ?_⟩
    have es : wipe σ4 vs = wipe σ vs := by
      have hl : σ4.length = σ.length := by
        have z1 := sim4.len
        have z2 := congrArg List.length er
        rw [wipeE_length, wipeE_length] at z2
        rw [z1, z2]
        exact sim2.len.symm
      refine wipe_same hl fun j hj => ?_
      rw [k4 j fun hm => hj (hvs j hm), wipe_at hj]
    have back : ∀ {S6 : Hp} {M6 : Mu} {H6 : Hp}, Sim { z with R := fun b => z.R b ∨ b = D } S6 M6 ρ4 σ4 H6 → Step S2 M2 H3 S6 M6 H6 → Sim z S6 M6 ρ1 σ H6 ∧ Step S M H S6 M6 H6 ∧ Same S1 S6 ∧ ∃ xs, H6 D = some (.lst xs) ∧ RpA z.K S6 xs acc ∧ S6 D = none ∧ (∀ p ∈ M6, p.1 ≠ D) := by
      intro S6 M6 H6 s6 st6
      obtain ⟨r1, r2, r3⟩ := s6.rsv D (.inr rfl)
      have s6' := s6.show (fun b hb => .inl hb)
      exact ⟨sim2.unwiped hn st6 s6' er es, st2.trans st6, e2.trans st6.same, xs, st6.keep D _ n3 n5, RpA.ext st6.same _ _ n4, r1, r3⟩
    refine ⟨es, { z with R := fun b => z.R b ∨ b = D }, rfl, S2, M2, ρ4, _, sim4, q4, fun b H5 ⟨ρ5, M5, S5, ⟨er5, q5⟩, st5, sim5⟩ => ?_⟩
    subst er5
    cases b with
    | false =>
      obtain ⟨k1, k2, k3, xs', k5, k6, k7, k8⟩ := back sim5 st5
      exact iteF ⟨hlt, S5, M5, acc, k2, k3, k1, ⟨D, rfl, k7, n2, ⟨xs', k5, k6⟩, k8, n6⟩, (by simpa using q5)⟩
    | true =>
      have q5' := (show qe _ M5 _ by simpa using q5)
      refine iteT ⟨{ z with R := fun b => z.R b ∨ b = D }, rfl, S5, M5, _, _, sim5, q5', fun v H6 ⟨r, ρ6, M6, S6, ⟨er6, hl6, q6⟩, st6, sim6, res6⟩ => ?_⟩
      subst er6
      obtain ⟨S7, sim7, st7, rp7⟩ := sim6.freeze res6
      obtain ⟨k1, k2, k3, xs', k5, k6, k7, k8⟩ := back sim7 ((st5.trans st6).trans st7)
      refine ⟨xs', k5, by rw [k6.length, sizeLine_eq]; exact hl6, hlt, S7, M6, acc ++ [r.val], ?_, k3, ?_, ?_, q6⟩
      · refine ⟨k2.same, fun c u q n => ?_, k2.mnew, fun c q => ?_⟩
        · rw [upd_ne (fun w => by rw [w, hD0] at q; cases q)]
          exact k2.keep c u q n
        · by_cases w : c = D
          · subst w; rw [upd_same]; simp
          · rw [upd_ne w]; exact k2.dom c q
      · exact k1.poke k7 n2 k8 n6
      · exact ⟨D, rfl, k7, n2, ⟨_, upd_same, k6.append (.one rp7)⟩, k8, n6⟩
  · have e : i = l.length := by omega
    subst e
    obtain ⟨em2, w4⟩ := fin acc M2 w2
    obtain ⟨_, ea2, _⟩ := sim2.mu _ (lookup_mem em2)
    exact .inl ⟨⟨ea2, by omega⟩, post _ H2 ⟨_, ρ1, M2, S2, w4, st2, sim2, res2⟩⟩
theorem qe_lcT {elt tg iter : Expr} {ifs : List Expr} {scope : Scope} {own : List (Str × Nat)} {pos : Pos} {qa : QB} {gs : QGs} {n : Nat} {qt : QT} {qe : QE} {as : List Nat} (hc : X.calm = true) (hN : X.N.Nodup) (hi : PE X iter (liB z qa)) (ok : BlkOk X.N X.env.scope scope own)
    (hg : ∀ (s : Shared) (H : Hp) (C : Addr) (cl : List (Str × Addr)) (fp : List Addr) (z : Z), X.K = z.K → PG (X.blk s H scope (compEnvC scope cl C X.env) fp) tg (liGT z n as gs))
    (ht : ∀ (s : Shared) (H : Hp) (C : Addr) (cl : List (Str × Addr)) (fp : List Addr), PTs (X.blk s H scope (compEnvC scope cl C X.env) fp) ifs (anT X.K qt))
    (he : ∀ (s : Shared) (H : Hp) (C : Addr) (cl : List (Str × Addr)) (fp : List Addr) (z : Z), X.K = z.K → PE (X.blk s H scope (compEnvC scope cl C X.env) fp) elt (liE z qe)) (hvs : ∀ j ∈ as, j ∈ own.map (·.2) := by decide) (hK : X.K = z.K := by first | assumption | rfl)
    (hs : ∀ x, foldedSetIterable iter X.env x = pure x := by intro _; rfl) : PE X (.ListComp elt [⟨tg, iter, ifs, 0⟩] scope pos) (liE z (eLk (eLcT qa gs n qt qe (own.map (·.2))))) := by
  refine qe_lk ?_
  refine pe_w (pe_lc hc hN (pi_keys hi) ok (fun s H C cl fp => an_gT (K := X.K) (hg s H C cl fp)) ht (fun s H C cl fp => an_e (K := X.K) (he s H C cl fp)) hs) fun σ H Q h => ?_
  rw [hK]
  exact lc_liftT hvs h
end
end PL
namespace PL
open PySem PySem.Spec PyProof.Rows L2
/-! ### texts -/
abbrev sgD (c : Nat) : D := .str ⟨#[c]⟩
def chOf (x : Str) : Option Nat := match x.cps.toList with
  | [c] => some c
  | _ => none
theorem chOf_eq {x : Str} {c : Nat} (h : chOf x = some c) : x = ⟨#[c]⟩ := by
  unfold chOf at h
  split at h
  · rename_i c' e
    cases h
    obtain ⟨⟨l⟩⟩ := x
    simp only at e
    rw [e]
  · cases h
theorem chOf_ch {c : Nat} : chOf ⟨#[c]⟩ = some c := rfl
theorem Rb.strV {K : Fg} {S : Hp} {M : Mu} {H : Hp} {v : V} {x : Str} (h : Rb K S M H v (.str x)) : v = .str x := by
  rcases h with h | ⟨_, _, _, _, e, _⟩
  · cases h; rfl
  · cases e
theorem Rb.intV {K : Fg} {S : Hp} {M : Mu} {H : Hp} {v : V} {x : Int} (h : Rb K S M H v (.int x)) : v = .int x := by
  rcases h with h | ⟨_, _, _, _, e, _⟩
  · cases h; rfl
  · cases e
/-- x[i], x a text -/
def dIxS : OD := fun a b Q => match a, b with
  | .str x, .int i => x.length ≤ 16777216 ∧ (match L2.atI x.cps.toList i with | some c => Q (.va (sgD c)) | none => False)
  | _, _ => False
/-- c in x, x a text, c one sign -/
def dInS (neg : Bool) : OD := fun a b Q => match a, b with
  | .str x, .str y => (match chOf x with
    | some c => Q (.va (.bl (if neg then !decide (c ∈ y.cps.toList) else decide (c ∈ y.cps.toList))))
    | none => False)
  | _, _ => False
/-- the signs of a text -/
def iStrD (q : QE) : QA := fun ρ M Q => q ρ M fun r ρ' M' => match r with
  | .va (.str x) => Q (x.cps.toList.map sgD) ρ' M'
  | _ => False
section
variable {X : Cx} {z : Z} {a b : Expr} {pos : Pos} {qa qb : QB}
theorem qe_ixS (ha : PE X a (liB z qa)) (hb : PE X b (liB z qb)) (hs : PlainIx b := by exact fun _ _ => rfl) : PE X (.Subscript a b pos) (liE z (eBin dIxS qa qb)) :=
  pe_w (pe_ix ix_str ha hb hs) fun σ H Q ⟨S, M, ρ, Q0, sim, h, post⟩ => ⟨S, M, ρ, _, sim, h, fun x H1 ⟨d1, ρ1, M1, S1, q1, st1, sim1, r1⟩ => ⟨S1, M1, ρ1, _, sim1, q1, fun y H2 ⟨d2, ρ2, M2, S2, q2, st2, sim2, r2⟩ => by
    have q2 : dIxS d1 d2 fun r => Q0 r ρ2 M2 := q2
    unfold dIxS at q2
    split at q2
    · rename_i x i _ _
      obtain ⟨hl, q2⟩ := q2
      split at q2
      · rename_i c ec
        exact ⟨x, i, c, (r1.step st2).strV, r2.intV, by rw [sizeLine_eq]; exact hl, ec, post _ _ ⟨_, ρ2, M2, S2, q2, st1.trans st2, sim2, .str _⟩⟩
      · exact q2.elim
    · exact q2.elim⟩⟩
theorem ob_inS (hK : X.K = z.K := by first | assumption | rfl) : OpB X z (compareOp .In) (dInS false) := opB_of op_inS fun σ H S M ρ x y d1 d2 Q0 sim b1 b2 q => by
  unfold dInS at q
  split at q
  · split at q
    · rename_i c ec
      refine ⟨c, _, by rw [b1.strV, chOf_eq ec], b2.strV, ⟨_, ρ, M, S, ⟨rfl, rfl, q⟩, .refl, sim, ?_⟩⟩
      exact .bl _
    · exact q.elim
  · exact q.elim
theorem ob_notInS (hK : X.K = z.K := by first | assumption | rfl) : OpB X z (compareOp .NotIn) (dInS true) := opB_of op_notInS fun σ H S M ρ x y d1 d2 Q0 sim b1 b2 q => by
  unfold dInS at q
  split at q
  · split at q
    · rename_i c ec
      refine ⟨c, _, by rw [b1.strV, chOf_eq ec], b2.strV, ⟨_, ρ, M, S, ⟨rfl, rfl, q⟩, .refl, sim, ?_⟩⟩
      exact .bl _
    · exact q.elim
  · exact q.elim
theorem qi_str {tg e : Expr} {q : QE} (h : PE X e (liE z q)) : PI X tg e (liI z (iStrD q)) :=
  pi_w (pi_str h) fun σ H R ⟨S, M, ρ, Q0, sim, h, post⟩ => ⟨S, M, ρ, _, sim, (show q ρ M (fun r ρ' M' => match r with | .va (.str x) => Q0 (x.cps.toList.map sgD) ρ' M' | _ => False) from h), fun v H1 ⟨r, ρ1, M1, S1, q1, st1, sim1, res1⟩ => by
    dsimp only at q1
    split at q1
    · rename_i x
      have ev : v = .str x := by
        have res1 : Rp z.K S1 v (.str x) := res1
        cases res1
        rfl
      refine ⟨x, ev, post _ H1 ⟨_, ρ1, M1, S1, q1, st1, sim1, ⟨fun i H S _ _ hi => ?_, fun i H S _ _ hi => ?_, fun i H S v' H' d _ e2 ed hy => ?_⟩⟩⟩
      · rw [List.length_map] at hi
        show i < x.cps.size
        simpa using hi
      · rw [List.length_map] at hi
        show x.cps.size ≤ i
        simpa using hi
      · obtain ⟨rfl, c, hc, rfl⟩ := hy
        rw [List.getElem?_map, Array.getElem?_toList, hc] at ed
        cases ed
        exact ⟨S, .refl _, .refl _, e2, fun b q => .inl q, .str _⟩
    · exact q1.elim⟩
end
end PL
namespace PL
open PySem PySem.Spec PyProof.Rows L2
/-! ### {"a": x, ..} -/
def eDsp : List (Str × QE) → Ev → Mu → (List (Key × D) → Ev → Mu → Prop) → Prop
  | [], ρ, M, Q => Q [] ρ M
  | (k, q) :: r, ρ, M, Q => q ρ M fun s ρ1 M1 => eDsp r ρ1 M1 fun ps ρ2 M2 => Q ((Sum.inr k, s.val) :: ps) ρ2 M2
def mgK (l more : List (Key × D)) : List (Key × D) := more.foldl (fun acc kv => pK acc kv.1 kv.2) l
def eDisp (qs : List (Str × QE)) : QE := fun ρ M Q => ∀ p : Addr, (∀ q ∈ M, q.1 ≠ p) → eDsp qs ρ ((p, .dic []) :: M) fun ds ρ' M' => (M'.lookup p = some (.dic []) ∧ ds.length ≤ 15) ∧ Q (.va (.ref p)) ρ' (mput M' p (.dic (mgK [] ds)))
theorem KP.merge {K : Fg} {S : Hp} {more : List (Key × V)} {moreD : List (Key × D)} (h : KP K S more moreD) : ∀ {kvs : List (Key × V)} {l : List (Key × D)}, KP K S kvs l → KP K S (mergeK kvs more) (mgK l moreD) := by
  induction h with
  | nil => intro kvs l k; exact k
  | cons a _ ih => intro kvs l k; exact ih (k.put a)
section
variable {X : Cx} {z : Z} {pos : Pos}
structure PPd (X : Cx) (z : Z) (pos : Pos) (keys : List (Option Expr)) (values : List Expr) (qs : List (Str × QE)) : Prop where
  pps : PPs X pos keys values (qs.map fun p => (tC (.str p.1), liE z p.2))
theorem ppd_nil : PPd X z pos [] [] [] := ⟨pps_nil⟩
theorem ppd_cons {k : Str} {j : Nat} {kp : Pos} {v : Expr} {q : QE} {ks : List (Option Expr)} {vs : List Expr} {qs : List (Str × QE)} (hv : PE X v (liE z q)) (hr : PPd X z pos ks vs qs) : PPd X z pos (some (.Constant (.str k) j kp) :: ks) (v :: vs) ((k, q) :: qs) := ⟨pps_cons pe_str hv hr.pps⟩
theorem dsp_lift : ∀ {qs : List (Str × QE)} {σ : St} {H S : Hp} {M : Mu} {ρ : Ev} {Q0 : List (Key × D) → Ev → Mu → Prop} {Q' : List (V × V) → Hp → Prop}, Sim z S M ρ σ H → eDsp qs ρ M Q0 →
    (∀ ps H', (∃ (kvs : List (Key × V)) (ds : List (Key × D)) (ρ' : Ev) (M' : Mu) (S' : Hp), ps = kvs.map (fun kv => (kV kv.1, kv.2)) ∧ Q0 ds ρ' M' ∧ Step S M H S' M' H' ∧ Sim z S' M' ρ' σ H' ∧ KP z.K S' kvs ds) → Q' ps H') → tPairs (qs.map fun p => (tC (.str p.1), liE z p.2)) σ H Q'
  | [], σ, H, S, M, ρ, Q0, Q', sim, h, post => post _ _ ⟨[], [], ρ, M, S, rfl, h, .refl, sim, .nil⟩
  | (k, q) :: r, σ, H, S, M, ρ, Q0, Q', sim, h, post => by
    refine ⟨S, M, ρ, _, sim, h, fun v H1 ⟨s, ρ1, M1, S1, q1, st1, sim1, res1⟩ => ?_⟩
    obtain ⟨S2, sim2, st2, rp⟩ := sim1.freeze res1
    exact dsp_lift (qs := r) sim2 q1 fun ps H3 ⟨kvs, ds, ρ3, M3, S3, e, q3, st3, sim3, kp⟩ => post _ _ ⟨(Sum.inr k, v) :: kvs, (Sum.inr k, s.val) :: ds, ρ3, M3, S3, by rw [e]; rfl, q3, (st1.trans st2).trans st3, sim3, .cons (Rp.ext st3.same _ _ rp) kp⟩
theorem qe_disp {keys : List (Option Expr)} {values : List Expr} {qs : List (Str × QE)} (h : PPd X z pos keys values qs) (hall : keys.all (·.isSome) = true := by rfl) (hl : keys.length = values.length := by rfl) (h0 : keys ≠ [] := by exact List.cons_ne_nil _ _)
    (h15 : keys.length ≤ 15 := by decide) : PE X (.Dict keys values pos) (liE z (eDisp qs)) :=
  pe_w (pe_disp h.pps hall hl h0 h15) fun σ H Q ⟨S, M, ρ, Q0, sim, h, post⟩ p hp => by
    have hm : ∀ q ∈ M, q.1 ≠ p := fun q hq e => by
      obtain ⟨u, hu⟩ := (sim.mu q hq).2.at
      rw [e, hp] at hu
      cases hu
    obtain ⟨sim2, st2⟩ := sim.madd (mo := .dic []) (ho := .dK []) hp ⟨[], upd_same, .nil⟩
    refine dsp_lift sim2 (h p hm) fun ps H3 ⟨kvs, ds, ρ3, M3, S3, e, ⟨⟨em, hlen⟩, q3⟩, st3, sim3, kp⟩ => ?_
    obtain ⟨_, kvs0, h3, h4⟩ := sim3.mu _ (lookup_mem em)
    have e0 : kvs0 = [] := List.eq_nil_of_length_eq_zero h4.length
    subst e0
    refine ⟨h3, kvs, e, by rw [kp.length]; exact hlen, post _ _ ⟨_, ρ3, mput M3 p (.dic (mgK [] ds)), S3, q3, (st2.trans st3).trans ?_, sim3.mset (lookup_mem em) ⟨_, upd_same, kp.merge .nil⟩, .ref p⟩⟩
    exact ⟨.refl _, fun b u hb hn => by rw [upd_ne (fun e => hn _ (lookup_mem em) e.symm)]; exact hb, fun q hq => by
      obtain ⟨q', h1', rfl⟩ := List.mem_map.mp hq
      refine .inl ⟨q', h1', ?_⟩
      split
      · rename_i e; exact e
      · rfl, fun b hb => by
      by_cases e : b = p
      · subst e; rw [upd_same]; simp
      · rw [upd_ne e]; exact hb⟩
end
end PL
namespace Lw
open PySem PySem.Spec PyProof.Rows L2 PL
def topS (i : Nat) : Stmt := PySem.Challenge.pw_everdays_k55_who_sees_what.main.body.getD i (.Pass ⟨0, 0, 0, 0⟩)
abbrev s_is_name : Stmt := topS 6
abbrev s_Shares_m___init__ : Stmt := (bodyC (topS 9)).getD 0 (.Pass ⟨0, 0, 0, 0⟩)
abbrev s_Shares_m_usual : Stmt := (bodyC (topS 9)).getD 1 (.Pass ⟨0, 0, 0, 0⟩)
abbrev s_Shares_m_tell : Stmt := (bodyC (topS 9)).getD 2 (.Pass ⟨0, 0, 0, 0⟩)
abbrev s_Shares_m_forget : Stmt := (bodyC (topS 9)).getD 3 (.Pass ⟨0, 0, 0, 0⟩)
abbrev s_Shares_m_level : Stmt := (bodyC (topS 9)).getD 4 (.Pass ⟨0, 0, 0, 0⟩)
abbrev s_Shares_m_shown : Stmt := (bodyC (topS 9)).getD 5 (.Pass ⟨0, 0, 0, 0⟩)
abbrev s_Shares_m_viewers : Stmt := (bodyC (topS 9)).getD 6 (.Pass ⟨0, 0, 0, 0⟩)
abbrev s__law_draw : Stmt := topS 11
abbrev s__law_tape : Stmt := topS 12
abbrev s__law_names : Stmt := topS 13
abbrev s__law_refused : Stmt := topS 14
abbrev s_law : Stmt := topS 15
def d_is_name : He.DefD := ⟨("is_name", none), "is_name", "is_name", defArgs s_is_name, defBody s_is_name, defScope s_is_name, [], []⟩
def d_Shares_m___init__ : He.DefD := ⟨("Shares", some "__init__"), "__init__", "Shares.__init__", defArgs s_Shares_m___init__, defBody s_Shares_m___init__, defScope s_Shares_m___init__, [], []⟩
def d_Shares_m_usual : He.DefD := ⟨("Shares", some "usual"), "usual", "Shares.usual", defArgs s_Shares_m_usual, defBody s_Shares_m_usual, defScope s_Shares_m_usual, [], []⟩
def d_Shares_m_tell : He.DefD := ⟨("Shares", some "tell"), "tell", "Shares.tell", defArgs s_Shares_m_tell, defBody s_Shares_m_tell, defScope s_Shares_m_tell, [], []⟩
def d_Shares_m_forget : He.DefD := ⟨("Shares", some "forget"), "forget", "Shares.forget", defArgs s_Shares_m_forget, defBody s_Shares_m_forget, defScope s_Shares_m_forget, [], []⟩
def d_Shares_m_level : He.DefD := ⟨("Shares", some "level"), "level", "Shares.level", defArgs s_Shares_m_level, defBody s_Shares_m_level, defScope s_Shares_m_level, [], []⟩
def d_Shares_m_shown : He.DefD := ⟨("Shares", some "shown"), "shown", "Shares.shown", defArgs s_Shares_m_shown, defBody s_Shares_m_shown, defScope s_Shares_m_shown, [], []⟩
def d_Shares_m_viewers : He.DefD := ⟨("Shares", some "viewers"), "viewers", "Shares.viewers", defArgs s_Shares_m_viewers, defBody s_Shares_m_viewers, defScope s_Shares_m_viewers, [], []⟩
def d__law_draw : He.DefD := ⟨("_law_draw", none), "_law_draw", "_law_draw", defArgs s__law_draw, defBody s__law_draw, defScope s__law_draw, [], []⟩
def d__law_tape : He.DefD := ⟨("_law_tape", none), "_law_tape", "_law_tape", defArgs s__law_tape, defBody s__law_tape, defScope s__law_tape, [], []⟩
def d__law_names : He.DefD := ⟨("_law_names", none), "_law_names", "_law_names", defArgs s__law_names, defBody s__law_names, defScope s__law_names, [], []⟩
def d__law_refused : He.DefD := ⟨("_law_refused", none), "_law_refused", "_law_refused", defArgs s__law_refused, defBody s__law_refused, defScope s__law_refused, [], []⟩
def d_law : He.DefD := ⟨("law", none), "law", "law", defArgs s_law, defBody s_law, defScope s_law, [], []⟩
def fn : List He.DefD := [d_is_name, d_Shares_m___init__, d_Shares_m_usual, d_Shares_m_tell, d_Shares_m_forget, d_Shares_m_level, d_Shares_m_shown, d_Shares_m_viewers, d__law_draw, d__law_tape, d__law_names, d__law_refused, d_law]
def fa : List He.Fa := [.glo "is_name", .meth "Shares" "usual", .meth "Shares" "tell", .meth "Shares" "forget", .meth "Shares" "level", .meth "Shares" "shown", .meth "Shares" "viewers", .glo "_law_draw", .glo "_law_tape", .glo "_law_names", .glo "_law_refused", .glo "law", .cls "Shares", .mkr "Shares", .glo "Shares", .noat "Shares" "_told", .noat "Shares" "_usual", .str "LETTERS" "abcdefghijklmnopqrstuvwxyz", .str "DIGITS" "0123456789", .glo "LEVELS", .glo "BadName", .free "all", .free "int", .free "len", .free "list", .free "range", .free "sorted"]
def ex (K : Fg) : Bool := tabB K (.ref (He.ga K "LEVELS")) (D.tup [(D.str (Str.ofString "none")), (D.str (Str.ofString "busy")), (D.str (Str.ofString "all"))]) && PySem.W.excIn K (He.ga K "BadName") [.type "ValueError", .type "Exception", .type "BaseException", .type "object"] "ValueError.__new__" && PySem.W.keepIn K (.ref (He.ga K "BadName")) && isSome1 (PySem.W.subIn K (.ref (He.ga K "BadName")) (.type "BaseException")) true && isTyp (PySem.W.typeIn K (.ref (He.ga K "BadName"))) && isSome1 (PySem.W.exmOne K (clsV K "BadName") (clsV K "BadName")) true
abbrev R : PySem.W.OpenRow := PySem.W.OpenLaw.row PySem.Challenge.rw_everdays_k55_who_sees_what
abbrev hk : PySem.W.Hook := hookF fa fn ex
def headOb (s : PySem.W.SharedT) : He.AlD := obsFG fa fn ex (HandSHeadRun.getT s)
theorem headOb_eq (s : PySem.W.SharedT) : headOb s = hk.obs s.abs := obsFG_eq (HandSHeadRun.getT_eq s)
def loose : List PySem.Str := (["LETTERS", "DIGITS", "LEVELS", "DaysError", "BadName", "Shares", "is_name", "_law_draw", "_law_tape", "_law_names", "_law_refused"] : List PySem.Str)
section
open HandSHeadRun PySem.W
set_option maxHeartbeats 0 in
theorem run1 (w : PySem.World) (os : PySem.OsState) : ((endF (stepQ (denQ tabQ) R.prog w) 1560 R.prog w os).map fun x => looksF R.prog (boot_heap w.params) x.abs) = some true := by
  kernel_rfl
set_option maxHeartbeats 0 in
theorem run2 (w : PySem.World) (os : PySem.OsState) : ((endF (stepQ (denQ tabQ) R.prog w) 1560 R.prog w os).map fun x => seenQ (PySem.W.view R.prog [15]) loose (importedModules R.prog.main.body) (fun s => PySem.W.xlAt (PySem.W.view R.prog [15]) [] s && PySem.W.recOk R.toRowW.records s) x.abs) = some (openGood (PySem.W.view R.prog [15]) loose) := by
  kernel_rfl
set_option maxHeartbeats 0 in
theorem run3 (w : PySem.World) (os : PySem.OsState) : ((endF (stepQ (denQ tabQ) R.prog w) 1560 R.prog w os).map fun x => (fa.all fun f => f.ok (He.frG (getT x) (asF (getT x)))) && ex (He.frG (getT x) (asF (getT x)))) = some true := by
  kernel_rfl
set_option maxHeartbeats 0 in
theorem run4 (w : PySem.World) (os : PySem.OsState) : ((endF (stepQ (denQ tabQ) R.prog w) 1560 R.prog w os).map fun x => fn.all fun d => d.ok (He.frG (getT x) (asF (getT x)))) = some true := by
  kernel_rfl
set_option maxHeartbeats 0 in
theorem run5 (w : PySem.World) (os : PySem.OsState) : ((endF (stepQ (denQ tabQ) R.prog w) 1560 R.prog w os).map fun x => fn.map fun d => He.fnW (He.frG (getT x) (asF (getT x))) d.at_) = some (fn.map He.DefD.val) := by
  kernel_rfl
theorem run (w : PySem.World) : HandSHeadRun.RunEq R (PySem.W.view R.prog [15]) hk headOb 1560 loose w := by
  intro os
  have a1 := run1 w os
  have a2 := run2 w os
  have a3 := run3 w os
  have a4 := run4 w os
  have a5 := run5 w os
  generalize (endF (stepQ (denQ tabQ) R.prog w) 1560 R.prog w os) = o at a1 a2 a3 a4 a5 ⊢
  exact @run_split _ _ o _ _ (fun x => getT x) fa fn ex _ a1 a2 a3 a4 a5
end
open PySem PySem.W PySem.Calls PyProof.Rows HandSHeadRun in
set_option maxHeartbeats 0 in
theorem hA1 : defOf (view (OpenLaw.row PySem.Challenge.rw_everdays_k55_who_sees_what).prog [15]) (OpenLaw.row PySem.Challenge.rw_everdays_k55_who_sees_what).name = some ((HandSHeadRun.topDef (OpenLaw.row PySem.Challenge.rw_everdays_k55_who_sees_what).prog 15), []) := by kernel_rfl
open PySem PySem.W PySem.Calls PyProof.Rows HandSHeadRun in
set_option maxHeartbeats 0 in
theorem hA2 : (OpenLaw.row PySem.Challenge.rw_everdays_k55_who_sees_what).prog.theDef (OpenLaw.row PySem.Challenge.rw_everdays_k55_who_sees_what).name = some ((HandSHeadRun.topDef (OpenLaw.row PySem.Challenge.rw_everdays_k55_who_sees_what).prog 15).params, (HandSHeadRun.topDef (OpenLaw.row PySem.Challenge.rw_everdays_k55_who_sees_what).prog 15).body, (HandSHeadRun.topDef (OpenLaw.row PySem.Challenge.rw_everdays_k55_who_sees_what).prog 15).scope) := by kernel_rfl
open PySem PySem.W PySem.Calls PyProof.Rows HandSHeadRun in
set_option maxHeartbeats 0 in
theorem hA3 : kwWritten? (HandSHeadRun.topDef (OpenLaw.row PySem.Challenge.rw_everdays_k55_who_sees_what).prog 15).params.kwonlyargs (HandSHeadRun.topDef (OpenLaw.row PySem.Challenge.rw_everdays_k55_who_sees_what).prog 15).params.kw_defaults = some [] := by kernel_rfl
open PySem PySem.W PySem.Calls PyProof.Rows HandSHeadRun in
set_option maxHeartbeats 0 in
theorem hA6 : (chainsOk (view (OpenLaw.row PySem.Challenge.rw_everdays_k55_who_sees_what).prog [15]) && opensWell (OpenLaw.row PySem.Challenge.rw_everdays_k55_who_sees_what).prog && (frees (OpenLaw.row PySem.Challenge.rw_everdays_k55_who_sees_what).toRowW && (OpenLaw.row PySem.Challenge.rw_everdays_k55_who_sees_what).within.isEmpty)) = true := by decide +kernel
open PySem PySem.W PySem.Calls PyProof.Rows HandSHeadRun in
set_option maxHeartbeats 0 in
theorem hA7 : (HandSHeadRun.topDef (OpenLaw.row PySem.Challenge.rw_everdays_k55_who_sees_what).prog 15).name = ("law" : PySem.Str) := by kernel_rfl
open PySem PySem.W PySem.Calls PyProof.Rows HandSHeadRun in
set_option maxHeartbeats 0 in
theorem hA8 : (OpenLaw.row PySem.Challenge.rw_everdays_k55_who_sees_what).prog.bare := ⟨rfl, rfl, rfl, rfl, rfl, by decide +kernel⟩
end Lw
namespace Lw
open PySem PySem.Spec PyProof.Rows L2 PL
local macro_rules | `(tactic| walk_at "go") => `(tactic| repeat' (first | assumption | with_reducible apply And.intro | walk_at "cs"))
local macro_rules | `(tactic| walk_at "ex") => `(tactic| simp only [List.cons.injEq, Sl.va.injEq, Sl.ow.injEq, Ow.lst.injEq, D.int.injEq, D.bl.injEq, D.str.injEq, D.lst.injEq, D.tup.injEq, true_and, and_true])
local macro_rules | `(tactic| walk_at "gn") => `(tactic| simp only [↓gN, ↓gsNil, ↓gsCons, ↓gT, ↓gSq, List.length_cons, List.length_nil, Nat.reduceAdd, true_and, List.set_cons_zero, List.set_cons_succ])
local macro_rules | `(tactic| walk_at "sp") => `(tactic| repeat' (first | split | with_reducible apply And.intro))
local macro_rules | `(tactic| walk_at "cs") => `(tactic| first | (unfold CMulP; omega) | (unfold CPowP; omega) | (unfold CModP; omega) | (unfold CDivP; omega))
local macro_rules | `(tactic| walk_at "pl") => `(tactic| simp only [↓sSeq, ↓sAsg, ↓sRet, ↓sRetN, ↓sIf, ↓sDrop, ↓sPar, ↓sAug, ↓sNext, ↓sTgt, ↓sApp, ↓sExt, ↓sPop, ↓sSet, ↓sBreak, ↓sCont, ↓eVar, ↓bVar, ↓eMov, ↓bE, ↓eBin, ↓tE, ↓eChain_eq, chS_bl, chS_true, chS_false, wipeE_nil, wipeE_cons, ↓eUn, ↓qAnd, ↓qOr, ↓qNot, ↓eAnd_eq, ↓eOr_eq, ↓sNever, ↓eNot, ↓eIf, ↓aNil, ↓aCons, ↓aConsB, ↓eTup, ↓eLst, ↓iSeq, ↓iR1, ↓iR2, ↓dIsB, ↓dNotB, ↓cSortD, ↓eDGet, ↓eDGet2, ↓iDic, ↓isDic, ↓kyOf, Option.isSome_some, lk_int, lk_str, ↓sByCls, ↓eFrz, ↓eFld, ↓sFldN, ↓sFldU, ↓eMeth, ↓eMethX, ↓objOf, ↓eMakeX, ↓eDNew, ↓eMGet, ↓eMGet1, ↓eMGet2, ↓tMIn, ↓sMPut, ↓dicOf, ↓kyOf, ↓eTNew, ↓eTGet, ↓eTGet1, ↓eTGet2, ↓tTIn', ↓eTPop2, ↓sTPut, ↓ditOf, ↓kysOf, ↓kyL, ↓kyOf, ↓eMakeM, ↓sAppPop, ↓dIxS, ↓dInS, ↓iStrD, chOf_ch, ↓eDisp, ↓eDsp, mgK, List.foldl_cons, List.foldl_nil,  ↓gN, ↓gsNil, ↓gsCons, ↓gT, ↓eCall, ↓eCallX, ↓sRaise, ↓sTry, ↓dI2, ↓dAdd, ↓dEq, ↓dNe, ↓dIsN, ↓dNotN, ↓dIx, ↓oNone, ↓oSome, ↓eSl, ↓eB, ↓cLen, ↓cInt, ↓cAbs, ↓cMax2, ↓cMin2, ↓cDivmod, ↓cList, ↓cTuple, ↓cSum, ↓cMax, ↓cMin, ↓cAll, ↓cAny, ↓cSorted, ↓dIn, ↓dInX, ↓eM, ↓mIndex, ↓tyM, ↓gSq, ↓cSet, natc0, natc1, natc2, List.findIdx?_cons, List.findIdx?_nil, intsOf_ints, boolsOf_bls, plAnyI, plAnyR, ↓cGcd, ↓cLcm, ↓eRange, ↓eIsi, ↓Sl.val, ↓Ow.toD, ↓stE, ↓tYes', ↓eIxM, ↓sSetM, ↓PL.isNon, ↓eC, ↓bC, ↓dSub, ↓dMul, ↓dDiv, ↓dMod, ↓dPow, ↓dLt, ↓dLe, ↓dGt, ↓dGe, ↓dAddI, ↓dDivS, ↓dEqI, ↓dNeI,
  List.getElem?_cons_zero, List.getElem?_cons_succ, List.set_cons_zero, List.set_cons_succ, List.map_cons, List.map_nil, List.length_cons, List.length_nil, List.nil_append, List.cons_append, List.replicate_succ, List.replicate_zero, List.append_nil, atI0, atI1, atI2, atI3, atI4,
  cmpOk_int, cmpOk_bl, cmpOk_non, deq_int, deq_bl, true_and, and_true, Nat.reduceAdd, Nat.reduceSub, Nat.reduceLeDiff, Nat.reduceLT, Bool.not_eq_true', Bool.false_eq_true, if_false, if_true, decide_eq_true_eq, decide_eq_false_iff_not, Nat.zero_add, Nat.sub_zero, Nat.add_zero, Nat.sub_self, isi_non_bool, isi_non_int, isi_non_str, isi_non_list, isi_non_tuple, isi_bl_bool, isi_bl_int, isi_bl_str, isi_bl_list, isi_bl_tuple, isi_int_bool, isi_int_int, isi_int_str, isi_int_list, isi_int_tuple, isi_str_bool, isi_str_int, isi_str_str, isi_str_list, isi_str_tuple, isi_lst_bool, isi_lst_int, isi_lst_str, isi_lst_list, isi_lst_tuple, isi_tup_bool, isi_tup_int, isi_tup_str, isi_tup_list, isi_tup_tuple, ixN31, ixN32, List.length_map, List.length_set, Int.reduceToNat, Int.reducePow, Int.reduceNeg, Int.reduceAdd, Int.reduceSub, Int.reduceMul, Int.reduceLT, Int.reduceLE, Int.reduceEq, Nat.reduceEqDiff, reduceCtorEq, List.mem_singleton, eq_self, not_true_eq_false, not_false_eq_true, or_true, true_or, cmpOk_lstA, cmpOk_tupA, ckA_lst, ckA_tup, ckAl_nil, ckAl_cons, ckAl_ints, ckAl_rangeL, ck_int, ck_bl, ck_non, ck_strI, cmpOk_str, deq_str, deq_tup, deq_lst, deqA_nil, deqA_cons, deqA_ints, Bool.and_true, Bool.true_and, Bool.and_false, Bool.false_and, decide_true, decide_false, Bool.not_true, Bool.not_false])

abbrev N_is_name : List Str := ["text", "sign"]
theorem sc_is_name : FnScope N_is_name ["text"] (defScope s_is_name) := ⟨rfl, rfl, rfl, by decide +kernel, rfl, by decide +kernel, by decide +kernel⟩
abbrev N_Shares_m___init__ : List Str := ["self"]
theorem sc_Shares_m___init__ : FnScope N_Shares_m___init__ ["self"] (defScope s_Shares_m___init__) := ⟨rfl, rfl, rfl, by decide +kernel, rfl, by decide +kernel, by decide +kernel⟩
abbrev N_Shares_m_usual : List Str := ["self", "owner", "level"]
theorem sc_Shares_m_usual : FnScope N_Shares_m_usual ["self", "owner", "level"] (defScope s_Shares_m_usual) := ⟨rfl, rfl, rfl, by decide +kernel, rfl, by decide +kernel, by decide +kernel⟩
abbrev N_Shares_m_tell : List Str := ["self", "owner", "viewer", "level"]
theorem sc_Shares_m_tell : FnScope N_Shares_m_tell ["self", "owner", "viewer", "level"] (defScope s_Shares_m_tell) := ⟨rfl, rfl, rfl, by decide +kernel, rfl, by decide +kernel, by decide +kernel⟩
abbrev N_Shares_m_forget : List Str := ["self", "owner", "viewer"]
theorem sc_Shares_m_forget : FnScope N_Shares_m_forget ["self", "owner", "viewer"] (defScope s_Shares_m_forget) := ⟨rfl, rfl, rfl, by decide +kernel, rfl, by decide +kernel, by decide +kernel⟩
abbrev N_Shares_m_level : List Str := ["self", "owner", "viewer", "told"]
theorem sc_Shares_m_level : FnScope N_Shares_m_level ["self", "owner", "viewer"] (defScope s_Shares_m_level) := ⟨rfl, rfl, rfl, by decide +kernel, rfl, by decide +kernel, by decide +kernel⟩
abbrev N_Shares_m_shown : List Str := ["self", "owner", "viewer", "rows", "level", "start", "end", "item"]
theorem sc_Shares_m_shown : FnScope N_Shares_m_shown ["self", "owner", "viewer", "rows"] (defScope s_Shares_m_shown) := ⟨rfl, rfl, rfl, by decide +kernel, rfl, by decide +kernel, by decide +kernel⟩
abbrev N_Shares_m_viewers : List Str := ["self", "owner", "told", "viewer"]
theorem sc_Shares_m_viewers : FnScope N_Shares_m_viewers ["self", "owner"] (defScope s_Shares_m_viewers) := ⟨rfl, rfl, rfl, by decide +kernel, rfl, by decide +kernel, by decide +kernel⟩
abbrev N__law_draw : List Str := ["tape", "many", "cells", "k", "cell", "digit"]
theorem sc__law_draw : FnScope N__law_draw ["tape", "many"] (defScope s__law_draw) := ⟨rfl, rfl, rfl, by decide +kernel, rfl, by decide +kernel, by decide +kernel⟩
abbrev N__law_tape : List Str := ["script"]
theorem sc__law_tape : FnScope N__law_tape ["script"] (defScope s__law_tape) := ⟨rfl, rfl, rfl, by decide +kernel, rfl, by decide +kernel, by decide +kernel⟩
abbrev N__law_names : List Str := ["tape", "many", "pool", "found", "k"]
theorem sc__law_names : FnScope N__law_names ["tape", "many"] (defScope s__law_names) := ⟨rfl, rfl, rfl, by decide +kernel, rfl, by decide +kernel, by decide +kernel⟩
abbrev N__law_refused : List Str := ["shares", "way", "names", "level"]
theorem sc__law_refused : FnScope N__law_refused ["shares", "way", "names", "level"] (defScope s__law_refused) := ⟨rfl, rfl, rfl, by decide +kernel, rfl, by decide +kernel, by decide +kernel⟩
abbrev N_law : List Str := ["script", "tape", "names", "shares", "told", "usual", "k", "owner", "viewer", "level", "way", "rows", "due", "shown", "one", "a", "b", "item"]
theorem sc_law : FnScope N_law ["script"] (defScope s_law) := ⟨rfl, rfl, rfl, by decide +kernel, rfl, by decide +kernel, by decide +kernel⟩
abbrev FnP (K : Fg) (x : Str) (st : Stmt) (f : Addr) (fd : FuncData) : Prop := FunD K x x (defArgs st) (defBody st) (defScope st) [] [] f fd
abbrev FnM (K : Fg) (x q : Str) (st : Stmt) (kws : List (Str × V)) (f : Addr) (fd : FuncData) : Prop := FunD K x q (defArgs st) (defBody st) (defScope st) [] kws f fd
/-- what the top leaves -/
structure TF (K : Fg) (mg : Str → Option Value) where
  x_is_name : FuncData
  a_is_name : Addr
  f_is_name : FnP K "is_name" s_is_name a_is_name x_is_name
  g_is_name : mg "is_name" = some (.ref a_is_name)
  b_is_name : Binds K x_is_name ["text"] []
  x_Shares_m___init__ : FuncData
  f_Shares_m___init__ : FnM K "__init__" "Shares.__init__" s_Shares_m___init__ [] (He.ma K (He.ga K "Shares") "__init__") x_Shares_m___init__
  kb_Shares : KBn K x_Shares_m___init__ ["self"] 1 [] (fun us ws => us ++ ws) (fun vs zs => vs ++ zs)
  x_Shares_m_usual : FuncData
  f_Shares_m_usual : FnM K "usual" "Shares.usual" s_Shares_m_usual [] (He.ma K (He.ga K "Shares") "usual") x_Shares_m_usual
  me_Shares_m_usual : Meth K (He.ga K "Shares") "usual" (He.ma K (He.ga K "Shares") "usual")
  b_Shares_m_usual : Binds K x_Shares_m_usual ["self", "owner", "level"] []
  x_Shares_m_tell : FuncData
  f_Shares_m_tell : FnM K "tell" "Shares.tell" s_Shares_m_tell [] (He.ma K (He.ga K "Shares") "tell") x_Shares_m_tell
  me_Shares_m_tell : Meth K (He.ga K "Shares") "tell" (He.ma K (He.ga K "Shares") "tell")
  b_Shares_m_tell : Binds K x_Shares_m_tell ["self", "owner", "viewer", "level"] []
  x_Shares_m_forget : FuncData
  f_Shares_m_forget : FnM K "forget" "Shares.forget" s_Shares_m_forget [] (He.ma K (He.ga K "Shares") "forget") x_Shares_m_forget
  me_Shares_m_forget : Meth K (He.ga K "Shares") "forget" (He.ma K (He.ga K "Shares") "forget")
  b_Shares_m_forget : Binds K x_Shares_m_forget ["self", "owner", "viewer"] []
  x_Shares_m_level : FuncData
  f_Shares_m_level : FnM K "level" "Shares.level" s_Shares_m_level [] (He.ma K (He.ga K "Shares") "level") x_Shares_m_level
  me_Shares_m_level : Meth K (He.ga K "Shares") "level" (He.ma K (He.ga K "Shares") "level")
  b_Shares_m_level : Binds K x_Shares_m_level ["self", "owner", "viewer"] []
  x_Shares_m_shown : FuncData
  f_Shares_m_shown : FnM K "shown" "Shares.shown" s_Shares_m_shown [] (He.ma K (He.ga K "Shares") "shown") x_Shares_m_shown
  me_Shares_m_shown : Meth K (He.ga K "Shares") "shown" (He.ma K (He.ga K "Shares") "shown")
  b_Shares_m_shown : Binds K x_Shares_m_shown ["self", "owner", "viewer", "rows"] []
  x_Shares_m_viewers : FuncData
  f_Shares_m_viewers : FnM K "viewers" "Shares.viewers" s_Shares_m_viewers [] (He.ma K (He.ga K "Shares") "viewers") x_Shares_m_viewers
  me_Shares_m_viewers : Meth K (He.ga K "Shares") "viewers" (He.ma K (He.ga K "Shares") "viewers")
  b_Shares_m_viewers : Binds K x_Shares_m_viewers ["self", "owner"] []
  x__law_draw : FuncData
  a__law_draw : Addr
  f__law_draw : FnP K "_law_draw" s__law_draw a__law_draw x__law_draw
  g__law_draw : mg "_law_draw" = some (.ref a__law_draw)
  b__law_draw : Binds K x__law_draw ["tape", "many"] []
  x__law_tape : FuncData
  a__law_tape : Addr
  f__law_tape : FnP K "_law_tape" s__law_tape a__law_tape x__law_tape
  g__law_tape : mg "_law_tape" = some (.ref a__law_tape)
  b__law_tape : Binds K x__law_tape ["script"] []
  x__law_names : FuncData
  a__law_names : Addr
  f__law_names : FnP K "_law_names" s__law_names a__law_names x__law_names
  g__law_names : mg "_law_names" = some (.ref a__law_names)
  b__law_names : Binds K x__law_names ["tape", "many"] []
  x__law_refused : FuncData
  a__law_refused : Addr
  f__law_refused : FnP K "_law_refused" s__law_refused a__law_refused x__law_refused
  g__law_refused : mg "_law_refused" = some (.ref a__law_refused)
  b__law_refused : Binds K x__law_refused ["shares", "way", "names", "level"] []
  x_law : FuncData
  a_law : Addr
  f_law : FnP K "law" s_law a_law x_law
  g_law : mg "law" = some (.ref a_law)
  b_law : Binds K x_law ["script"] []
  c_Shares : Cls K (He.ga K "Shares")
  mk_Shares : Mk K (He.ga K "Shares") (He.ma K (He.ga K "Shares") "__init__")
  g_Shares : mg "Shares" = some (.ref (He.ga K "Shares"))
  n_Shares__told : NoAttr K (He.ga K "Shares") "_told"
  n_Shares__usual : NoAttr K (He.ga K "Shares") "_usual"
  t_LETTERS : Tok
  g_LETTERS : mg "LETTERS" = some (.str (Str.ofString "abcdefghijklmnopqrstuvwxyz") t_LETTERS)
  t_DIGITS : Tok
  g_DIGITS : mg "DIGITS" = some (.str (Str.ofString "0123456789") t_DIGITS)
  a_LEVELS : Addr
  g_LEVELS : mg "LEVELS" = some (.ref a_LEVELS)
  d0_LEVELS : ∀ S : Hp, Rp K S (.ref a_LEVELS) (D.tup [(D.str (Str.ofString "none")), (D.str (Str.ofString "busy")), (D.str (Str.ofString "all"))])
  g_BadName : mg "BadName" = some (.ref (He.ga K "BadName"))
  q_BadName : PySem.W.excIn K (He.ga K "BadName") [.type "ValueError", .type "Exception", .type "BaseException", .type "object"] "ValueError.__new__" = true
  k_BadName : PySem.W.keepIn K (.ref (He.ga K "BadName")) = true
  b_BadName : PySem.W.subIn K (.ref (He.ga K "BadName")) (.type "BaseException") = some true
  t_BadName : PySem.W.typeIn K (.ref (He.ga K "BadName")) = some (.type "type")
  e_BadName_BadName : PySem.W.exmOne K (clsV K "BadName") (clsV K "BadName") = some true
  m_all : mg "all" = none
  m_int : mg "int" = none
  m_len : mg "len" = none
  m_list : mg "list" = none
  m_range : mg "range" = none
  m_sorted : mg "sorted" = none
theorem facts {P : Program} {w : World} {K : PySem.W.Frag} {h : Heap} {mg : Str → Option Value} {f : Addr} (X : K.In h) (G : h.Ns mainGlobals mg) (hfa : mg ("law" : Str) = some (.ref f)) (c : SaysE fa fn ex K)
    (OK : ∀ {base : Heap} (T : TF K mg), FnOk P w K mg base CX0 4 T.a_law T.x_law ["script"] (spLaw K)) :
    ∃ fd : FuncData, (∀ (s : Shared) (v : Value), BindsTo s fd ⟨[v], []⟩ [("script", v)]) ∧ ∀ base : Heap, K.In base → base.Ns mainGlobals mg → FnOk P w K mg base CX0 4 f fd ["script"] (spLaw K) := by
  obtain ⟨x_is_name, F_is_name⟩ := c.d.def_ 0 (d := d_is_name) rfl
  obtain ⟨x_Shares_m___init__, F_Shares_m___init__⟩ := c.d.def_ 1 (d := d_Shares_m___init__) rfl
  obtain ⟨x_Shares_m_usual, F_Shares_m_usual⟩ := c.d.def_ 2 (d := d_Shares_m_usual) rfl
  obtain ⟨x_Shares_m_tell, F_Shares_m_tell⟩ := c.d.def_ 3 (d := d_Shares_m_tell) rfl
  obtain ⟨x_Shares_m_forget, F_Shares_m_forget⟩ := c.d.def_ 4 (d := d_Shares_m_forget) rfl
  obtain ⟨x_Shares_m_level, F_Shares_m_level⟩ := c.d.def_ 5 (d := d_Shares_m_level) rfl
  obtain ⟨x_Shares_m_shown, F_Shares_m_shown⟩ := c.d.def_ 6 (d := d_Shares_m_shown) rfl
  obtain ⟨x_Shares_m_viewers, F_Shares_m_viewers⟩ := c.d.def_ 7 (d := d_Shares_m_viewers) rfl
  obtain ⟨x__law_draw, F__law_draw⟩ := c.d.def_ 8 (d := d__law_draw) rfl
  obtain ⟨x__law_tape, F__law_tape⟩ := c.d.def_ 9 (d := d__law_tape) rfl
  obtain ⟨x__law_names, F__law_names⟩ := c.d.def_ 10 (d := d__law_names) rfl
  obtain ⟨x__law_refused, F__law_refused⟩ := c.d.def_ 11 (d := d__law_refused) rfl
  obtain ⟨x_law, F_law⟩ := c.d.def_ 12 (d := d_law) rfl
  have g_is_name := He.glo_ok X G (c.d.fact 0 (f := .glo "is_name") rfl)
  have me_Shares_m_usual := He.meth_ok (c.d.fact 1 (f := .meth "Shares" "usual") rfl)
  have me_Shares_m_tell := He.meth_ok (c.d.fact 2 (f := .meth "Shares" "tell") rfl)
  have me_Shares_m_forget := He.meth_ok (c.d.fact 3 (f := .meth "Shares" "forget") rfl)
  have me_Shares_m_level := He.meth_ok (c.d.fact 4 (f := .meth "Shares" "level") rfl)
  have me_Shares_m_shown := He.meth_ok (c.d.fact 5 (f := .meth "Shares" "shown") rfl)
  have me_Shares_m_viewers := He.meth_ok (c.d.fact 6 (f := .meth "Shares" "viewers") rfl)
  have g__law_draw := He.glo_ok X G (c.d.fact 7 (f := .glo "_law_draw") rfl)
  have g__law_tape := He.glo_ok X G (c.d.fact 8 (f := .glo "_law_tape") rfl)
  have g__law_names := He.glo_ok X G (c.d.fact 9 (f := .glo "_law_names") rfl)
  have g__law_refused := He.glo_ok X G (c.d.fact 10 (f := .glo "_law_refused") rfl)
  have g_law := He.glo_ok X G (c.d.fact 11 (f := .glo "law") rfl)
  have c_Shares := He.cls_ok (c.d.fact 12 (f := .cls "Shares") rfl)
  have mk_Shares := He.mkr_ok (c.d.fact 13 (f := .mkr "Shares") rfl)
  have g_Shares := He.glo_ok X G (c.d.fact 14 (f := .glo "Shares") rfl)
  have n_Shares__told := He.noat_ok (c.d.fact 15 (f := .noat "Shares" "_told") rfl)
  have n_Shares__usual := He.noat_ok (c.d.fact 16 (f := .noat "Shares" "_usual") rfl)
  obtain ⟨t_LETTERS, g_LETTERS⟩ := He.str_ok X G (c.d.fact 17 (f := .str "LETTERS" "abcdefghijklmnopqrstuvwxyz") rfl)
  obtain ⟨t_DIGITS, g_DIGITS⟩ := He.str_ok X G (c.d.fact 18 (f := .str "DIGITS" "0123456789") rfl)
  have g_LEVELS := He.glo_ok X G (c.d.fact 19 (f := .glo "LEVELS") rfl)
  have g_BadName := He.glo_ok X G (c.d.fact 20 (f := .glo "BadName") rfl)
  have m_all := He.free_ok X G (c.d.fact 21 (f := .free "all") rfl)
  have m_int := He.free_ok X G (c.d.fact 22 (f := .free "int") rfl)
  have m_len := He.free_ok X G (c.d.fact 23 (f := .free "len") rfl)
  have m_list := He.free_ok X G (c.d.fact 24 (f := .free "list") rfl)
  have m_range := He.free_ok X G (c.d.fact 25 (f := .free "range") rfl)
  have m_sorted := He.free_ok X G (c.d.fact 26 (f := .free "sorted") rfl)
  have hex := c.x
  unfold ex at hex
  simp only [Bool.and_eq_true] at hex
  obtain ⟨⟨⟨⟨⟨e_LEVELS, q_BadName⟩, k_BadName⟩, b_BadName⟩, t_BadName⟩, e_BadName_BadName⟩ := hex
  have e := hfa.symm.trans g_law
  cases e
  let T : TF K mg := {
    a_is_name := He.ga K "is_name"
    x_is_name := x_is_name
    f_is_name := F_is_name
    g_is_name := g_is_name
    b_is_name := FunD.bindsN (ps := ["text"]) F_is_name fun _ _ _ _ _ _ us hl => match us, hl with | [_], _ => rfl
    x_Shares_m___init__ := x_Shares_m___init__
    f_Shares_m___init__ := F_Shares_m___init__
    kb_Shares := kbn_of (FunD.bindsN (ps := ["self"]) F_Shares_m___init__ fun _ _ _ _ _ _ us hl => match us, hl with | [_], _ => rfl) rfl
    x_Shares_m_usual := x_Shares_m_usual
    f_Shares_m_usual := F_Shares_m_usual
    me_Shares_m_usual := me_Shares_m_usual
    b_Shares_m_usual := FunD.bindsN (ps := ["self", "owner", "level"]) F_Shares_m_usual fun _ _ _ _ _ _ us hl => match us, hl with | [_, _, _], _ => rfl
    x_Shares_m_tell := x_Shares_m_tell
    f_Shares_m_tell := F_Shares_m_tell
    me_Shares_m_tell := me_Shares_m_tell
    b_Shares_m_tell := FunD.bindsN (ps := ["self", "owner", "viewer", "level"]) F_Shares_m_tell fun _ _ _ _ _ _ us hl => match us, hl with | [_, _, _, _], _ => rfl
    x_Shares_m_forget := x_Shares_m_forget
    f_Shares_m_forget := F_Shares_m_forget
    me_Shares_m_forget := me_Shares_m_forget
    b_Shares_m_forget := FunD.bindsN (ps := ["self", "owner", "viewer"]) F_Shares_m_forget fun _ _ _ _ _ _ us hl => match us, hl with | [_, _, _], _ => rfl
    x_Shares_m_level := x_Shares_m_level
    f_Shares_m_level := F_Shares_m_level
    me_Shares_m_level := me_Shares_m_level
    b_Shares_m_level := FunD.bindsN (ps := ["self", "owner", "viewer"]) F_Shares_m_level fun _ _ _ _ _ _ us hl => match us, hl with | [_, _, _], _ => rfl
    x_Shares_m_shown := x_Shares_m_shown
    f_Shares_m_shown := F_Shares_m_shown
    me_Shares_m_shown := me_Shares_m_shown
    b_Shares_m_shown := FunD.bindsN (ps := ["self", "owner", "viewer", "rows"]) F_Shares_m_shown fun _ _ _ _ _ _ us hl => match us, hl with | [_, _, _, _], _ => rfl
    x_Shares_m_viewers := x_Shares_m_viewers
    f_Shares_m_viewers := F_Shares_m_viewers
    me_Shares_m_viewers := me_Shares_m_viewers
    b_Shares_m_viewers := FunD.bindsN (ps := ["self", "owner"]) F_Shares_m_viewers fun _ _ _ _ _ _ us hl => match us, hl with | [_, _], _ => rfl
    a__law_draw := He.ga K "_law_draw"
    x__law_draw := x__law_draw
    f__law_draw := F__law_draw
    g__law_draw := g__law_draw
    b__law_draw := FunD.bindsN (ps := ["tape", "many"]) F__law_draw fun _ _ _ _ _ _ us hl => match us, hl with | [_, _], _ => rfl
    a__law_tape := He.ga K "_law_tape"
    x__law_tape := x__law_tape
    f__law_tape := F__law_tape
    g__law_tape := g__law_tape
    b__law_tape := FunD.bindsN (ps := ["script"]) F__law_tape fun _ _ _ _ _ _ us hl => match us, hl with | [_], _ => rfl
    a__law_names := He.ga K "_law_names"
    x__law_names := x__law_names
    f__law_names := F__law_names
    g__law_names := g__law_names
    b__law_names := FunD.bindsN (ps := ["tape", "many"]) F__law_names fun _ _ _ _ _ _ us hl => match us, hl with | [_, _], _ => rfl
    a__law_refused := He.ga K "_law_refused"
    x__law_refused := x__law_refused
    f__law_refused := F__law_refused
    g__law_refused := g__law_refused
    b__law_refused := FunD.bindsN (ps := ["shares", "way", "names", "level"]) F__law_refused fun _ _ _ _ _ _ us hl => match us, hl with | [_, _, _, _], _ => rfl
    a_law := He.ga K "law"
    x_law := x_law
    f_law := F_law
    g_law := g_law
    b_law := FunD.bindsN (ps := ["script"]) F_law fun _ _ _ _ _ _ us hl => match us, hl with | [_], _ => rfl
    c_Shares := c_Shares
    mk_Shares := mk_Shares
    g_Shares := g_Shares
    n_Shares__told := n_Shares__told
    n_Shares__usual := n_Shares__usual
    t_LETTERS := t_LETTERS
    g_LETTERS := g_LETTERS
    t_DIGITS := t_DIGITS
    g_DIGITS := g_DIGITS
    a_LEVELS := He.ga K "LEVELS"
    g_LEVELS := g_LEVELS
    d0_LEVELS := fun S => tabB_ok e_LEVELS S
    q_BadName := q_BadName
    g_BadName := g_BadName
    k_BadName := k_BadName
    b_BadName := isSome1_eq b_BadName
    t_BadName := isTyp_eq t_BadName
    e_BadName_BadName := isSome1_eq e_BadName_BadName
    m_all := m_all
    m_int := m_int
    m_len := m_len
    m_list := m_list
    m_range := m_range
    m_sorted := m_sorted }
  have b := FunD.bindsA (ps := ["script"]) F_law fun _ _ _ _ _ _ us hl => match us, hl with | [_], _ => rfl
  exact ⟨x_law, fun s v => b s [v] rfl, fun base _ _ => OK T⟩
section
variable {P : Program} {w : World} {K : Fg} {mg : Str → Option Value} {base : Heap}
theorem TF.r_LETTERS (T : TF K mg) : RelV (.str (Str.ofString "abcdefghijklmnopqrstuvwxyz")) (Value.str (Str.ofString "abcdefghijklmnopqrstuvwxyz") T.t_LETTERS) := ⟨_, rfl⟩
theorem TF.r_DIGITS (T : TF K mg) : RelV (.str (Str.ofString "0123456789")) (Value.str (Str.ofString "0123456789") T.t_DIGITS) := ⟨_, rfl⟩
theorem TF.r_LEVELS (T : TF K mg) : RelV (.ref T.a_LEVELS) (Value.ref T.a_LEVELS) := rfl
theorem TF.d_LEVELS (T : TF K mg) (S : Hp) {K2 : Fg} (e : K = K2) : Rp K2 S (.ref T.a_LEVELS) (D.tup [(D.str (Str.ofString "none")), (D.str (Str.ofString "busy")), (D.str (Str.ofString "all"))]) := e ▸ T.d0_LEVELS S
def cat_BadName : Str → Option Bool := fun c => if c = "BadName" then some true else none
theorem TF.ct_BadName (T : TF K mg) : ∀ (c : Str) (b : Bool), cat_BadName c = some b → PySem.W.exmOne K (clsV K c) (clsV K "BadName") = some b := by
  intro c b h
  unfold cat_BadName at h
  split at h
  · rename_i e; subst e; cases h; exact T.e_BadName_BadName
  cases h
theorem hu64 {k : Nat} {A : Around} (hr : Room k A) : A.units + 64 < cLine := hr.units
theorem hu1 {k : Nat} {A : Around} (hr : Room k A) : A.units + 1 < cLine := by have := hr.un; omega
theorem hu65 {k : Nat} {A : Around} (hr : Room k A) : A.units + 65 < cLine := by have := hr.un; omega
/-- an item of a row -/
theorem at_map {α : Type} {g : α → D} {xs : List α} {i : Int} {x : α} (h0 : 0 ≤ i) (h : xs[i.toNat]? = some x) : atI (xs.map g) i = some (g x) := atI_nn h0 (by rw [List.getElem?_map, h]; rfl)
theorem map_get {α : Type} {g : α → D} {xs : List α} {i : Nat} {d : D} (h : (xs.map g)[i]? = some d) : ∃ x, xs[i]? = some x ∧ d = g x := by
  rw [List.getElem?_map] at h
  cases e : xs[i]? with
  | none => rw [e] at h; cases h
  | some x => rw [e] at h; exact ⟨x, rfl, (Option.some.inj h).symm⟩
/-- the rows that a comprehension goes through, apart -/
theorem eLc_k {qi : QA} {g : QG} {qt : QT} {qe : QE} {vs : List Nat} {ρ : Ev} {M : Mu} {Q : Sl → Ev → Mu → Prop}
    (h : ∀ N : List D → Ev → Mu → Prop, (∀ ds ρ1 M1, eLc (fun ρ M Q => Q ds ρ M) g qt qe vs ρ1 M1 Q → N ds ρ1 M1) → qi ρ M N) : eLc qi g qt qe vs ρ M Q :=
  h _ fun _ _ _ w => w
/-- a test's answer, apart -/
theorem sIf_k {c : QT} {t u : QS} {D' : QK} {ρ : Ev} {M : Mu} (h : ∀ N : Bool → Ev → Mu → Prop, (∀ b ρ M, (if b = true then t D' ρ M else u D' ρ M) → N b ρ M) → c ρ M N) : sIf c t u D' ρ M := h _ fun _ _ _ w => w
/-- a comprehension told by a property of what is gathered -/
theorem eLc_inv {β : Type} (g' : β → D) (I : Nat → List β → Prop) {qi : QA} {g : QG} {qt : QT} {qe : QE} {vs : List Nat} {ρ0 : Ev} {M0 : Mu} {Q : Sl → Ev → Mu → Prop} (ds : List D) (ρ : Ev) (M : Mu)
    (hq : ∀ Q : List D → Ev → Mu → Prop, Q ds ρ M → qi ρ0 M0 Q) (hv : notOw ρ vs = true) (h0 : I 0 [])
    (hs : ∀ (i : Nat) (d : D) (bs : List β) (J : List D → Mu → Prop), ds[i]? = some d → I i bs → (∀ cs, I (i + 1) cs → J (cs.map g') M) → g d (wipeE ρ vs) fun ρ2 => wipeE ρ2 vs = wipeE ρ vs ∧ qt ρ2 M fun b ρ3 M3 => ρ3 = ρ2 ∧
      (if b = true then qe ρ3 M3 fun r ρ4 M4 => ρ4 = ρ3 ∧ (bs.map g').length < 16777216 ∧ J (bs.map g' ++ [r.val]) M4 else J (bs.map g') M3))
    (hk : ∀ bs : List β, I ds.length bs → Q (.ow (.lst (bs.map g'))) ρ M) : eLc qi g qt qe vs ρ0 M0 Q := by
  refine hq _ ⟨hv, fun i acc M' => M' = M ∧ ∃ bs : List β, acc = bs.map g' ∧ I i bs, ⟨rfl, [], rfl, h0⟩, ?_, ?_⟩
  · rintro i d acc M' hd ⟨rfl, bs, rfl, hI⟩
    exact hs i d bs (fun acc M2 => M2 = M' ∧ ∃ bs : List β, acc = bs.map g' ∧ I (i + 1) bs) hd hI fun cs hc => ⟨rfl, cs, rfl, hc⟩
  · rintro acc M' ⟨rfl, bs, rfl, hI⟩
    exact hk bs hI
def ltrs : List Nat := (Str.ofString "abcdefghijklmnopqrstuvwxyz").cps.toList
def dgts : List Nat := (Str.ofString "0123456789").cps.toList
/-- the text is a name -/
def nameB (x : Str) : Bool := (decide (1 ≤ x.length) && decide (x.length ≤ 20)) && (match x.cps.toList with | c :: _ => decide (c ∈ ltrs) | [] => false) && x.cps.toList.all fun c => decide (c ∈ ltrs) || decide (c ∈ dgts)
def pool0 : List Str := ["ann", "bob", "cy", "dee", "eve2", "x9"].map Str.ofString
theorem map_erase {α β : Type} {f : α → β} : ∀ {l : List α} {i : Nat}, (l.eraseIdx i).map f = (l.map f).eraseIdx i
  | [], _ => rfl
  | _ :: _, 0 => rfl
  | x :: l, i + 1 => by rw [List.map_cons, List.eraseIdx_cons_succ, List.eraseIdx_cons_succ, List.map_cons, map_erase]
theorem erase_perm {α : Type} {p : α} : ∀ {l : List α} {i : Nat}, l[i]? = some p → (p :: l.eraseIdx i).Perm l
  | [], _, h => by simp at h
  | x :: l, 0, h => by simp at h; subst h; exact .refl _
  | x :: l, i + 1, h => by
    have ih := erase_perm (l := l) (i := i) (by simpa using h)
    rw [List.eraseIdx_cons_succ]
    exact (List.Perm.swap x p _).trans (ih.cons x)

def p_is_name : PSp := fun ds M Q _ => match ds with
  | [.str x] => x.length ≤ 100000 ∧ Q (.va (.bl (nameB x))) M
  | _ => False

def sShares : Str := Str.ofString "Shares"
def shF : List Str := [Str.ofString "_told", Str.ofString "_usual"]
/-- an object of shares at x: its dicts at a and b -/
def ShAt (M : Mu) (x a b : Addr) (lt : List (List Key × D)) (lu : List (Key × D)) : Prop := M.lookup x = some (.ins sShares shF [.ref a, .ref b]) ∧ M.lookup a = some (.dit lt) ∧ M.lookup b = some (.dic lu)
def lvls : List Str := [Str.ofString "none", Str.ofString "busy", Str.ofString "all"]
/-- what the viewer sees of the owner -/
def levD (lt : List (List Key × D)) (lu : List (Key × D)) (o v : Str) : D := if o = v then .str (Str.ofString "all") else ((gK lt [Sum.inr o, Sum.inr v]).getD ((gK lu (Sum.inr o)).getD (.str (Str.ofString "busy"))))
/-- levels alone stand in the dicts -/
def LvOk (lt : List (List Key × D)) (lu : List (Key × D)) : Prop := (∀ k d, gK lt k = some d → ∃ l ∈ lvls, d = .str l) ∧ ∀ k d, gK lu k = some d → ∃ l ∈ lvls, d = .str l
/-- those of whom the owner told something -/
def vwK (o : Str) : List Key → Option D
  | [.inr o', .inr v] => if o' = o then some (.str v) else none
  | _ => none
/-- the keys are pairs of names -/
def PrKeys (ns : List Str) (lt : List (List Key × D)) : Prop := ∀ k ∈ lt.map (·.1), ∃ o ∈ ns, ∃ v ∈ ns, k = [Sum.inr o, Sum.inr v]
/-- a row of a day sheet -/
def hideD : D → Option D
  | .tup [a, b, _] => some (.tup [a, b, .non])
  | _ => none
def shownL (l : D) (rs : List D) : List D := match l with
  | .str x => if x = Str.ofString "none" then [] else if x = Str.ofString "all" then rs else rs.filterMap hideD
  | _ => []
theorem sortOk_strs {xs : List Str} : SortOk (xs.map D.str) := by
  refine ⟨?_, ?_, .inr ?_, ?_⟩
  · induction xs with
    | nil => rfl
    | cons x xs ih => rw [List.map_cons]; simp [isPureA, isPure, ih]
  · intro d hd d' hd'
    obtain ⟨a, ha, rfl⟩ := List.mem_map.mp hd
    obtain ⟨x, _, rfl⟩ := List.mem_map.mp ha
    obtain ⟨a', ha', rfl⟩ := List.mem_map.mp hd'
    obtain ⟨x', _, rfl⟩ := List.mem_map.mp ha'
    simp [toPy, PySem.W.alike]
  · intro d hd
    obtain ⟨a, ha, rfl⟩ := List.mem_map.mp hd
    obtain ⟨x, _, rfl⟩ := List.mem_map.mp ha
    exact ⟨by simp [toPy], fun ys => by simp [toPy]⟩
  · intro d hd
    obtain ⟨x, _, rfl⟩ := List.mem_map.mp hd
    simp [toPy, PyData.depth]
theorem so_none : PyData.strOk (Str.ofString "none") = true := by decide +kernel
theorem so_busy : PyData.strOk (Str.ofString "busy") = true := by decide +kernel
theorem so_all : PyData.strOk (Str.ofString "all") = true := by decide +kernel
theorem any3 {a b c l : Str} : ([D.str a, D.str b, D.str c].any fun x => deq x (D.str l)) = decide (l = a ∨ l = b ∨ l = c) := by
  rw [List.any_cons, List.any_cons, List.any_cons, List.any_nil, deq_str, deq_str, deq_str, Bool.eq_iff_iff, Bool.or_eq_true, Bool.or_eq_true, Bool.or_eq_true, decide_eq_true_eq, decide_eq_true_eq, decide_eq_true_eq, decide_eq_true_eq]
  constructor
  · rintro (w | w | w | w)
    · exact .inl w.symm
    · exact .inr (.inl w.symm)
    · exact .inr (.inr w.symm)
    · cases w
  · rintro (w | w | w)
    · exact .inl w.symm
    · exact .inr (.inl w.symm)
    · exact .inr (.inr (.inl w.symm))
theorem mem_lv {l : Str} : l ∈ lvls ↔ l = Str.ofString "none" ∨ l = Str.ofString "busy" ∨ l = Str.ofString "all" := by
  unfold lvls
  rw [List.mem_cons, List.mem_cons, List.mem_singleton]
theorem any_lv {l : Str} : ([D.str (Str.ofString "none"), D.str (Str.ofString "busy"), D.str (Str.ofString "all")].any fun x => deq x (D.str l)) = decide (l ∈ lvls) := by
  rw [any3, Bool.eq_iff_iff, decide_eq_true_eq, decide_eq_true_eq, mem_lv]
theorem look_ne {a b : Addr} {u : MO} {M : Mu} (h : a ≠ b) : List.lookup a ((b, u) :: M) = List.lookup a M := by
  rw [List.lookup, beq_false_of_ne h]
theorem look_eq {a : Addr} {u : MO} {M : Mu} : List.lookup a ((a, u) :: M) = some u := by simp [List.lookup]
theorem mput_cons {a b : Addr} {u o : MO} {M : Mu} : mput ((b, u) :: M) a o = (if b = a then (a, o) else (b, u)) :: mput M a o := rfl
theorem mput_none {a : Addr} {o : MO} {M : Mu} (h : ∀ q ∈ M, q.1 ≠ a) : mput M a o = M := by
  unfold mput
  conv => rhs; rw [← List.map_id M]
  exact List.map_congr_left fun q hq => by rw [if_neg (h q hq)]; rfl
theorem sh_f0 : shF[0]? = some (Str.ofString "_told") := rfl
theorem sh_f1 : shF[1]? = some (Str.ofString "_usual") := rfl
theorem sh_nm : (sShares = Str.ofString "Shares") = True := eq_true rfl
theorem sh_no1 : shF.contains (Str.ofString "level") = false := by decide +kernel
theorem sh_no2 : shF.contains (Str.ofString "usual") = false := by decide +kernel
theorem sh_no3 : shF.contains (Str.ofString "tell") = false := by decide +kernel
theorem sh_no4 : shF.contains (Str.ofString "forget") = false := by decide +kernel
theorem sh_no5 : shF.contains (Str.ofString "viewers") = false := by decide +kernel
theorem sh_no6 : shF.contains (Str.ofString "shown") = false := by decide +kernel
theorem mput_head {x : Addr} {o o' : MO} {M : Mu} (h : ∀ q ∈ M, q.1 ≠ x) : mput ((x, o) :: M) x o' = (x, o') :: M := by rw [mput_cons, if_pos rfl, mput_none h]
theorem lookup_mput_ne {x a : Addr} {o : MO} (h : x ≠ a) : ∀ {M : Mu}, (mput M a o).lookup x = M.lookup x
  | [] => rfl
  | (b, u) :: M => by
    rw [mput_cons]
    by_cases c : b = a
    · subst c
      rw [if_pos rfl, look_ne h, look_ne h, lookup_mput_ne h]
    · rw [if_neg c]
      by_cases c2 : x = b
      · subst c2
        rw [look_eq, look_eq]
      · rw [look_ne c2, look_ne c2, lookup_mput_ne h]
theorem lookup_mput_eq {a : Addr} {o u : MO} : ∀ {M : Mu}, M.lookup a = some u → (mput M a o).lookup a = some o
  | [], h => by cases h
  | (b, w) :: M, h => by
    rw [mput_cons]
    by_cases c : b = a
    · rw [if_pos c, look_eq]
    · rw [if_neg c, look_ne (Ne.symm c)]
      rw [look_ne (Ne.symm c)] at h
      exact lookup_mput_eq h
theorem mput_mput {a : Addr} {o o' : MO} {M : Mu} : mput (mput M a o) a o' = mput M a o' := by
  unfold mput
  rw [List.map_map]
  refine List.map_congr_left fun q _ => ?_
  show (if (if q.1 = a then (a, o) else q).1 = a then _ else _) = _
  by_cases c : q.1 = a
  · simp only [if_pos c, if_true]
  · simp only [if_neg c]
theorem mput_self {a : Addr} {o : MO} : ∀ {M : Mu}, (M.map (·.1)).Nodup → M.lookup a = some o → mput M a o = M
  | [], _, h => by cases h
  | (b, w) :: M, hn, h => by
    rw [List.map_cons, List.nodup_cons] at hn
    rw [mput_cons]
    by_cases c : b = a
    · subst c
      rw [look_eq] at h
      cases h
      rw [if_pos rfl, mput_none fun q hq e => hn.1 (by rw [← e]; exact List.mem_map.mpr ⟨q, hq, rfl⟩)]
    · rw [if_neg c]
      rw [look_ne (Ne.symm c)] at h
      rw [mput_self hn.2 h]
theorem eLcT_inv (f : List Key → Option D) {qa : QB} {gs : QGs} {n : Nat} {qt : QT} {qe : QE} {vs : List Nat} {ρ : Ev} {M : Mu} {Q : Sl → Ev → Mu → Prop} {a : Addr} {o : Obj} {kvs : List (List Key × V)} {l : List (List Key × D)}
    (hq : ∀ Q' : D → Ev → Mu → Prop, Q' (.ref a) ρ M → qa ρ M Q') (hl : M.lookup a = some (.ditL o kvs l)) (hv : notOw ρ vs = true) (hlen : l.length < 16777216)
    (hs : ∀ (k : List Key) (acc : List D) (J : List D → Mu → Prop), k ∈ l.map (·.1) → acc.length < 16777216 → J (acc ++ (f k).toList) M → k.length = n ∧ gs (k.map kD) (wipeE ρ vs) fun ρ2 => wipeE ρ2 vs = wipeE ρ vs ∧ qt ρ2 M fun b ρ3 M3 => ρ3 = ρ2 ∧
      (if b = true then qe ρ3 M3 fun r ρ4 M4 => ρ4 = ρ3 ∧ acc.length < 16777216 ∧ J (acc ++ [r.val]) M4 else J acc M3))
    (hk : Q (.ow (.lst ((l.map (·.1)).filterMap f))) ρ M) : eLcT qa gs n qt qe vs ρ M Q := by
  unfold eLcT
  refine hq _ ?_
  dsimp only
  rw [hl]
  refine ⟨hv, fun i acc M' => M' = M ∧ i ≤ l.length ∧ acc = ((l.map (·.1)).take i).filterMap f, ⟨rfl, Nat.zero_le _, rfl⟩, ?_, ?_⟩
  · rintro i k acc M' hi ⟨rfl, hil, rfl⟩
    have hlt := (List.getElem?_eq_some_iff.mp hi).1
    rw [List.length_map] at hlt
    have hal : (((l.map (·.1)).take i).filterMap f).length < 16777216 := by
      have h1 := List.length_filterMap_le f ((l.map (·.1)).take i)
      rw [List.length_take] at h1
      omega
    obtain ⟨h1, h2⟩ := hs k _ (fun acc M2 => M2 = M' ∧ i + 1 ≤ l.length ∧ acc = ((l.map (·.1)).take (i + 1)).filterMap f) (List.mem_of_getElem? hi) hal ⟨rfl, by omega, by
      rw [List.take_add_one, hi, List.filterMap_append]
      cases e : f k <;> simp [e]⟩
    exact ⟨⟨hl, h1⟩, h2⟩
  · rintro acc M' ⟨rfl, _, rfl⟩
    have e : (l.map (·.1)).take l.length = l.map (·.1) := by rw [← List.length_map (f := fun p : List Key × D => p.1), List.take_length]
    rw [e]
    exact ⟨hl, hk⟩
theorem vwK_pr {o o' v : Str} : vwK o [Sum.inr o', Sum.inr v] = if o' = o then some (.str v) else none := rfl
theorem shownL_str {l : Str} {rs : List D} : shownL (.str l) rs = if l = Str.ofString "none" then [] else if l = Str.ofString "all" then rs else rs.filterMap hideD := rfl
theorem vw_strs {o : Str} {ns : List Str} : ∀ {ks : List (List Key)}, (∀ k ∈ ks, ∃ o ∈ ns, ∃ v ∈ ns, k = [Sum.inr o, Sum.inr v]) → ∃ xs : List Str, ks.filterMap (vwK o) = xs.map D.str ∧ ∀ x ∈ xs, x ∈ ns
  | [], _ => ⟨[], rfl, by simp⟩
  | k :: ks, h => by
    obtain ⟨xs, e, hx⟩ := vw_strs (o := o) fun k hk => h k (List.mem_cons_of_mem _ hk)
    obtain ⟨o', ho, v, hv, rfl⟩ := h k List.mem_cons_self
    rw [List.filterMap_cons, vwK_pr, e]
    by_cases c : o' = o
    · rw [if_pos c]
      refine ⟨v :: xs, rfl, fun x w => ?_⟩
      rcases List.mem_cons.mp w with rfl | w
      · exact hv
      · exact hx x w
    · rw [if_neg c]
      exact ⟨xs, rfl, hx⟩
theorem gK_dK {κ : Type} [DecidableEq κ] {k j : κ} : ∀ {l : List (κ × D)}, gK (dK l k) j = if j = k then none else gK l j
  | [] => by
    show gK [] j = _
    rw [gK_nil]
    split <;> rfl
  | p :: l => by
    have ih := gK_dK (k := k) (j := j) (l := l)
    unfold dK at ih ⊢
    rw [List.filter_cons]
    by_cases c : p.1 = k
    · rw [if_neg (by simp [c]), ih, gK_cons]
      by_cases c2 : j = k
      · rw [if_pos c2, if_pos c2]
      · rw [if_neg c2, if_neg c2, if_neg fun e => c2 (e.symm.trans c)]
    · rw [if_pos (by simp [c]), gK_cons, gK_cons, ih]
      by_cases c2 : j = k
      · rw [if_pos c2, if_pos c2, if_neg fun e => c (e.trans c2)]
      · rw [if_neg c2, if_neg c2]
theorem keys_pK {κ : Type} [DecidableEq κ] {k j : κ} {d : D} {l : List (κ × D)} (h : j ∈ (pK l k d).map (·.1)) : j ∈ l.map (·.1) ∨ j = k := by
  unfold pK at h
  split at h
  · rw [List.map_map] at h
    obtain ⟨p, hp, rfl⟩ := List.mem_map.mp h
    refine .inl (List.mem_map.mpr ⟨p, hp, ?_⟩)
    show p.1 = (if p.1 = k then (p.1, d) else p).1
    split <;> rfl
  · rw [List.map_append] at h
    rcases List.mem_append.mp h with w | w
    · exact .inl w
    · exact .inr (by simpa using w)
theorem keys_dK {κ : Type} [DecidableEq κ] {k j : κ} {l : List (κ × D)} (h : j ∈ (dK l k).map (·.1)) : j ∈ l.map (·.1) := by
  obtain ⟨p, hp, rfl⟩ := List.mem_map.mp h
  exact List.mem_map.mpr ⟨p, (List.mem_filter.mp hp).1, rfl⟩
theorem dK_length {κ : Type} [DecidableEq κ] {k : κ} {l : List (κ × D)} : (dK l k).length ≤ l.length := List.length_filter_le _ _
/-- what the told and the usual levels are -/
structure ShI (ns : List Str) (n : Nat) (lt : List (List Key × D)) (lu : List (Key × D)) : Prop where
  lv : LvOk lt lu
  pr : PrKeys ns lt
  lt : lt.length ≤ n
  lu : lu.length ≤ n
theorem ShI.usual {ns : List Str} {n : Nat} {lt : List (List Key × D)} {lu : List (Key × D)} {o l : Str} (h : ShI ns n lt lu) (hl : l ∈ lvls) : ShI ns (n + 1) lt (pK lu (Sum.inr o) (.str l)) := by
  refine ⟨⟨h.lv.1, fun k d e => ?_⟩, h.pr, Nat.le_succ_of_le h.lt, Nat.le_trans pK_length (by have := h.lu; omega)⟩
  rw [gK_pK] at e
  split at e
  · cases e; exact ⟨l, hl, rfl⟩
  · exact h.lv.2 k d e
theorem ShI.tell {ns : List Str} {n : Nat} {lt : List (List Key × D)} {lu : List (Key × D)} {o v l : Str} (h : ShI ns n lt lu) (hl : l ∈ lvls) (ho : o ∈ ns) (hv : v ∈ ns) : ShI ns (n + 1) (pK lt [Sum.inr o, Sum.inr v] (.str l)) lu := by
  refine ⟨⟨fun k d e => ?_, h.lv.2⟩, fun k hk => ?_, Nat.le_trans pK_length (by have := h.lt; omega), Nat.le_succ_of_le h.lu⟩
  · rw [gK_pK] at e
    split at e
    · cases e; exact ⟨l, hl, rfl⟩
    · exact h.lv.1 k d e
  · rcases keys_pK hk with w | w
    · exact h.pr k w
    · exact ⟨o, ho, v, hv, w⟩
theorem ShI.drop {ns : List Str} {n : Nat} {lt : List (List Key × D)} {lu : List (Key × D)} {k : List Key} (h : ShI ns n lt lu) : ShI ns (n + 1) (dK lt k) lu := by
  refine ⟨⟨fun j d e => ?_, h.lv.2⟩, fun j hj => h.pr j (keys_dK hj), Nat.le_trans dK_length (Nat.le_succ_of_le h.lt), Nat.le_succ_of_le h.lu⟩
  rw [gK_dK] at e
  split at e
  · cases e
  · exact h.lv.1 j d e
theorem ShI.keep {ns : List Str} {n : Nat} {lt : List (List Key × D)} {lu : List (Key × D)} (h : ShI ns n lt lu) : ShI ns (n + 1) lt lu := ⟨h.lv, h.pr, Nat.le_succ_of_le h.lt, Nat.le_succ_of_le h.lu⟩
theorem pool_name {n : Str} (h : n ∈ pool0) : nameB n = true ∧ PyData.strOk n = true ∧ n.length ≤ 100000 := by
  have key : pool0.all (fun n => nameB n && PyData.strOk n && decide (n.length ≤ 100000)) = true := by decide +kernel
  have := List.all_eq_true.mp key n h
  simp only [Bool.and_eq_true, decide_eq_true_eq] at this
  exact ⟨this.1.1, this.1.2, this.2⟩
theorem lv_so {l : Str} (h : l ∈ lvls) : PyData.strOk l = true := by
  rcases mem_lv.mp h with w | w | w <;> rw [w] <;> decide +kernel
theorem at_strs {ns : List Str} {r : Int} (h0 : 0 ≤ r) (h1 : r < ns.length) : ∃ o ∈ ns, atI (ns.map D.str) r = some (.str o) := by
  obtain ⟨o, ho⟩ : ∃ o, ns[r.toNat]? = some o := ⟨_, List.getElem?_eq_getElem (by omega)⟩
  exact ⟨o, List.mem_of_getElem? ho, at_map h0 ho⟩
theorem deqA_refl' {ds : List D} (h : CkAl 63 ds) : deqA ds ds = true := deq_lst.symm.trans (deq_refl (cmpOk_lstA.mpr h))
def evD : D := .tup [.str (Str.ofString "event"), .str (Str.ofString "ann"), .str (Str.ofString "m")]
def rwD (p : Int × Bool) : D := .tup [.int p.1, .int (p.1 + 5), if p.2 = true then evD else .non]
theorem ShI.lev {ns : List Str} {n : Nat} {lt : List (List Key × D)} {lu : List (Key × D)} (h : ShI ns n lt lu) (o v : Str) : ∃ l, levD lt lu o v = .str l ∧ l ∈ lvls := by
  unfold levD
  split
  · exact ⟨_, rfl, mem_lv.mpr (.inr (.inr rfl))⟩
  · cases e : gK lt [Sum.inr o, Sum.inr v] with
    | some d => obtain ⟨l, h1, rfl⟩ := h.lv.1 _ _ e; exact ⟨l, rfl, h1⟩
    | none =>
      cases e2 : gK lu (Sum.inr o) with
      | some d => obtain ⟨l, h1, rfl⟩ := h.lv.2 _ _ e2; exact ⟨l, rfl, h1⟩
      | none => exact ⟨_, rfl, mem_lv.mpr (.inr (.inl rfl))⟩
theorem gK_disp {l : Str} (h : l ∈ lvls) {A B C : List D} : gK (pK (pK (pK [] (Sum.inr (Str.ofString "none")) (D.lst A)) (Sum.inr (Str.ofString "busy")) (.lst B)) (Sum.inr (Str.ofString "all")) (.lst C)) (Sum.inr l : Key) = some (.lst (if l = Str.ofString "none" then A else if l = Str.ofString "all" then C else B)) := by
  rw [gK_pK, gK_pK, gK_pK, gK_nil]
  have e1 : ¬ (Str.ofString "none" = Str.ofString "all") := by decide +kernel
  have e2 : ¬ (Str.ofString "none" = Str.ofString "busy") := by decide +kernel
  have e3 : ¬ (Str.ofString "busy" = Str.ofString "all") := by decide +kernel
  have e4 : ¬ (Str.ofString "busy" = Str.ofString "none") := by decide +kernel
  have e5 : ¬ (Str.ofString "all" = Str.ofString "none") := by decide +kernel
  simp only [Sum.inr.injEq]
  rcases mem_lv.mp h with w | w | w <;> rw [w]
  · rw [if_neg e1, if_neg e2, if_pos rfl, if_pos rfl]
  · rw [if_neg e3, if_pos rfl, if_neg e4, if_neg e3]
  · rw [if_pos rfl, if_neg e5, if_pos rfl]
theorem ck_shown {l : Str} {rows : List (Int × Bool)} : CkAl 63 (shownL (.str l) (rows.map rwD)) := by
  have hev : Ck 62 evD := by
    refine ck_tup.mpr fun d hd => ?_
    rcases List.mem_cons.mp hd with rfl | hd
    · exact ck_str (by decide +kernel)
    rcases List.mem_cons.mp hd with rfl | hd
    · exact ck_str (by decide +kernel)
    rw [List.mem_singleton.mp hd]
    exact ck_str (by decide +kernel)
  rw [shownL_str]
  split
  · exact ckAl_nil
  split
  · intro d hd
    obtain ⟨⟨k, e⟩, _, rfl⟩ := List.mem_map.mp hd
    refine ck_tup.mpr fun d hd => ?_
    rcases List.mem_cons.mp hd with rfl | hd
    · exact ck_int
    rcases List.mem_cons.mp hd with rfl | hd
    · exact ck_int
    rw [List.mem_singleton.mp hd]
    cases e with
    | true => exact hev
    | false => exact ck_non
  · intro d hd
    obtain ⟨c, hc, e⟩ := List.mem_filterMap.mp hd
    obtain ⟨⟨k, b⟩, _, rfl⟩ := List.mem_map.mp hc
    unfold rwD hideD at e
    cases e
    refine ck_tup.mpr fun d hd => ?_
    rcases List.mem_cons.mp hd with rfl | hd
    · exact ck_int
    rcases List.mem_cons.mp hd with rfl | hd
    · exact ck_int
    rw [List.mem_singleton.mp hd]
    exact ck_non

def p_Shares_m___init__ : PSp := fun ds M Q _ => match ds with
  | [.ref x] => ∃ M0 : Mu, M = (x, .ins sShares [] []) :: M0 ∧ (∀ q ∈ M0, q.1 ≠ x) ∧ ∀ a b : Addr, a ≠ x → b ≠ x → b ≠ a → (∀ q ∈ M0, q.1 ≠ a) → (∀ q ∈ M0, q.1 ≠ b) → Q (.va .non) ((b, .dic []) :: (a, .dit []) :: (x, .ins sShares shF [.ref a, .ref b]) :: M0)
  | _ => False


def p_Shares_m_forget : PSp := fun ds M Q _ => match ds with
  | [.ref x, .str o, .str v] => ∃ a b lt lu, ShAt M x a b lt lu ∧ Q (.va .non) (match gK lt [Sum.inr o, Sum.inr v] with | some _ => mput M a (.dit (dK lt [Sum.inr o, Sum.inr v])) | none => M)
  | _ => False


def p_Shares_m_level : PSp := fun ds M Q _ => match ds with
  | [.ref x, .str o, .str v] => ∃ a b lt lu, ShAt M x a b lt lu ∧ LvOk lt lu ∧ (PyData.strOk o = true ∧ PyData.strOk v = true) ∧ Q (.va (levD lt lu o v)) M
  | _ => False


def p_Shares_m_viewers : PSp := fun ds M Q _ => match ds with
  | [.ref x, .str o] => ∃ a b lt lu ns, ShAt M x a b lt lu ∧ (PrKeys ns lt ∧ (∀ n ∈ ns, PyData.strOk n = true) ∧ PyData.strOk o = true ∧ lt.length < 60 ∧ (M.map (·.1)).Nodup) ∧ Q (.ow (.lst (((lt.map (·.1)).filterMap (vwK o)).mergeSort leD))) M
  | _ => False

theorem em0 {a n : Int} (h : 1 ≤ n) : 0 ≤ a % n := Int.emod_nonneg _ (by omega)
theorem em1 {a n : Int} (h : 1 ≤ n) : a % n < n := Int.emod_lt_of_pos _ (by omega)
theorem ed0 {a n : Int} (h : 1 ≤ n) (ha : 0 ≤ a) : 0 ≤ a / n := Int.ediv_nonneg ha (by omega)


def p_Shares_m_usual : PSp := fun ds M Q E => match ds with
  | [.ref x, .str o, .str l] => ∃ a b lt lu, ShAt M x a b lt lu ∧ (o.length ≤ 100000 ∧ PyData.strOk l = true ∧ lu.length < 16777216) ∧ (nameB o = true ∧ l ∈ lvls → Q (.va .non) (mput M b (.dic (pK lu (Sum.inr o) (.str l))))) ∧ (¬ (nameB o = true ∧ l ∈ lvls) → E (Str.ofString "BadName") [] M)
  | _ => False


def p_Shares_m_tell : PSp := fun ds M Q E => match ds with
  | [.ref x, .str o, .str v, .str l] => ∃ a b lt lu, ShAt M x a b lt lu ∧ (o.length ≤ 100000 ∧ v.length ≤ 100000 ∧ PyData.strOk l = true ∧ lt.length < 16777216) ∧ (nameB o = true ∧ nameB v = true ∧ l ∈ lvls → Q (.va .non) (mput M a (.dit (pK lt [Sum.inr o, Sum.inr v] (.str l))))) ∧ (¬ (nameB o = true ∧ nameB v = true ∧ l ∈ lvls) → E (Str.ofString "BadName") [] M)
  | _ => False


def p_Shares_m_shown : PSp := fun ds M Q _ => match ds with
  | [.ref x, .str o, .str v, .lst rs] => ∃ a b lt lu, ShAt M x a b lt lu ∧ LvOk lt lu ∧ (PyData.strOk o = true ∧ PyData.strOk v = true ∧ rs.length < 1000000 ∧ ∀ r ∈ rs, ∃ p q t, r = .tup [p, q, t]) ∧ Q (.ow (.lst (shownL (levD lt lu o v) rs))) M
  | _ => False


def p__law_names : PSp := fun ds M Q _ => match ds with
  | [.ref T, .int many] => ((T, MO.tape) ∈ M ∧ 0 ≤ many ∧ many ≤ 6) ∧ ∀ ns : List Str, ns.Nodup → (∀ n ∈ ns, n ∈ pool0) → (ns.length : Int) = many → Q (.ow (.lst (ns.map D.str))) M
  | _ => False

def p__law_refused : PSp := fun ds M Q _ => match ds with
  | [.ref x, .int way, .tup [.str o, .str v], .str l] => ∃ a b lt lu, ShAt M x a b lt lu ∧ ((way = 0 ∨ way = 1) ∧ o.length ≤ 100000 ∧ v.length ≤ 100000 ∧ PyData.strOk l = true ∧ lt.length < 16777216 ∧ lu.length < 16777216) ∧
      (¬ (nameB o = true ∧ (way = 1 → nameB v = true) ∧ l ∈ lvls)) ∧ Q (.va (.bl true)) M
  | _ => False

local macro_rules | `(tactic| walk_at "go") => `(tactic| repeat' (first | assumption | with_reducible apply And.intro | walk_at "cs"))
local macro_rules | `(tactic| walk_at "ex") => `(tactic| simp only [List.cons.injEq, Sl.va.injEq, Sl.ow.injEq, Ow.lst.injEq, D.int.injEq, D.bl.injEq, D.str.injEq, D.lst.injEq, D.tup.injEq, true_and, and_true])
local macro_rules | `(tactic| walk_at "gn") => `(tactic| simp only [↓gN, ↓gsNil, ↓gsCons, ↓gT, ↓gSq, List.length_cons, List.length_nil, Nat.reduceAdd, true_and, List.set_cons_zero, List.set_cons_succ])
local macro_rules | `(tactic| walk_at "sp") => `(tactic| repeat' (first | split | with_reducible apply And.intro))
local macro_rules | `(tactic| walk_at "cs") => `(tactic| first | (unfold CMulP; omega) | (unfold CPowP; omega) | (unfold CModP; omega) | (unfold CDivP; omega))
local macro_rules | `(tactic| walk_at "pl") => `(tactic| simp only [↓sSeq, ↓sRet, ↓sRetN, ↓sIf, ↓sDrop, ↓sNext, ↓eVar, ↓bVar, ↓bE, ↓eBin, ↓tE, ↓eChain_eq, chS_bl, chS_true, chS_false, wipeE_nil, wipeE_cons, ↓qOr, ↓qNot, ↓eOr_eq, ↓aNil, ↓aConsB, Option.isSome_some, lk_int, lk_str, ↓dIxS, ↓dInS, ↓iStrD, chOf_ch, mgK, List.foldl_cons, List.foldl_nil, ↓gN, ↓dI2, ↓eB, ↓cLen, ↓cAll, natc0, natc1, natc2, List.findIdx?_cons, List.findIdx?_nil, intsOf_ints, boolsOf_bls, plAnyI, plAnyR, ↓Sl.val, ↓Ow.toD, ↓stE, ↓tYes', ↓PL.isNon, ↓eC, ↓bC, ↓dLe, List.getElem?_cons_zero, List.getElem?_cons_succ, List.set_cons_zero, List.set_cons_succ, List.map_cons, List.map_nil, List.length_cons, List.length_nil, List.nil_append, List.cons_append, List.replicate_succ, List.replicate_zero, List.append_nil, atI0, atI1, atI2, atI3, atI4, cmpOk_int, cmpOk_bl, cmpOk_non, deq_int, deq_bl, true_and, and_true, Nat.reduceAdd, Nat.reduceSub, Nat.reduceLeDiff, Nat.reduceLT, Bool.not_eq_true', Bool.false_eq_true, if_false, if_true, decide_eq_true_eq, decide_eq_false_iff_not, Nat.zero_add, Nat.sub_zero, Nat.add_zero, Nat.sub_self, ixN31, ixN32, List.length_map, List.length_set, Int.reduceToNat, Int.reducePow, Int.reduceNeg, Int.reduceAdd, Int.reduceSub, Int.reduceMul, Int.reduceLT, Int.reduceLE, Int.reduceEq, Nat.reduceEqDiff, reduceCtorEq, List.mem_singleton, eq_self, not_true_eq_false, not_false_eq_true, or_true, true_or, cmpOk_lstA, cmpOk_tupA, ckA_lst, ckA_tup, ckAl_nil, ckAl_cons, ckAl_ints, ckAl_rangeL, ck_int, ck_bl, ck_non, ck_strI, cmpOk_str, deq_str, deq_tup, deq_lst, deqA_nil, deqA_cons, deqA_ints, Bool.and_true, Bool.true_and, Bool.and_false, Bool.false_and, decide_true, decide_false, Bool.not_true, Bool.not_false, cat_BadName])
theorem ok_is_name (T : TF K mg) : FnOk P w K mg base CX0 1 T.a_is_name T.x_is_name ["text"] (liP K p_is_name) := by
  refine fn_P T.f_is_name sc_is_name (by intro ds M Q E h; unfold p_is_name at h; split at h <;> first | rfl | exact h.elim) (fun cdv A outer s H E z hz hr => (qs_cons (qs_if (PW.pt (qw_or (qt_not (qt_chain ob_le ob_le qb_int (qb_of (qe_callB cb_len (by rfl) T.m_len (by decide +kernel) (qab_cons (qb_var 0) qab_nil))) qb_int)) (qw_or1 (qt_cmp ob_notInS (qb_of (qe_ixS (qb_var 0) qb_int)) (qb_of (qe_con (pe_glob (by rfl) T.g_LETTERS T.r_LETTERS) (fun _ => by first | exact Rp.int _ | exact Rp.str _ | exact T.d_LETTERS _ (by first | assumption | rfl)))) (by with_unfolding_all rfl)))))
    (qs_end (qs_ret qe_bl))
    qs_nil)
    (qs_end (qs_ret (qe_callB (cb_all rfl) (by rfl) T.m_all (by decide +kernel) (qab_cons (qb_of (qe_lc rfl sc_is_name.nd (own := [("sign", 1)]) (qi_str (qe_var 0)) (blkOk_by (own := [("sign", 1)]) (N := N_is_name) (sc := defScope s_is_name) (by decide +kernel)) (fun _ _ _ _ _ z hz => (qg_name (i := 1) sc_is_name.nd rfl (by first | exact Or.inl rfl | exact Or.inr rfl))) (fun _ _ _ _ _ => an_t0) (fun _ _ _ _ _ z hz => (qe_or (qe_cmp ob_inS (qb_var 1) (qb_of (qe_con (pe_glob (by rfl) T.g_LETTERS T.r_LETTERS) (fun _ => by first | exact Rp.int _ | exact Rp.str _ | exact T.d_LETTERS _ (by first | assumption | rfl)))) (by with_unfolding_all rfl)) (qe_one (qe_cmp ob_inS (qb_var 1) (qb_of (qe_con (pe_glob (by rfl) T.g_DIGITS T.r_DIGITS) (fun _ => by first | exact Rp.int _ | exact Rp.str _ | exact T.d_DIGITS _ (by first | assumption | rfl)))) (by with_unfolding_all rfl))))))) qab_nil)))))) ?_
  intro ds M Q0 h
  unfold p_is_name at h
  split at h
  · skip
    obtain ⟨hl, h⟩ := h
    rename_i x
    have hlen : x.length = x.cps.toList.length := by simp [Str.length]
    refine sSeq_i fun N1 h1 => ?_
    refine sIf_k fun N hN => ?_
    have no : nameB x = false → N true [.va (.str x), .un] M := fun w => by
      refine hN _ _ _ ?_
      rw [if_pos rfl]
      walk_at "pl"
      rw [← w]
      exact h
    walk_at "pl"
    refine ⟨by omega, ?_⟩
    by_cases c1 : (1 : Int) ≤ (x.length : Int)
    rotate_left
    · rw [if_neg c1]
      exact no (by unfold nameB; rw [decide_eq_false (show ¬ 1 ≤ x.length by omega)]; rfl)
    rw [if_pos c1]
    by_cases c2 : (x.length : Int) ≤ 20
    rotate_left
    · rw [if_pos c2]
      exact no (by unfold nameB; rw [decide_eq_false (show ¬ x.length ≤ 20 by omega), Bool.and_false]; rfl)
    rw [if_neg (fun w => w c2)]
    refine ⟨by omega, ?_⟩
    have hLS : (Str.ofString "abcdefghijklmnopqrstuvwxyz").cps.toList = ltrs := rfl
    rw [hLS]
    cases hx : x.cps.toList with
    | nil => rw [hx] at hlen; simp at hlen; omega
    | cons c cs =>
      have e0 : L2.atI (c :: cs) 0 = some c := by simp [L2.atI, L2.ixN]
      rw [e0]
      show N (!decide (c ∈ ltrs)) _ _
      by_cases c3 : c ∈ ltrs
      rotate_left
      · rw [decide_eq_false c3]
        exact no (by unfold nameB; rw [hx]; dsimp only; rw [decide_eq_false c3, Bool.and_false]; rfl)
      rw [decide_eq_true c3]
      refine hN _ _ _ ?_
      rw [if_neg (by decide)]
      walk_at "pl"
      refine h1 _ _ ?_
      clear h1 no
      walk_at "pl"
      refine eLc_k fun N2 hN2 => ?_
      walk_at "pl"
      refine hN2 _ _ _ ?_
      clear hN2
      refine eLc_inv D.bl (fun j bs => bs = (x.cps.toList.take j).map fun c => decide (c ∈ ltrs) || decide (c ∈ dgts)) (x.cps.toList.map sgD) _ _ (fun Q h => h) rfl rfl ?_ ?_
      · rintro j d bs J hd rfl hJ
        obtain ⟨s, hs, rfl⟩ := map_get hd
        have := hJ _ rfl
        rw [List.take_add_one, hs, Option.toList_some, List.map_append, List.map_append, List.map_cons, List.map_nil, List.map_cons, List.map_nil] at this
        walk_at "gn"
        walk_at "pl"
        rw [hLS, show (Str.ofString "0123456789").cps.toList = dgts from rfl]
        have hl2 : ((List.take j x.cps.toList).map fun c => decide (c ∈ ltrs) || decide (c ∈ dgts)).length < 16777216 := by rw [List.length_map, List.length_take]; omega
        rw [List.length_map] at hl2
        by_cases c4 : s ∈ ltrs
        · rw [if_pos c4]
          rw [decide_eq_true c4, Bool.true_or] at this
          exact ⟨hl2, this⟩
        · rw [if_neg c4]
          rw [decide_eq_false c4, Bool.false_or] at this
          exact ⟨hl2, this⟩
      rintro bs rfl
      walk_at "pl"
      have e : nameB x = ((List.take x.cps.toList.length x.cps.toList).map fun c => decide (c ∈ ltrs) || decide (c ∈ dgts)).all id := by
        unfold nameB
        rw [decide_eq_true (show 1 ≤ x.length by omega), decide_eq_true (show x.length ≤ 20 by omega), List.take_length, List.all_map]
        rw [hx]
        dsimp only
        rw [decide_eq_true c3]
        rfl
      rw [← e]
      exact h
  · exact h.elim

local macro_rules | `(tactic| walk_at "go") => `(tactic| repeat' (first | assumption | with_reducible apply And.intro | walk_at "cs"))
local macro_rules | `(tactic| walk_at "ex") => `(tactic| simp only [List.cons.injEq, Sl.va.injEq, Sl.ow.injEq, Ow.lst.injEq, D.int.injEq, D.bl.injEq, D.str.injEq, D.lst.injEq, D.tup.injEq, true_and, and_true])
local macro_rules | `(tactic| walk_at "gn") => `(tactic| simp only [↓gN, ↓gsNil, ↓gsCons, ↓gT, ↓gSq, List.length_cons, List.length_nil, Nat.reduceAdd, true_and, List.set_cons_zero, List.set_cons_succ])
local macro_rules | `(tactic| walk_at "sp") => `(tactic| repeat' (first | split | with_reducible apply And.intro))
local macro_rules | `(tactic| walk_at "cs") => `(tactic| first | (unfold CMulP; omega) | (unfold CPowP; omega) | (unfold CModP; omega) | (unfold CDivP; omega))
local macro_rules | `(tactic| walk_at "pl") => `(tactic| simp only [↓sSeq, ↓sRet, ↓sRetN, ↓sDrop, ↓sNext, ↓bVar, chS_bl, chS_true, chS_false, wipeE_nil, wipeE_cons, Option.isSome_some, lk_int, lk_str, ↓sFldN, ↓eDNew, ↓eTNew, chOf_ch, mgK, List.foldl_cons, List.foldl_nil, natc0, natc1, natc2, List.findIdx?_cons, List.findIdx?_nil, intsOf_ints, boolsOf_bls, plAnyI, plAnyR, ↓Sl.val, ↓Ow.toD, ↓stE, ↓PL.isNon, List.getElem?_cons_zero, List.getElem?_cons_succ, List.set_cons_zero, List.set_cons_succ, List.map_cons, List.map_nil, List.length_cons, List.length_nil, List.nil_append, List.cons_append, List.replicate_succ, List.replicate_zero, List.append_nil, atI0, atI1, atI2, atI3, atI4, cmpOk_int, cmpOk_bl, cmpOk_non, deq_int, deq_bl, true_and, and_true, Nat.reduceAdd, Nat.reduceSub, Nat.reduceLeDiff, Nat.reduceLT, Bool.not_eq_true', Bool.false_eq_true, if_false, if_true, decide_eq_true_eq, decide_eq_false_iff_not, Nat.zero_add, Nat.sub_zero, Nat.add_zero, Nat.sub_self, ixN31, ixN32, List.length_map, List.length_set, Int.reduceToNat, Int.reducePow, Int.reduceNeg, Int.reduceAdd, Int.reduceSub, Int.reduceMul, Int.reduceLT, Int.reduceLE, Int.reduceEq, Nat.reduceEqDiff, reduceCtorEq, List.mem_singleton, eq_self, not_true_eq_false, not_false_eq_true, or_true, true_or, cmpOk_lstA, cmpOk_tupA, ckA_lst, ckA_tup, ckAl_nil, ckAl_cons, ckAl_ints, ckAl_rangeL, ck_int, ck_bl, ck_non, ck_strI, cmpOk_str, deq_str, deq_tup, deq_lst, deqA_nil, deqA_cons, deqA_ints, Bool.and_true, Bool.true_and, Bool.and_false, Bool.false_and, decide_true, decide_false, Bool.not_true, Bool.not_false, cat_BadName])
theorem ok_Shares_m___init__ (T : TF K mg) : FnOk P w K mg base (L2.CX P w) 1 (He.ma K (He.ga K "Shares") "__init__") T.x_Shares_m___init__ ["self"] (liPX K p_Shares_m___init__) := by
  refine fn_PX T.f_Shares_m___init__ sc_Shares_m___init__ (by intro ds M Q E h; unfold p_Shares_m___init__ at h; split at h <;> first | rfl | exact h.elim) (fun cdv A outer s H E z W hz hr tk => (qs_cons (qs_fldN T.c_Shares T.n_Shares__told qe_tnew (qb_var 0))
    (qs_end (qs_fldN T.c_Shares T.n_Shares__usual qe_dnew (qb_var 0))))) ?_
  intro ds M Q0 E0 h
  unfold p_Shares_m___init__ at h
  split at h
  · skip
    obtain ⟨M0, rfl, hM0, h⟩ := h
    rename_i x
    have hput := fun o o' => mput_head (o := o) (o' := o') hM0
    refine sSeq_i fun N1 h1 => ?_
    walk_at "pl"
    intro a ha
    have hxa : x ≠ a := ha _ List.mem_cons_self
    rw [look_ne hxa, look_eq]
    refine ⟨rfl, ⟨by decide, by decide⟩, h1 _ _ ?_⟩
    clear h1
    rw [mput_cons, if_neg (Ne.symm hxa), hput]
    walk_at "pl"
    intro b hb
    have hxb : x ≠ b := hb _ (List.mem_cons_of_mem _ List.mem_cons_self)
    have hab : a ≠ b := hb _ List.mem_cons_self
    rw [look_ne hxb, look_ne hxa, look_eq]
    refine ⟨rfl, ⟨by decide +kernel, by decide⟩, ?_⟩
    rw [mput_cons, if_neg (Ne.symm hxb), mput_cons, if_neg (Ne.symm hxa), hput]
    exact h a b (Ne.symm hxa) (Ne.symm hxb) (Ne.symm hab) (fun q hq => ha q (List.mem_cons_of_mem _ hq)) (fun q hq => hb q (List.mem_cons_of_mem _ (List.mem_cons_of_mem _ hq)))
  · exact h.elim

local macro_rules | `(tactic| walk_at "go") => `(tactic| repeat' (first | assumption | with_reducible apply And.intro | walk_at "cs"))
local macro_rules | `(tactic| walk_at "ex") => `(tactic| simp only [List.cons.injEq, Sl.va.injEq, Sl.ow.injEq, Ow.lst.injEq, D.int.injEq, D.bl.injEq, D.str.injEq, D.lst.injEq, D.tup.injEq, true_and, and_true])
local macro_rules | `(tactic| walk_at "gn") => `(tactic| simp only [↓gN, ↓gsNil, ↓gsCons, ↓gT, ↓gSq, List.length_cons, List.length_nil, Nat.reduceAdd, true_and, List.set_cons_zero, List.set_cons_succ])
local macro_rules | `(tactic| walk_at "sp") => `(tactic| repeat' (first | split | with_reducible apply And.intro))
local macro_rules | `(tactic| walk_at "cs") => `(tactic| first | (unfold CMulP; omega) | (unfold CPowP; omega) | (unfold CModP; omega) | (unfold CDivP; omega))
local macro_rules | `(tactic| walk_at "pl") => `(tactic| simp only [↓sRet, ↓sRetN, ↓sDrop, ↓sNext, ↓eVar, ↓bVar, ↓bE, chS_bl, chS_true, chS_false, wipeE_nil, wipeE_cons, ↓aNil, ↓aCons, ↓eTup, ↓kyOf, Option.isSome_some, lk_int, lk_str, ↓eFld, ↓objOf, ↓eTPop2, ↓ditOf, ↓kysOf, ↓kyL, chOf_ch, mgK, List.foldl_cons, List.foldl_nil, natc0, natc1, natc2, List.findIdx?_cons, List.findIdx?_nil, intsOf_ints, boolsOf_bls, plAnyI, plAnyR, ↓Sl.val, ↓Ow.toD, ↓stE, ↓PL.isNon, ↓eC, List.getElem?_cons_zero, List.getElem?_cons_succ, List.set_cons_zero, List.set_cons_succ, List.map_cons, List.map_nil, List.length_cons, List.length_nil, List.nil_append, List.cons_append, List.replicate_succ, List.replicate_zero, List.append_nil, atI0, atI1, atI2, atI3, atI4, cmpOk_int, cmpOk_bl, cmpOk_non, deq_int, deq_bl, true_and, and_true, Nat.reduceAdd, Nat.reduceSub, Nat.reduceLeDiff, Nat.reduceLT, Bool.not_eq_true', Bool.false_eq_true, if_false, if_true, decide_eq_true_eq, decide_eq_false_iff_not, Nat.zero_add, Nat.sub_zero, Nat.add_zero, Nat.sub_self, ixN31, ixN32, List.length_map, List.length_set, Int.reduceToNat, Int.reducePow, Int.reduceNeg, Int.reduceAdd, Int.reduceSub, Int.reduceMul, Int.reduceLT, Int.reduceLE, Int.reduceEq, Nat.reduceEqDiff, reduceCtorEq, List.mem_singleton, eq_self, not_true_eq_false, not_false_eq_true, or_true, true_or, cmpOk_lstA, cmpOk_tupA, ckA_lst, ckA_tup, ckAl_nil, ckAl_cons, ckAl_ints, ckAl_rangeL, ck_int, ck_bl, ck_non, ck_strI, cmpOk_str, deq_str, deq_tup, deq_lst, deqA_nil, deqA_cons, deqA_ints, Bool.and_true, Bool.true_and, Bool.and_false, Bool.false_and, decide_true, decide_false, Bool.not_true, Bool.not_false, cat_BadName])
theorem ok_Shares_m_forget (T : TF K mg) : FnOk P w K mg base CX0 1 (He.ma K (He.ga K "Shares") "forget") T.x_Shares_m_forget ["self", "owner", "viewer"] (liP K p_Shares_m_forget) := by
  refine fn_P T.f_Shares_m_forget sc_Shares_m_forget (by intro ds M Q E h; unfold p_Shares_m_forget at h; split at h <;> first | rfl | exact h.elim) (fun cdv A outer s H E z hz hr => (qs_end (qs_expr (qe_tpop2 (hu1 hr) (qb_of (qe_fld (i := 0) T.c_Shares T.n_Shares__told (qb_var 0))) (qb_of (qe_tup (qa_cons (qe_var 1) (qa_cons (qe_var 2) qa_nil)))) qe_non ⟨rfl, rfl, rfl, rfl⟩)))) ?_
  intro ds M Q0 h
  unfold p_Shares_m_forget at h
  split at h
  · skip
    obtain ⟨a, b, lt, lu, ⟨s1, s2, s3⟩, h⟩ := h
    simp only [↓sRet, ↓sRetN, ↓sDrop, ↓sNext, ↓eVar, ↓bVar, ↓bE, chS_bl, chS_true, chS_false, wipeE_nil, wipeE_cons, ↓aNil, ↓aCons, ↓eTup, ↓kyOf, Option.isSome_some, lk_int, lk_str, ↓eFld, ↓objOf, ↓eTPop2, ↓ditOf, ↓kysOf, ↓kyL, chOf_ch, mgK, List.foldl_cons, List.foldl_nil, natc0, natc1, natc2, List.findIdx?_cons, List.findIdx?_nil, intsOf_ints, boolsOf_bls, plAnyI, plAnyR, ↓Sl.val, ↓Ow.toD, ↓stE, ↓PL.isNon, ↓eC, List.getElem?_cons_zero, List.getElem?_cons_succ, List.set_cons_zero, List.set_cons_succ, List.map_cons, List.map_nil, List.length_cons, List.length_nil, List.nil_append, List.cons_append, List.replicate_succ, List.replicate_zero, List.append_nil, atI0, atI1, atI2, atI3, atI4, cmpOk_int, cmpOk_bl, cmpOk_non, deq_int, deq_bl, true_and, and_true, Nat.reduceAdd, Nat.reduceSub, Nat.reduceLeDiff, Nat.reduceLT, Bool.not_eq_true', Bool.false_eq_true, if_false, if_true, decide_eq_true_eq, decide_eq_false_iff_not, Nat.zero_add, Nat.sub_zero, Nat.add_zero, Nat.sub_self, ixN31, ixN32, List.length_map, List.length_set, Int.reduceToNat, Int.reducePow, Int.reduceNeg, Int.reduceAdd, Int.reduceSub, Int.reduceMul, Int.reduceLT, Int.reduceLE, Int.reduceEq, Nat.reduceEqDiff, reduceCtorEq, List.mem_singleton, eq_self, not_true_eq_false, not_false_eq_true, or_true, true_or, cmpOk_lstA, cmpOk_tupA, ckA_lst, ckA_tup, ckAl_nil, ckAl_cons, ckAl_ints, ckAl_rangeL, ck_int, ck_bl, ck_non, ck_strI, cmpOk_str, deq_str, deq_tup, deq_lst, deqA_nil, deqA_cons, deqA_ints, Bool.and_true, Bool.true_and, Bool.and_false, Bool.false_and, decide_true, decide_false, Bool.not_true, Bool.not_false, cat_BadName, s1, s2, s3, sh_f0, sh_f1, sh_nm]
    split
    · rename_i e; rw [e] at h; exact h
    · rename_i e; rw [e] at h; exact h
  · exact h.elim

local macro_rules | `(tactic| walk_at "go") => `(tactic| repeat' (first | assumption | with_reducible apply And.intro | walk_at "cs"))
local macro_rules | `(tactic| walk_at "ex") => `(tactic| simp only [List.cons.injEq, Sl.va.injEq, Sl.ow.injEq, Ow.lst.injEq, D.int.injEq, D.bl.injEq, D.str.injEq, D.lst.injEq, D.tup.injEq, true_and, and_true])
local macro_rules | `(tactic| walk_at "gn") => `(tactic| simp only [↓gN, ↓gsNil, ↓gsCons, ↓gT, ↓gSq, List.length_cons, List.length_nil, Nat.reduceAdd, true_and, List.set_cons_zero, List.set_cons_succ])
local macro_rules | `(tactic| walk_at "sp") => `(tactic| repeat' (first | split | with_reducible apply And.intro))
local macro_rules | `(tactic| walk_at "cs") => `(tactic| first | (unfold CMulP; omega) | (unfold CPowP; omega) | (unfold CModP; omega) | (unfold CDivP; omega))
local macro_rules | `(tactic| walk_at "pl") => `(tactic| simp only [↓sSeq, ↓sAsg, ↓sRet, ↓sRetN, ↓sIf, ↓sDrop, ↓sNext, ↓eVar, ↓bVar, ↓bE, ↓eBin, ↓tE, chS_bl, chS_true, chS_false, wipeE_nil, wipeE_cons, ↓eIf, ↓aNil, ↓aCons, ↓eTup, ↓kyOf, Option.isSome_some, lk_int, lk_str, ↓eFld, ↓objOf, ↓eMGet2, ↓dicOf, ↓eTGet1, ↓ditOf, ↓kysOf, ↓kyL, chOf_ch, mgK, List.foldl_cons, List.foldl_nil, ↓dEq, ↓dNotN, natc0, natc1, natc2, List.findIdx?_cons, List.findIdx?_nil, intsOf_ints, boolsOf_bls, plAnyI, plAnyR, ↓Sl.val, ↓Ow.toD, ↓stE, ↓PL.isNon, ↓eC, ↓bC, List.getElem?_cons_zero, List.getElem?_cons_succ, List.set_cons_zero, List.set_cons_succ, List.map_cons, List.map_nil, List.length_cons, List.length_nil, List.nil_append, List.cons_append, List.replicate_succ, List.replicate_zero, List.append_nil, atI0, atI1, atI2, atI3, atI4, cmpOk_int, cmpOk_bl, cmpOk_non, deq_int, deq_bl, true_and, and_true, Nat.reduceAdd, Nat.reduceSub, Nat.reduceLeDiff, Nat.reduceLT, Bool.not_eq_true', Bool.false_eq_true, if_false, if_true, decide_eq_true_eq, decide_eq_false_iff_not, Nat.zero_add, Nat.sub_zero, Nat.add_zero, Nat.sub_self, ixN31, ixN32, List.length_map, List.length_set, Int.reduceToNat, Int.reducePow, Int.reduceNeg, Int.reduceAdd, Int.reduceSub, Int.reduceMul, Int.reduceLT, Int.reduceLE, Int.reduceEq, Nat.reduceEqDiff, reduceCtorEq, List.mem_singleton, eq_self, not_true_eq_false, not_false_eq_true, or_true, true_or, cmpOk_lstA, cmpOk_tupA, ckA_lst, ckA_tup, ckAl_nil, ckAl_cons, ckAl_ints, ckAl_rangeL, ck_int, ck_bl, ck_non, ck_strI, cmpOk_str, deq_str, deq_tup, deq_lst, deqA_nil, deqA_cons, deqA_ints, Bool.and_true, Bool.true_and, Bool.and_false, Bool.false_and, decide_true, decide_false, Bool.not_true, Bool.not_false, cat_BadName])
theorem ok_Shares_m_level (T : TF K mg) : FnOk P w K mg base CX0 1 (He.ma K (He.ga K "Shares") "level") T.x_Shares_m_level ["self", "owner", "viewer"] (liP K p_Shares_m_level) := by
  refine fn_P T.f_Shares_m_level sc_Shares_m_level (by intro ds M Q E h; unfold p_Shares_m_level at h; split at h <;> first | rfl | exact h.elim) (fun cdv A outer s H E z hz hr => (qs_cons (qs_if (qt_cmp (ob_eq (hu64 hr)) (qb_var 1) (qb_var 2) (nomark _))
    (qs_end (qs_ret qe_str))
    qs_nil)
    (qs_cons (qs_set (i := 3) sc_Shares_m_level.nd rfl (by first | exact Or.inl rfl | exact Or.inr rfl) (qe_tget1 (hu1 hr) (qb_of (qe_fld (i := 0) T.c_Shares T.n_Shares__told (qb_var 0))) (qb_of (qe_tup (qa_cons (qe_var 1) (qa_cons (qe_var 2) qa_nil)))) ⟨rfl, rfl, rfl, rfl⟩))
    (qs_end (qs_ret (qe_ifExp (qt_cmp ob_notN (qb_var 3) qb_non (nomark _)) (qe_var 3) (qe_mget2 (hu1 hr) (qb_of (qe_fld (i := 1) T.c_Shares T.n_Shares__usual (qb_var 0))) (qb_var 1) qe_str ⟨rfl, rfl, rfl, rfl⟩))))))) ?_
  intro ds M Q0 h
  unfold p_Shares_m_level at h
  split at h
  · skip
    obtain ⟨a, b, lt, lu, ⟨s1, s2, s3⟩, hlv, ⟨g1, g2⟩, h⟩ := h
    rename_i x o v
    refine sSeq_i fun N1 h1 => ?_
    walk_at "pl"
    refine ⟨⟨g1, g2⟩, ?_⟩
    unfold levD at h
    by_cases c : o = v
    · rw [if_pos c] at h ⊢
      exact h
    rw [if_neg c] at h ⊢
    refine h1 _ _ ?_
    clear h1
    refine sSeq_i fun N1 h1 => ?_
    simp only [↓sSeq, ↓sAsg, ↓sRet, ↓sRetN, ↓sIf, ↓sDrop, ↓sNext, ↓eVar, ↓bVar, ↓bE, ↓eBin, ↓tE, chS_bl, chS_true, chS_false, wipeE_nil, wipeE_cons, ↓eIf, ↓aNil, ↓aCons, ↓eTup, ↓kyOf, Option.isSome_some, lk_int, lk_str, ↓eFld, ↓objOf, ↓eMGet2, ↓dicOf, ↓eTGet1, ↓ditOf, ↓kysOf, ↓kyL, chOf_ch, mgK, List.foldl_cons, List.foldl_nil, ↓dEq, ↓dNotN, natc0, natc1, natc2, List.findIdx?_cons, List.findIdx?_nil, intsOf_ints, boolsOf_bls, plAnyI, plAnyR, ↓Sl.val, ↓Ow.toD, ↓stE, ↓PL.isNon, ↓eC, ↓bC, List.getElem?_cons_zero, List.getElem?_cons_succ, List.set_cons_zero, List.set_cons_succ, List.map_cons, List.map_nil, List.length_cons, List.length_nil, List.nil_append, List.cons_append, List.replicate_succ, List.replicate_zero, List.append_nil, atI0, atI1, atI2, atI3, atI4, cmpOk_int, cmpOk_bl, cmpOk_non, deq_int, deq_bl, true_and, and_true, Nat.reduceAdd, Nat.reduceSub, Nat.reduceLeDiff, Nat.reduceLT, Bool.not_eq_true', Bool.false_eq_true, if_false, if_true, decide_eq_true_eq, decide_eq_false_iff_not, Nat.zero_add, Nat.sub_zero, Nat.add_zero, Nat.sub_self, ixN31, ixN32, List.length_map, List.length_set, Int.reduceToNat, Int.reducePow, Int.reduceNeg, Int.reduceAdd, Int.reduceSub, Int.reduceMul, Int.reduceLT, Int.reduceLE, Int.reduceEq, Nat.reduceEqDiff, reduceCtorEq, List.mem_singleton, eq_self, not_true_eq_false, not_false_eq_true, or_true, true_or, cmpOk_lstA, cmpOk_tupA, ckA_lst, ckA_tup, ckAl_nil, ckAl_cons, ckAl_ints, ckAl_rangeL, ck_int, ck_bl, ck_non, ck_strI, cmpOk_str, deq_str, deq_tup, deq_lst, deqA_nil, deqA_cons, deqA_ints, Bool.and_true, Bool.true_and, Bool.and_false, Bool.false_and, decide_true, decide_false, Bool.not_true, Bool.not_false, cat_BadName, s1, s2, s3, sh_f0, sh_f1, sh_nm]
    refine h1 _ _ ?_
    clear h1
    cases e : gK lt [Sum.inr o, Sum.inr v] with
    | some d =>
      rw [e] at h
      obtain ⟨l, _, rfl⟩ := hlv.1 _ _ e
      simp only [↓sSeq, ↓sAsg, ↓sRet, ↓sRetN, ↓sIf, ↓sDrop, ↓sNext, ↓eVar, ↓bVar, ↓bE, ↓eBin, ↓tE, chS_bl, chS_true, chS_false, wipeE_nil, wipeE_cons, ↓eIf, ↓aNil, ↓aCons, ↓eTup, ↓kyOf, Option.isSome_some, lk_int, lk_str, ↓eFld, ↓objOf, ↓eMGet2, ↓dicOf, ↓eTGet1, ↓ditOf, ↓kysOf, ↓kyL, chOf_ch, mgK, List.foldl_cons, List.foldl_nil, ↓dEq, ↓dNotN, natc0, natc1, natc2, List.findIdx?_cons, List.findIdx?_nil, intsOf_ints, boolsOf_bls, plAnyI, plAnyR, ↓Sl.val, ↓Ow.toD, ↓stE, ↓PL.isNon, ↓eC, ↓bC, List.getElem?_cons_zero, List.getElem?_cons_succ, List.set_cons_zero, List.set_cons_succ, List.map_cons, List.map_nil, List.length_cons, List.length_nil, List.nil_append, List.cons_append, List.replicate_succ, List.replicate_zero, List.append_nil, atI0, atI1, atI2, atI3, atI4, cmpOk_int, cmpOk_bl, cmpOk_non, deq_int, deq_bl, true_and, and_true, Nat.reduceAdd, Nat.reduceSub, Nat.reduceLeDiff, Nat.reduceLT, Bool.not_eq_true', Bool.false_eq_true, if_false, if_true, decide_eq_true_eq, decide_eq_false_iff_not, Nat.zero_add, Nat.sub_zero, Nat.add_zero, Nat.sub_self, ixN31, ixN32, List.length_map, List.length_set, Int.reduceToNat, Int.reducePow, Int.reduceNeg, Int.reduceAdd, Int.reduceSub, Int.reduceMul, Int.reduceLT, Int.reduceLE, Int.reduceEq, Nat.reduceEqDiff, reduceCtorEq, List.mem_singleton, eq_self, not_true_eq_false, not_false_eq_true, or_true, true_or, cmpOk_lstA, cmpOk_tupA, ckA_lst, ckA_tup, ckAl_nil, ckAl_cons, ckAl_ints, ckAl_rangeL, ck_int, ck_bl, ck_non, ck_strI, cmpOk_str, deq_str, deq_tup, deq_lst, deqA_nil, deqA_cons, deqA_ints, Bool.and_true, Bool.true_and, Bool.and_false, Bool.false_and, decide_true, decide_false, Bool.not_true, Bool.not_false, cat_BadName, s1, s2, s3, sh_f0, sh_f1, sh_nm, Option.getD_some]
      exact h
    | none =>
      rw [e] at h
      simp only [↓sSeq, ↓sAsg, ↓sRet, ↓sRetN, ↓sIf, ↓sDrop, ↓sNext, ↓eVar, ↓bVar, ↓bE, ↓eBin, ↓tE, chS_bl, chS_true, chS_false, wipeE_nil, wipeE_cons, ↓eIf, ↓aNil, ↓aCons, ↓eTup, ↓kyOf, Option.isSome_some, lk_int, lk_str, ↓eFld, ↓objOf, ↓eMGet2, ↓dicOf, ↓eTGet1, ↓ditOf, ↓kysOf, ↓kyL, chOf_ch, mgK, List.foldl_cons, List.foldl_nil, ↓dEq, ↓dNotN, natc0, natc1, natc2, List.findIdx?_cons, List.findIdx?_nil, intsOf_ints, boolsOf_bls, plAnyI, plAnyR, ↓Sl.val, ↓Ow.toD, ↓stE, ↓PL.isNon, ↓eC, ↓bC, List.getElem?_cons_zero, List.getElem?_cons_succ, List.set_cons_zero, List.set_cons_succ, List.map_cons, List.map_nil, List.length_cons, List.length_nil, List.nil_append, List.cons_append, List.replicate_succ, List.replicate_zero, List.append_nil, atI0, atI1, atI2, atI3, atI4, cmpOk_int, cmpOk_bl, cmpOk_non, deq_int, deq_bl, true_and, and_true, Nat.reduceAdd, Nat.reduceSub, Nat.reduceLeDiff, Nat.reduceLT, Bool.not_eq_true', Bool.false_eq_true, if_false, if_true, decide_eq_true_eq, decide_eq_false_iff_not, Nat.zero_add, Nat.sub_zero, Nat.add_zero, Nat.sub_self, ixN31, ixN32, List.length_map, List.length_set, Int.reduceToNat, Int.reducePow, Int.reduceNeg, Int.reduceAdd, Int.reduceSub, Int.reduceMul, Int.reduceLT, Int.reduceLE, Int.reduceEq, Nat.reduceEqDiff, reduceCtorEq, List.mem_singleton, eq_self, not_true_eq_false, not_false_eq_true, or_true, true_or, cmpOk_lstA, cmpOk_tupA, ckA_lst, ckA_tup, ckAl_nil, ckAl_cons, ckAl_ints, ckAl_rangeL, ck_int, ck_bl, ck_non, ck_strI, cmpOk_str, deq_str, deq_tup, deq_lst, deqA_nil, deqA_cons, deqA_ints, Bool.and_true, Bool.true_and, Bool.and_false, Bool.false_and, decide_true, decide_false, Bool.not_true, Bool.not_false, cat_BadName, s1, s2, s3, sh_f0, sh_f1, sh_nm, Option.getD_none]
      exact h
  · exact h.elim

local macro_rules | `(tactic| walk_at "go") => `(tactic| repeat' (first | assumption | with_reducible apply And.intro | walk_at "cs"))
local macro_rules | `(tactic| walk_at "ex") => `(tactic| simp only [List.cons.injEq, Sl.va.injEq, Sl.ow.injEq, Ow.lst.injEq, D.int.injEq, D.bl.injEq, D.str.injEq, D.lst.injEq, D.tup.injEq, true_and, and_true])
local macro_rules | `(tactic| walk_at "gn") => `(tactic| simp only [↓gN, ↓gsNil, ↓gsCons, ↓gT, ↓gSq, List.length_cons, List.length_nil, Nat.reduceAdd, true_and, List.set_cons_zero, List.set_cons_succ])
local macro_rules | `(tactic| walk_at "sp") => `(tactic| repeat' (first | split | with_reducible apply And.intro))
local macro_rules | `(tactic| walk_at "cs") => `(tactic| first | (unfold CMulP; omega) | (unfold CPowP; omega) | (unfold CModP; omega) | (unfold CDivP; omega))
local macro_rules | `(tactic| walk_at "pl") => `(tactic| simp only [↓sRet, ↓sRetN, ↓sDrop, ↓sNext, ↓eVar, ↓bVar, ↓bE, ↓eBin, ↓tE, chS_bl, chS_true, chS_false, wipeE_nil, wipeE_cons, ↓aNil, ↓aConsB, ↓cSortD, Option.isSome_some, lk_int, lk_str, ↓eFld, ↓objOf, chOf_ch, mgK, List.foldl_cons, List.foldl_nil, ↓gN, ↓gsNil, ↓gsCons, ↓dEq, ↓eB, natc0, natc1, natc2, List.findIdx?_cons, List.findIdx?_nil, intsOf_ints, boolsOf_bls, plAnyI, plAnyR, ↓Sl.val, ↓Ow.toD, ↓stE, ↓PL.isNon, List.getElem?_cons_zero, List.getElem?_cons_succ, List.set_cons_zero, List.set_cons_succ, List.map_cons, List.map_nil, List.length_cons, List.length_nil, List.nil_append, List.cons_append, List.replicate_succ, List.replicate_zero, List.append_nil, atI0, atI1, atI2, atI3, atI4, cmpOk_int, cmpOk_bl, cmpOk_non, deq_int, deq_bl, true_and, and_true, Nat.reduceAdd, Nat.reduceSub, Nat.reduceLeDiff, Nat.reduceLT, Bool.not_eq_true', Bool.false_eq_true, if_false, if_true, decide_eq_true_eq, decide_eq_false_iff_not, Nat.zero_add, Nat.sub_zero, Nat.add_zero, Nat.sub_self, ixN31, ixN32, List.length_map, List.length_set, Int.reduceToNat, Int.reducePow, Int.reduceNeg, Int.reduceAdd, Int.reduceSub, Int.reduceMul, Int.reduceLT, Int.reduceLE, Int.reduceEq, Nat.reduceEqDiff, reduceCtorEq, List.mem_singleton, eq_self, not_true_eq_false, not_false_eq_true, or_true, true_or, cmpOk_lstA, cmpOk_tupA, ckA_lst, ckA_tup, ckAl_nil, ckAl_cons, ckAl_ints, ckAl_rangeL, ck_int, ck_bl, ck_non, ck_strI, cmpOk_str, deq_str, deq_tup, deq_lst, deqA_nil, deqA_cons, deqA_ints, Bool.and_true, Bool.true_and, Bool.and_false, Bool.false_and, decide_true, decide_false, Bool.not_true, Bool.not_false, cat_BadName])
theorem ok_Shares_m_viewers (T : TF K mg) : FnOk P w K mg base CX0 1 (He.ma K (He.ga K "Shares") "viewers") T.x_Shares_m_viewers ["self", "owner"] (liP K p_Shares_m_viewers) := by
  refine fn_P T.f_Shares_m_viewers sc_Shares_m_viewers (by intro ds M Q E h; unfold p_Shares_m_viewers at h; split at h <;> first | rfl | exact h.elim) (fun cdv A outer s H E z hz hr => (qs_end (qs_ret (qe_callB (cb_sortD (hu64 hr)) (by rfl) T.m_sorted (by decide +kernel) (qab_cons (qb_of (qe_lcT rfl sc_Shares_m_viewers.nd (own := [("told", 2), ("viewer", 3)]) (qb_of (qe_fld (i := 0) T.c_Shares T.n_Shares__told (qb_var 0))) (blkOk_by (own := [("told", 2), ("viewer", 3)]) (N := N_Shares_m_viewers) (sc := defScope s_Shares_m_viewers) (by decide +kernel)) (fun _ _ _ _ _ z hz => (qg_tupH (n := 2) rfl (qgs_cons (qg_name (i := 2) sc_Shares_m_viewers.nd rfl (by first | exact Or.inl rfl | exact Or.inr rfl)) (qgs_cons (qg_name (i := 3) sc_Shares_m_viewers.nd rfl (by first | exact Or.inl rfl | exact Or.inr rfl)) qgs_nil)))) (fun _ _ _ _ _ => an_t1 fun z hz => (qt_cmp (ob_eq (hu64 hr)) (qb_var 2) (qb_var 1) (nomark _))) (fun _ _ _ _ _ z hz => (qe_var 3)))) qab_nil))))) ?_
  intro ds M Q0 h
  unfold p_Shares_m_viewers at h
  split at h
  · skip
    obtain ⟨a, b, lt, lu, ns, ⟨s1, s2, s3⟩, ⟨g1, g2, g3, g4, g5⟩, h⟩ := h
    rename_i x o
    walk_at "pl"
    refine ⟨a, lt, s2, fun ob kvs => ?_⟩
    have hxa : x ≠ a := fun e => by rw [e, s2] at s1; cases s1
    have l1 : (mput M a (.ditL ob kvs lt)).lookup x = some (.ins sShares shF [.ref a, .ref b]) := by rw [lookup_mput_ne hxa]; exact s1
    have l2 : (mput M a (.ditL ob kvs lt)).lookup a = some (.ditL ob kvs lt) := lookup_mput_eq s2
    refine eLcT_inv (vwK o) (fun Q' h => ?_) l2 rfl (by omega) (fun k acc J hk hl hJ => ?_) ?_
    · simp only [↓sRet, ↓sRetN, ↓sDrop, ↓sNext, ↓eVar, ↓bVar, ↓bE, ↓eBin, ↓tE, chS_bl, chS_true, chS_false, wipeE_nil, wipeE_cons, ↓aNil, ↓aConsB, ↓cSortD, Option.isSome_some, lk_int, lk_str, ↓eFld, ↓objOf, chOf_ch, mgK, List.foldl_cons, List.foldl_nil, ↓gN, ↓gsNil, ↓gsCons, ↓dEq, ↓eB, natc0, natc1, natc2, List.findIdx?_cons, List.findIdx?_nil, intsOf_ints, boolsOf_bls, plAnyI, plAnyR, ↓Sl.val, ↓Ow.toD, ↓stE, ↓PL.isNon, List.getElem?_cons_zero, List.getElem?_cons_succ, List.set_cons_zero, List.set_cons_succ, List.map_cons, List.map_nil, List.length_cons, List.length_nil, List.nil_append, List.cons_append, List.replicate_succ, List.replicate_zero, List.append_nil, atI0, atI1, atI2, atI3, atI4, cmpOk_int, cmpOk_bl, cmpOk_non, deq_int, deq_bl, true_and, and_true, Nat.reduceAdd, Nat.reduceSub, Nat.reduceLeDiff, Nat.reduceLT, Bool.not_eq_true', Bool.false_eq_true, if_false, if_true, decide_eq_true_eq, decide_eq_false_iff_not, Nat.zero_add, Nat.sub_zero, Nat.add_zero, Nat.sub_self, ixN31, ixN32, List.length_map, List.length_set, Int.reduceToNat, Int.reducePow, Int.reduceNeg, Int.reduceAdd, Int.reduceSub, Int.reduceMul, Int.reduceLT, Int.reduceLE, Int.reduceEq, Nat.reduceEqDiff, reduceCtorEq, List.mem_singleton, eq_self, not_true_eq_false, not_false_eq_true, or_true, true_or, cmpOk_lstA, cmpOk_tupA, ckA_lst, ckA_tup, ckAl_nil, ckAl_cons, ckAl_ints, ckAl_rangeL, ck_int, ck_bl, ck_non, ck_strI, cmpOk_str, deq_str, deq_tup, deq_lst, deqA_nil, deqA_cons, deqA_ints, Bool.and_true, Bool.true_and, Bool.and_false, Bool.false_and, decide_true, decide_false, Bool.not_true, Bool.not_false, cat_BadName, l1, sh_f0, sh_nm]
      exact h
    · obtain ⟨o', ho, v', hv, rfl⟩ := g1 k hk
      refine ⟨rfl, ?_⟩
      show gsCons (gN 2) (gsCons (gN 3) gsNil) [D.str o', D.str v'] _ _
      walk_at "gn"
      walk_at "pl"
      refine ⟨⟨g2 _ ho, g3⟩, ?_⟩
      rw [vwK_pr] at hJ
      by_cases c : o' = o
      · rw [if_pos c] at hJ ⊢
        exact ⟨hl, hJ⟩
      · rw [if_neg c] at hJ ⊢
        rw [Option.toList_none, List.append_nil] at hJ
        exact hJ
    · refine ⟨l2, ?_⟩
      rw [mput_mput]
      walk_at "pl"
      obtain ⟨xs, e, _⟩ := vw_strs (o := o) g1
      rw [mput_self g5 s2, e]
      rw [e] at h
      exact ⟨sortOk_strs, h⟩
  · exact h.elim

theorem ok__law_draw (T : TF K mg) : FnOk P w K mg base CX0 1 T.a__law_draw T.x__law_draw ["tape", "many"] (liP K pDraw) := by
  refine fn_draw T.f__law_draw sc__law_draw rfl (fun cdv A outer s H E z hz hr => (qs_cons (qs_if (qt_cmp ob_lt (qb_of (qe_ixM (qb_var 0) qb_int)) (qb_var 1) (nomark _))
    (qs_cons (qs_set (i := 2) sc__law_draw.nd rfl (by first | exact Or.inl rfl | exact Or.inr rfl) (qe_ixM (qb_var 0) qb_int))
    (qs_cons (qs_set (i := 3) sc__law_draw.nd rfl (by first | exact Or.inl rfl | exact Or.inr rfl) (qe_ixM (qb_var 0) qb_int))
    (qs_cons (qs_set (i := 4) sc__law_draw.nd rfl (by first | exact Or.inl rfl | exact Or.inr rfl) qe_int)
    (qs_cons (qs_if (qt_cmp ob_lt (qb_var 3) (qb_of (qe_callB cb_len (by rfl) T.m_len (by decide +kernel) (qab_cons (qb_var 2) qab_nil))) (nomark _))
    (qs_end (qs_set (i := 4) sc__law_draw.nd rfl (by first | exact Or.inl rfl | exact Or.inr rfl) (qe_ix (qb_var 2) (qb_var 3))))
    qs_nil)
    (qs_cons (qs_if (qt_cmp ob_lt (qb_var 4) qb_int (nomark _))
    (qs_end (qs_set (i := 4) sc__law_draw.nd rfl (by first | exact Or.inl rfl | exact Or.inr rfl) (qe_bin ob_sub (qb_of (qe_bin ob_mul (qb_of (qe_un ub_neg qb_int)) (qb_var 4))) qb_int)))
    qs_nil)
    (qs_cons (qs_if (qt_cmp ob_lt (qb_var 4) (qb_of (qe_bin ob_pow qb_int qb_int)) (nomark _))
    (qs_cons (qs_set (i := 4) sc__law_draw.nd rfl (by first | exact Or.inl rfl | exact Or.inr rfl) (qe_bin ob_mod (qb_of (qe_callTy cb_int (by rfl) T.m_int (by decide +kernel) (qab_cons (qb_of (qe_bin ob_add (qb_of (qe_bin ob_add (qb_of (qe_bin ob_mul (qb_var 4) qb_int)) (qb_of (qe_bin ob_mul (qb_var 3) qb_int)))) qb_int)) qab_nil))) qb_int))
    (qs_end (qs_set (i := 4) sc__law_draw.nd rfl (by first | exact Or.inl rfl | exact Or.inr rfl) (qe_bin ob_mod (qb_of (qe_callTy cb_int (by rfl) T.m_int (by decide +kernel) (qab_cons (qb_of (qe_bin ob_add (qb_of (qe_bin ob_add (qb_of (qe_bin ob_mul (qb_var 4) qb_int)) (qb_of (qe_bin ob_mul (qb_var 3) qb_int)))) qb_int)) qab_nil))) qb_int))))
    qs_nil)
    (qs_cons (qs_setM (qe_bin ob_add (qb_var 3) qb_int) (qb_var 0) qb_int)
    (qs_end (qs_setM (qe_var 4) (qb_var 0) qb_int)))))))))
    qs_nil)
    (qs_cons (qs_set (i := 5) sc__law_draw.nd rfl (by first | exact Or.inl rfl | exact Or.inr rfl) (qe_bin ob_mod (qb_of (qe_callTy cb_int (by rfl) T.m_int (by decide +kernel) (qab_cons (qb_of (qe_ixM (qb_var 0) qb_int)) qab_nil))) (qb_var 1)))
    (qs_cons (qs_setM (qe_bin ob_div (qb_of (qe_ixM (qb_var 0) qb_int)) (qb_var 1)) (qb_var 0) qb_int)
    (qs_end (qs_ret (qe_var 5))))))) ?_
  intro T n M ns c x Q0 hM hc hx hn hn2 hQ
  have hL : ∀ o, (mput M T o).lookup T = some o := fun o => lookup_mput ⟨_, lookup_mem hM, rfl⟩
  by_cases hb : c < (ns.length : Int)
  · obtain ⟨v, hv⟩ : ∃ v, atI (ns.map D.int) c = some (.int v) := by
      have h2 : c.toNat < ns.length := by omega
      refine ⟨ns[c.toNat], ?_⟩
      rw [atI_nn hc]
      simp [h2]
    simp only [↓sSeq, ↓sAsg, ↓sRet, ↓sRetN, ↓sIf, ↓sDrop, ↓sNext, ↓eVar, ↓bVar, ↓bE, ↓eBin, ↓tE, chS_bl, chS_true, chS_false, wipeE_nil, wipeE_cons, ↓eUn, ↓aNil, ↓aConsB, Option.isSome_some, lk_int, lk_str, chOf_ch, mgK, List.foldl_cons, List.foldl_nil, ↓dI2, ↓dAdd, ↓dIx, ↓eB, ↓cLen, ↓cInt, natc0, natc1, natc2, List.findIdx?_cons, List.findIdx?_nil, intsOf_ints, boolsOf_bls, plAnyI, plAnyR, ↓Sl.val, ↓Ow.toD, ↓stE, ↓eIxM, ↓sSetM, ↓PL.isNon, ↓eC, ↓bC, ↓dSub, ↓dMul, ↓dDiv, ↓dMod, ↓dPow, ↓dLt, List.getElem?_cons_zero, List.getElem?_cons_succ, List.set_cons_zero, List.set_cons_succ, List.map_cons, List.map_nil, List.length_cons, List.length_nil, List.nil_append, List.cons_append, List.replicate_succ, List.replicate_zero, List.append_nil, atI0, atI1, atI2, atI3, atI4, cmpOk_int, cmpOk_bl, cmpOk_non, deq_int, deq_bl, true_and, and_true, Nat.reduceAdd, Nat.reduceSub, Nat.reduceLeDiff, Nat.reduceLT, Bool.not_eq_true', Bool.false_eq_true, if_false, if_true, decide_eq_true_eq, decide_eq_false_iff_not, Nat.zero_add, Nat.sub_zero, Nat.add_zero, Nat.sub_self, ixN31, ixN32, List.length_map, List.length_set, Int.reduceToNat, Int.reducePow, Int.reduceNeg, Int.reduceAdd, Int.reduceSub, Int.reduceMul, Int.reduceLT, Int.reduceLE, Int.reduceEq, Nat.reduceEqDiff, reduceCtorEq, List.mem_singleton, eq_self, not_true_eq_false, not_false_eq_true, or_true, true_or, cmpOk_lstA, cmpOk_tupA, ckA_lst, ckA_tup, ckAl_nil, ckAl_cons, ckAl_ints, ckAl_rangeL, ck_int, ck_bl, ck_non, ck_strI, cmpOk_str, deq_str, deq_tup, deq_lst, deqA_nil, deqA_cons, deqA_ints, Bool.and_true, Bool.true_and, Bool.and_false, Bool.false_and, decide_true, decide_false, Bool.not_true, Bool.not_false, cat_BadName, hM, hL, mput_mput, hv]
    walk_at "sp"
    all_goals first
      | walk_at "cs"
      | exact hQ _ _ _ (em0 hn) (em1 hn) (by omega) (ed0 hn (by omega))
  · simp only [↓sSeq, ↓sAsg, ↓sRet, ↓sRetN, ↓sIf, ↓sDrop, ↓sNext, ↓eVar, ↓bVar, ↓bE, ↓eBin, ↓tE, chS_bl, chS_true, chS_false, wipeE_nil, wipeE_cons, ↓eUn, ↓aNil, ↓aConsB, Option.isSome_some, lk_int, lk_str, chOf_ch, mgK, List.foldl_cons, List.foldl_nil, ↓dI2, ↓dAdd, ↓dIx, ↓eB, ↓cLen, ↓cInt, natc0, natc1, natc2, List.findIdx?_cons, List.findIdx?_nil, intsOf_ints, boolsOf_bls, plAnyI, plAnyR, ↓Sl.val, ↓Ow.toD, ↓stE, ↓eIxM, ↓sSetM, ↓PL.isNon, ↓eC, ↓bC, ↓dSub, ↓dMul, ↓dDiv, ↓dMod, ↓dPow, ↓dLt, List.getElem?_cons_zero, List.getElem?_cons_succ, List.set_cons_zero, List.set_cons_succ, List.map_cons, List.map_nil, List.length_cons, List.length_nil, List.nil_append, List.cons_append, List.replicate_succ, List.replicate_zero, List.append_nil, atI0, atI1, atI2, atI3, atI4, cmpOk_int, cmpOk_bl, cmpOk_non, deq_int, deq_bl, true_and, and_true, Nat.reduceAdd, Nat.reduceSub, Nat.reduceLeDiff, Nat.reduceLT, Bool.not_eq_true', Bool.false_eq_true, if_false, if_true, decide_eq_true_eq, decide_eq_false_iff_not, Nat.zero_add, Nat.sub_zero, Nat.add_zero, Nat.sub_self, ixN31, ixN32, List.length_map, List.length_set, Int.reduceToNat, Int.reducePow, Int.reduceNeg, Int.reduceAdd, Int.reduceSub, Int.reduceMul, Int.reduceLT, Int.reduceLE, Int.reduceEq, Nat.reduceEqDiff, reduceCtorEq, List.mem_singleton, eq_self, not_true_eq_false, not_false_eq_true, or_true, true_or, cmpOk_lstA, cmpOk_tupA, ckA_lst, ckA_tup, ckAl_nil, ckAl_cons, ckAl_ints, ckAl_rangeL, ck_int, ck_bl, ck_non, ck_strI, cmpOk_str, deq_str, deq_tup, deq_lst, deqA_nil, deqA_cons, deqA_ints, Bool.and_true, Bool.true_and, Bool.and_false, Bool.false_and, decide_true, decide_false, Bool.not_true, Bool.not_false, cat_BadName, hM, hL, mput_mput]
    walk_at "sp"
    all_goals first
      | walk_at "cs"
      | exact hQ _ _ _ (em0 hn) (em1 hn) (by omega) (ed0 hn (by omega))

theorem ok__law_tape (T : TF K mg) : FnOk P w K mg base CX0 1 T.a__law_tape T.x__law_tape ["script"] (spTape K) := by
  refine T.f__law_tape.ok sc__law_tape (fun vs H Q E ⟨a, ns, e, _⟩ => by rw [e]; rfl) (fun cdv A outer s H vs Q E hr ⟨a, ns, e, hS, q⟩ => ⟨_, PSs.nox (pss_one (ps_ret (pe_lst (pa_cons (pe_callTy call_list_of (by rfl) T.m_list (by decide +kernel) (pa_cons (pv 0) pa_nil)) (pa_cons pe_int (pa_cons pe_int pa_nil)))))), ?_⟩)
  subst e
  refine ⟨.ref a, rfl, a, _, rfl, .inl hS, fun c hc => ⟨by show 3 ≤ sizeLine; decide, fun p hp => ?_⟩⟩
  have hpc : p ≠ c := fun e => by rw [e, upd_same] at hp; cases hp
  have hp0 : H p = none := by rw [upd_ne hpc] at hp; exact hp
  exact q _ c p (fun b o e => by rw [upd_ne (ne_of_none e hp0), upd_ne (ne_of_none e hc)]; exact e) hc hp0 hpc (by rw [upd_ne hpc.symm, upd_same]) upd_same
local macro_rules | `(tactic| walk_at "go") => `(tactic| repeat' (first | assumption | with_reducible apply And.intro | walk_at "cs"))
local macro_rules | `(tactic| walk_at "ex") => `(tactic| simp only [List.cons.injEq, Sl.va.injEq, Sl.ow.injEq, Ow.lst.injEq, D.int.injEq, D.bl.injEq, D.str.injEq, D.lst.injEq, D.tup.injEq, true_and, and_true])
local macro_rules | `(tactic| walk_at "gn") => `(tactic| simp only [↓gN, ↓gsNil, ↓gsCons, ↓gT, ↓gSq, List.length_cons, List.length_nil, Nat.reduceAdd, true_and, List.set_cons_zero, List.set_cons_succ])
local macro_rules | `(tactic| walk_at "sp") => `(tactic| repeat' (first | split | with_reducible apply And.intro))
local macro_rules | `(tactic| walk_at "cs") => `(tactic| first | (unfold CMulP; omega) | (unfold CPowP; omega) | (unfold CModP; omega) | (unfold CDivP; omega))
local macro_rules | `(tactic| walk_at "pl") => `(tactic| simp only [↓sSeq, ↓sRet, ↓sRetN, ↓sIf, ↓sDrop, ↓sNext, ↓eVar, ↓bVar, ↓bE, ↓eBin, ↓tE, chS_bl, chS_true, chS_false, wipeE_nil, wipeE_cons, ↓qOr, ↓qNot, ↓aNil, ↓aCons, ↓kyOf, Option.isSome_some, lk_int, lk_str, ↓eFld, ↓objOf, ↓sMPut, chOf_ch, mgK, List.foldl_cons, List.foldl_nil, ↓eCall, ↓sRaise, ↓dIn, ↓dInX, natc0, natc1, natc2, List.findIdx?_cons, List.findIdx?_nil, intsOf_ints, boolsOf_bls, plAnyI, plAnyR, ↓Sl.val, ↓Ow.toD, ↓stE, ↓PL.isNon, ↓eC, List.getElem?_cons_zero, List.getElem?_cons_succ, List.set_cons_zero, List.set_cons_succ, List.map_cons, List.map_nil, List.length_cons, List.length_nil, List.nil_append, List.cons_append, List.replicate_succ, List.replicate_zero, List.append_nil, atI0, atI1, atI2, atI3, atI4, cmpOk_int, cmpOk_bl, cmpOk_non, deq_int, deq_bl, true_and, and_true, Nat.reduceAdd, Nat.reduceSub, Nat.reduceLeDiff, Nat.reduceLT, Bool.not_eq_true', Bool.false_eq_true, if_false, if_true, decide_eq_true_eq, decide_eq_false_iff_not, Nat.zero_add, Nat.sub_zero, Nat.add_zero, Nat.sub_self, ixN31, ixN32, List.length_map, List.length_set, Int.reduceToNat, Int.reducePow, Int.reduceNeg, Int.reduceAdd, Int.reduceSub, Int.reduceMul, Int.reduceLT, Int.reduceLE, Int.reduceEq, Nat.reduceEqDiff, reduceCtorEq, List.mem_singleton, eq_self, not_true_eq_false, not_false_eq_true, or_true, true_or, cmpOk_lstA, cmpOk_tupA, ckA_lst, ckA_tup, ckAl_nil, ckAl_cons, ckAl_ints, ckAl_rangeL, ck_int, ck_bl, ck_non, ck_strI, cmpOk_str, deq_str, deq_tup, deq_lst, deqA_nil, deqA_cons, deqA_ints, Bool.and_true, Bool.true_and, Bool.and_false, Bool.false_and, decide_true, decide_false, Bool.not_true, Bool.not_false, ↓p_is_name, cat_BadName])
theorem ok_Shares_m_usual (T : TF K mg) : FnOk P w K mg base (L2.CX P w) 2 (He.ma K (He.ga K "Shares") "usual") T.x_Shares_m_usual ["self", "owner", "level"] (liPX K p_Shares_m_usual) := by
  refine fn_PX T.f_Shares_m_usual sc_Shares_m_usual (by intro ds M Q E h; unfold p_Shares_m_usual at h; split at h <;> first | rfl | exact h.elim) (fun cdv A outer s H E z W hz hr tk => (qs_cons (qs_if (PW.pt (qw_or (qt_not (qt_val (qe_call (ok_is_name T) hr (by rfl) T.g_is_name T.f_is_name.kp T.b_is_name pass0 (qa_cons (qe_var 1) qa_nil)))) (qw_or1 (qt_cmp (ob_notInX (hu65 hr)) (qb_var 2) (qb_of (qe_con (pe_glob (by rfl) T.g_LEVELS T.r_LEVELS) (fun _ => by first | exact Rp.int _ | exact Rp.str _ | exact T.d_LEVELS _ (by first | assumption | rfl)))) (by with_unfolding_all rfl)))))
    (qs_end (qs_raise tk rfl T.q_BadName T.g_BadName T.k_BadName T.b_BadName T.t_BadName (by rfl)))
    qs_nil)
    (qs_end (qs_mput (hu1 hr) (qe_var 2) (qb_of (qe_fld (i := 1) T.c_Shares T.n_Shares__usual (qb_var 0))) (qb_var 1))))) ?_
  intro ds M Q0 E0 h
  unfold p_Shares_m_usual at h
  split at h
  · skip
    obtain ⟨a, b, lt, lu, ⟨s1, s2, s3⟩, ⟨g1, g2, g3⟩, hq, he⟩ := h
    rename_i x o l
    refine sSeq_i fun N1 h1 => ?_
    refine sIf_k fun N hN => ?_
    have no : ¬ (nameB o = true ∧ l ∈ lvls) → N true [.va (.ref x), .va (.str o), .va (.str l)] M := fun w => by
      refine hN _ _ _ ?_
      rw [if_pos rfl]
      walk_at "pl"
      exact he w
    walk_at "pl"
    refine ⟨g1, ?_⟩
    by_cases c1 : nameB o = true
    rotate_left
    · rw [if_pos (Bool.eq_false_iff.mpr c1)]
      exact no fun w => c1 w.1
    rw [if_neg (by rw [c1]; decide)]
    refine ⟨⟨g2, so_none, so_busy, so_all⟩, ?_⟩
    rw [any_lv]
    by_cases c2 : l ∈ lvls
    rotate_left
    · rw [decide_eq_false c2]
      exact no fun w => c2 w.2
    rw [decide_eq_true c2]
    refine hN _ _ _ ?_
    rw [if_neg (by decide)]
    walk_at "pl"
    refine h1 _ _ ?_
    simp only [↓sSeq, ↓sRet, ↓sRetN, ↓sIf, ↓sDrop, ↓sNext, ↓eVar, ↓bVar, ↓bE, ↓eBin, ↓tE, chS_bl, chS_true, chS_false, wipeE_nil, wipeE_cons, ↓qOr, ↓qNot, ↓aNil, ↓aCons, ↓kyOf, Option.isSome_some, lk_int, lk_str, ↓eFld, ↓objOf, ↓sMPut, chOf_ch, mgK, List.foldl_cons, List.foldl_nil, ↓eCall, ↓sRaise, ↓dIn, ↓dInX, natc0, natc1, natc2, List.findIdx?_cons, List.findIdx?_nil, intsOf_ints, boolsOf_bls, plAnyI, plAnyR, ↓Sl.val, ↓Ow.toD, ↓stE, ↓PL.isNon, ↓eC, List.getElem?_cons_zero, List.getElem?_cons_succ, List.set_cons_zero, List.set_cons_succ, List.map_cons, List.map_nil, List.length_cons, List.length_nil, List.nil_append, List.cons_append, List.replicate_succ, List.replicate_zero, List.append_nil, atI0, atI1, atI2, atI3, atI4, cmpOk_int, cmpOk_bl, cmpOk_non, deq_int, deq_bl, true_and, and_true, Nat.reduceAdd, Nat.reduceSub, Nat.reduceLeDiff, Nat.reduceLT, Bool.not_eq_true', Bool.false_eq_true, if_false, if_true, decide_eq_true_eq, decide_eq_false_iff_not, Nat.zero_add, Nat.sub_zero, Nat.add_zero, Nat.sub_self, ixN31, ixN32, List.length_map, List.length_set, Int.reduceToNat, Int.reducePow, Int.reduceNeg, Int.reduceAdd, Int.reduceSub, Int.reduceMul, Int.reduceLT, Int.reduceLE, Int.reduceEq, Nat.reduceEqDiff, reduceCtorEq, List.mem_singleton, eq_self, not_true_eq_false, not_false_eq_true, or_true, true_or, cmpOk_lstA, cmpOk_tupA, ckA_lst, ckA_tup, ckAl_nil, ckAl_cons, ckAl_ints, ckAl_rangeL, ck_int, ck_bl, ck_non, ck_strI, cmpOk_str, deq_str, deq_tup, deq_lst, deqA_nil, deqA_cons, deqA_ints, Bool.and_true, Bool.true_and, Bool.and_false, Bool.false_and, decide_true, decide_false, Bool.not_true, Bool.not_false, ↓p_is_name, cat_BadName, s1, s2, s3, sh_f0, sh_f1, sh_nm]
    exact ⟨g3, hq ⟨c1, c2⟩⟩
  · exact h.elim

local macro_rules | `(tactic| walk_at "go") => `(tactic| repeat' (first | assumption | with_reducible apply And.intro | walk_at "cs"))
local macro_rules | `(tactic| walk_at "ex") => `(tactic| simp only [List.cons.injEq, Sl.va.injEq, Sl.ow.injEq, Ow.lst.injEq, D.int.injEq, D.bl.injEq, D.str.injEq, D.lst.injEq, D.tup.injEq, true_and, and_true])
local macro_rules | `(tactic| walk_at "gn") => `(tactic| simp only [↓gN, ↓gsNil, ↓gsCons, ↓gT, ↓gSq, List.length_cons, List.length_nil, Nat.reduceAdd, true_and, List.set_cons_zero, List.set_cons_succ])
local macro_rules | `(tactic| walk_at "sp") => `(tactic| repeat' (first | split | with_reducible apply And.intro))
local macro_rules | `(tactic| walk_at "cs") => `(tactic| first | (unfold CMulP; omega) | (unfold CPowP; omega) | (unfold CModP; omega) | (unfold CDivP; omega))
local macro_rules | `(tactic| walk_at "pl") => `(tactic| simp only [↓sSeq, ↓sRet, ↓sRetN, ↓sIf, ↓sDrop, ↓sNext, ↓eVar, ↓bVar, ↓bE, ↓eBin, ↓tE, chS_bl, chS_true, chS_false, wipeE_nil, wipeE_cons, ↓qOr, ↓qNot, ↓aNil, ↓aCons, ↓kyOf, Option.isSome_some, lk_int, lk_str, ↓eFld, ↓objOf, ↓sTPut, ↓kyL, chOf_ch, mgK, List.foldl_cons, List.foldl_nil, ↓eCall, ↓sRaise, ↓dIn, ↓dInX, natc0, natc1, natc2, List.findIdx?_cons, List.findIdx?_nil, intsOf_ints, boolsOf_bls, plAnyI, plAnyR, ↓Sl.val, ↓Ow.toD, ↓stE, ↓PL.isNon, ↓eC, List.getElem?_cons_zero, List.getElem?_cons_succ, List.set_cons_zero, List.set_cons_succ, List.map_cons, List.map_nil, List.length_cons, List.length_nil, List.nil_append, List.cons_append, List.replicate_succ, List.replicate_zero, List.append_nil, atI0, atI1, atI2, atI3, atI4, cmpOk_int, cmpOk_bl, cmpOk_non, deq_int, deq_bl, true_and, and_true, Nat.reduceAdd, Nat.reduceSub, Nat.reduceLeDiff, Nat.reduceLT, Bool.not_eq_true', Bool.false_eq_true, if_false, if_true, decide_eq_true_eq, decide_eq_false_iff_not, Nat.zero_add, Nat.sub_zero, Nat.add_zero, Nat.sub_self, ixN31, ixN32, List.length_map, List.length_set, Int.reduceToNat, Int.reducePow, Int.reduceNeg, Int.reduceAdd, Int.reduceSub, Int.reduceMul, Int.reduceLT, Int.reduceLE, Int.reduceEq, Nat.reduceEqDiff, reduceCtorEq, List.mem_singleton, eq_self, not_true_eq_false, not_false_eq_true, or_true, true_or, cmpOk_lstA, cmpOk_tupA, ckA_lst, ckA_tup, ckAl_nil, ckAl_cons, ckAl_ints, ckAl_rangeL, ck_int, ck_bl, ck_non, ck_strI, cmpOk_str, deq_str, deq_tup, deq_lst, deqA_nil, deqA_cons, deqA_ints, Bool.and_true, Bool.true_and, Bool.and_false, Bool.false_and, decide_true, decide_false, Bool.not_true, Bool.not_false, ↓p_is_name, cat_BadName])
theorem ok_Shares_m_tell (T : TF K mg) : FnOk P w K mg base (L2.CX P w) 2 (He.ma K (He.ga K "Shares") "tell") T.x_Shares_m_tell ["self", "owner", "viewer", "level"] (liPX K p_Shares_m_tell) := by
  refine fn_PX T.f_Shares_m_tell sc_Shares_m_tell (by intro ds M Q E h; unfold p_Shares_m_tell at h; split at h <;> first | rfl | exact h.elim) (fun cdv A outer s H E z W hz hr tk => (qs_cons (qs_if (PW.pt (qw_or (qt_not (qt_val (qe_call (ok_is_name T) hr (by rfl) T.g_is_name T.f_is_name.kp T.b_is_name pass0 (qa_cons (qe_var 1) qa_nil)))) (qw_or (qt_not (qt_val (qe_call (ok_is_name T) hr (by rfl) T.g_is_name T.f_is_name.kp T.b_is_name pass0 (qa_cons (qe_var 2) qa_nil)))) (qw_or1 (qt_cmp (ob_notInX (hu65 hr)) (qb_var 3) (qb_of (qe_con (pe_glob (by rfl) T.g_LEVELS T.r_LEVELS) (fun _ => by first | exact Rp.int _ | exact Rp.str _ | exact T.d_LEVELS _ (by first | assumption | rfl)))) (by with_unfolding_all rfl))))))
    (qs_end (qs_raise tk rfl T.q_BadName T.g_BadName T.k_BadName T.b_BadName T.t_BadName (by rfl)))
    qs_nil)
    (qs_end (qs_tput (hu1 hr) (qe_var 3) (qb_of (qe_fld (i := 0) T.c_Shares T.n_Shares__told (qb_var 0))) (qa_cons (qe_var 1) (qa_cons (qe_var 2) qa_nil)))))) ?_
  intro ds M Q0 E0 h
  unfold p_Shares_m_tell at h
  split at h
  · skip
    obtain ⟨a, b, lt, lu, ⟨s1, s2, s3⟩, ⟨g1, g2, g3, g4⟩, hq, he⟩ := h
    rename_i x o v l
    refine sSeq_i fun N1 h1 => ?_
    refine sIf_k fun N hN => ?_
    have no : ¬ (nameB o = true ∧ nameB v = true ∧ l ∈ lvls) → N true [.va (.ref x), .va (.str o), .va (.str v), .va (.str l)] M := fun w => by
      refine hN _ _ _ ?_
      rw [if_pos rfl]
      walk_at "pl"
      exact he w
    walk_at "pl"
    refine ⟨g1, ?_⟩
    by_cases c1 : nameB o = true
    rotate_left
    · rw [if_pos (Bool.eq_false_iff.mpr c1)]
      exact no fun w => c1 w.1
    rw [if_neg (by rw [c1]; decide)]
    refine ⟨g2, ?_⟩
    by_cases c3 : nameB v = true
    rotate_left
    · rw [if_pos (Bool.eq_false_iff.mpr c3)]
      exact no fun w => c3 w.2.1
    rw [if_neg (by rw [c3]; decide)]
    refine ⟨⟨g3, so_none, so_busy, so_all⟩, ?_⟩
    rw [any_lv]
    by_cases c2 : l ∈ lvls
    rotate_left
    · rw [decide_eq_false c2]
      exact no fun w => c2 w.2.2
    rw [decide_eq_true c2]
    refine hN _ _ _ ?_
    rw [if_neg (by decide)]
    walk_at "pl"
    refine h1 _ _ ?_
    simp only [↓sSeq, ↓sRet, ↓sRetN, ↓sIf, ↓sDrop, ↓sNext, ↓eVar, ↓bVar, ↓bE, ↓eBin, ↓tE, chS_bl, chS_true, chS_false, wipeE_nil, wipeE_cons, ↓qOr, ↓qNot, ↓aNil, ↓aCons, ↓kyOf, Option.isSome_some, lk_int, lk_str, ↓eFld, ↓objOf, ↓sTPut, ↓kyL, chOf_ch, mgK, List.foldl_cons, List.foldl_nil, ↓eCall, ↓sRaise, ↓dIn, ↓dInX, natc0, natc1, natc2, List.findIdx?_cons, List.findIdx?_nil, intsOf_ints, boolsOf_bls, plAnyI, plAnyR, ↓Sl.val, ↓Ow.toD, ↓stE, ↓PL.isNon, ↓eC, List.getElem?_cons_zero, List.getElem?_cons_succ, List.set_cons_zero, List.set_cons_succ, List.map_cons, List.map_nil, List.length_cons, List.length_nil, List.nil_append, List.cons_append, List.replicate_succ, List.replicate_zero, List.append_nil, atI0, atI1, atI2, atI3, atI4, cmpOk_int, cmpOk_bl, cmpOk_non, deq_int, deq_bl, true_and, and_true, Nat.reduceAdd, Nat.reduceSub, Nat.reduceLeDiff, Nat.reduceLT, Bool.not_eq_true', Bool.false_eq_true, if_false, if_true, decide_eq_true_eq, decide_eq_false_iff_not, Nat.zero_add, Nat.sub_zero, Nat.add_zero, Nat.sub_self, ixN31, ixN32, List.length_map, List.length_set, Int.reduceToNat, Int.reducePow, Int.reduceNeg, Int.reduceAdd, Int.reduceSub, Int.reduceMul, Int.reduceLT, Int.reduceLE, Int.reduceEq, Nat.reduceEqDiff, reduceCtorEq, List.mem_singleton, eq_self, not_true_eq_false, not_false_eq_true, or_true, true_or, cmpOk_lstA, cmpOk_tupA, ckA_lst, ckA_tup, ckAl_nil, ckAl_cons, ckAl_ints, ckAl_rangeL, ck_int, ck_bl, ck_non, ck_strI, cmpOk_str, deq_str, deq_tup, deq_lst, deqA_nil, deqA_cons, deqA_ints, Bool.and_true, Bool.true_and, Bool.and_false, Bool.false_and, decide_true, decide_false, Bool.not_true, Bool.not_false, ↓p_is_name, cat_BadName, s1, s2, s3, sh_f0, sh_f1, sh_nm]
    exact ⟨g4, hq ⟨c1, c3, c2⟩⟩
  · exact h.elim

local macro_rules | `(tactic| walk_at "go") => `(tactic| repeat' (first | assumption | with_reducible apply And.intro | walk_at "cs"))
local macro_rules | `(tactic| walk_at "ex") => `(tactic| simp only [List.cons.injEq, Sl.va.injEq, Sl.ow.injEq, Ow.lst.injEq, D.int.injEq, D.bl.injEq, D.str.injEq, D.lst.injEq, D.tup.injEq, true_and, and_true])
local macro_rules | `(tactic| walk_at "gn") => `(tactic| simp only [↓gN, ↓gsNil, ↓gsCons, ↓gT, ↓gSq, List.length_cons, List.length_nil, Nat.reduceAdd, true_and, List.set_cons_zero, List.set_cons_succ])
local macro_rules | `(tactic| walk_at "sp") => `(tactic| repeat' (first | split | with_reducible apply And.intro))
local macro_rules | `(tactic| walk_at "cs") => `(tactic| first | (unfold CMulP; omega) | (unfold CPowP; omega) | (unfold CModP; omega) | (unfold CDivP; omega))
local macro_rules | `(tactic| walk_at "pl") => `(tactic| simp only [↓sSeq, ↓sAsg, ↓sRet, ↓sRetN, ↓sIf, ↓sDrop, ↓sNext, ↓eVar, ↓bVar, ↓eBin, ↓tE, chS_bl, chS_true, chS_false, wipeE_nil, wipeE_cons, ↓aNil, ↓aCons, ↓aConsB, ↓eTup, ↓eLst, ↓iSeq, Option.isSome_some, lk_int, lk_str, ↓eMeth, ↓objOf, chOf_ch, mgK, List.foldl_cons, List.foldl_nil, ↓gN, ↓gsNil, ↓gsCons, ↓dEq, ↓eB, ↓cList, ↓gSq, natc0, natc1, natc2, List.findIdx?_cons, List.findIdx?_nil, intsOf_ints, boolsOf_bls, plAnyI, plAnyR, ↓Sl.val, ↓Ow.toD, ↓stE, ↓tYes', ↓PL.isNon, ↓eC, ↓bC, List.getElem?_cons_zero, List.getElem?_cons_succ, List.set_cons_zero, List.set_cons_succ, List.map_cons, List.map_nil, List.length_cons, List.length_nil, List.nil_append, List.cons_append, List.replicate_succ, List.replicate_zero, List.append_nil, atI0, atI1, atI2, atI3, atI4, cmpOk_int, cmpOk_bl, cmpOk_non, deq_int, deq_bl, true_and, and_true, Nat.reduceAdd, Nat.reduceSub, Nat.reduceLeDiff, Nat.reduceLT, Bool.not_eq_true', Bool.false_eq_true, if_false, if_true, decide_eq_true_eq, decide_eq_false_iff_not, Nat.zero_add, Nat.sub_zero, Nat.add_zero, Nat.sub_self, ixN31, ixN32, List.length_map, List.length_set, Int.reduceToNat, Int.reducePow, Int.reduceNeg, Int.reduceAdd, Int.reduceSub, Int.reduceMul, Int.reduceLT, Int.reduceLE, Int.reduceEq, Nat.reduceEqDiff, reduceCtorEq, List.mem_singleton, eq_self, not_true_eq_false, not_false_eq_true, or_true, true_or, cmpOk_lstA, cmpOk_tupA, ckA_lst, ckA_tup, ckAl_nil, ckAl_cons, ckAl_ints, ckAl_rangeL, ck_int, ck_bl, ck_non, ck_strI, cmpOk_str, deq_str, deq_tup, deq_lst, deqA_nil, deqA_cons, deqA_ints, Bool.and_true, Bool.true_and, Bool.and_false, Bool.false_and, decide_true, decide_false, Bool.not_true, Bool.not_false, ↓p_Shares_m_level, cat_BadName])
theorem ok_Shares_m_shown (T : TF K mg) : FnOk P w K mg base CX0 2 (He.ma K (He.ga K "Shares") "shown") T.x_Shares_m_shown ["self", "owner", "viewer", "rows"] (liP K p_Shares_m_shown) := by
  refine fn_P T.f_Shares_m_shown sc_Shares_m_shown (by intro ds M Q E h; unfold p_Shares_m_shown at h; split at h <;> first | rfl | exact h.elim) (fun cdv A outer s H E z hz hr => (qs_cons (qs_set (i := 4) sc_Shares_m_shown.nd rfl (by first | exact Or.inl rfl | exact Or.inr rfl) (qe_ometh (E := fun _ _ _ => False) (qb_var 0) T.c_Shares T.me_Shares_m_level (ok_Shares_m_level T) hr T.b_Shares_m_level pass0 (qa_cons (qe_var 1) (qa_cons (qe_var 2) qa_nil))))
    (qs_cons (qs_if (qt_cmp (ob_eq (hu64 hr)) (qb_var 4) qb_str (nomark _))
    (qs_end (qs_ret (qe_lst qa_nil)))
    qs_nil)
    (qs_cons (qs_if (qt_cmp (ob_eq (hu64 hr)) (qb_var 4) qb_str (nomark _))
    (qs_end (qs_ret (qe_callTy cb_list (by rfl) T.m_list (by decide +kernel) (qab_cons (qb_var 3) qab_nil))))
    qs_nil)
    (qs_end (qs_ret (qe_lc rfl sc_Shares_m_shown.nd (own := [("start", 5), ("end", 6), ("item", 7)]) (qi_seq (h := (qe_var 3))) (blkOk_by (own := [("start", 5), ("end", 6), ("item", 7)]) (N := N_Shares_m_shown) (sc := defScope s_Shares_m_shown) (by decide +kernel)) (fun _ _ _ _ _ z hz => (qg_seq (n := 3) rfl (qgs_cons (qg_name (i := 5) sc_Shares_m_shown.nd rfl (by first | exact Or.inl rfl | exact Or.inr rfl)) (qgs_cons (qg_name (i := 6) sc_Shares_m_shown.nd rfl (by first | exact Or.inl rfl | exact Or.inr rfl)) (qgs_cons (qg_name (i := 7) sc_Shares_m_shown.nd rfl (by first | exact Or.inl rfl | exact Or.inr rfl)) qgs_nil))))) (fun _ _ _ _ _ => an_t0) (fun _ _ _ _ _ z hz => (qe_tup (qa_cons (qe_var 5) (qa_cons (qe_var 6) (qa_cons qe_non qa_nil)))))))))))) ?_
  intro ds M Q0 h
  unfold p_Shares_m_shown at h
  split at h
  · skip
    obtain ⟨a, b, lt, lu, ⟨s1, s2, s3⟩, hlv, ⟨g1, g2, g3, g4⟩, h⟩ := h
    rename_i x o v rs
    refine sSeq_i fun N1 h1 => ?_
    simp only [↓sSeq, ↓sAsg, ↓sRet, ↓sRetN, ↓sIf, ↓sDrop, ↓sNext, ↓eVar, ↓bVar, ↓eBin, ↓tE, chS_bl, chS_true, chS_false, wipeE_nil, wipeE_cons, ↓aNil, ↓aCons, ↓aConsB, ↓eTup, ↓eLst, ↓iSeq, Option.isSome_some, lk_int, lk_str, ↓eMeth, ↓objOf, chOf_ch, mgK, List.foldl_cons, List.foldl_nil, ↓gN, ↓gsNil, ↓gsCons, ↓dEq, ↓eB, ↓cList, ↓gSq, natc0, natc1, natc2, List.findIdx?_cons, List.findIdx?_nil, intsOf_ints, boolsOf_bls, plAnyI, plAnyR, ↓Sl.val, ↓Ow.toD, ↓stE, ↓tYes', ↓PL.isNon, ↓eC, ↓bC, List.getElem?_cons_zero, List.getElem?_cons_succ, List.set_cons_zero, List.set_cons_succ, List.map_cons, List.map_nil, List.length_cons, List.length_nil, List.nil_append, List.cons_append, List.replicate_succ, List.replicate_zero, List.append_nil, atI0, atI1, atI2, atI3, atI4, cmpOk_int, cmpOk_bl, cmpOk_non, deq_int, deq_bl, true_and, and_true, Nat.reduceAdd, Nat.reduceSub, Nat.reduceLeDiff, Nat.reduceLT, Bool.not_eq_true', Bool.false_eq_true, if_false, if_true, decide_eq_true_eq, decide_eq_false_iff_not, Nat.zero_add, Nat.sub_zero, Nat.add_zero, Nat.sub_self, ixN31, ixN32, List.length_map, List.length_set, Int.reduceToNat, Int.reducePow, Int.reduceNeg, Int.reduceAdd, Int.reduceSub, Int.reduceMul, Int.reduceLT, Int.reduceLE, Int.reduceEq, Nat.reduceEqDiff, reduceCtorEq, List.mem_singleton, eq_self, not_true_eq_false, not_false_eq_true, or_true, true_or, cmpOk_lstA, cmpOk_tupA, ckA_lst, ckA_tup, ckAl_nil, ckAl_cons, ckAl_ints, ckAl_rangeL, ck_int, ck_bl, ck_non, ck_strI, cmpOk_str, deq_str, deq_tup, deq_lst, deqA_nil, deqA_cons, deqA_ints, Bool.and_true, Bool.true_and, Bool.and_false, Bool.false_and, decide_true, decide_false, Bool.not_true, Bool.not_false, ↓p_Shares_m_level, cat_BadName, s1, s2, s3, sh_nm, sh_no1]
    refine ⟨a, b, lt, lu, ⟨s1, s2, s3⟩, hlv, ⟨g1, g2⟩, h1 _ _ ?_⟩
    clear h1
    obtain ⟨l, hl⟩ : ∃ l, levD lt lu o v = .str l ∧ l ∈ lvls := by
      unfold levD
      split
      · exact ⟨_, rfl, mem_lv.mpr (.inr (.inr rfl))⟩
      · cases e : gK lt [Sum.inr o, Sum.inr v] with
        | some d => obtain ⟨l, h1, rfl⟩ := hlv.1 _ _ e; exact ⟨l, rfl, h1⟩
        | none =>
          cases e2 : gK lu (Sum.inr o) with
          | some d => obtain ⟨l, h1, rfl⟩ := hlv.2 _ _ e2; exact ⟨l, rfl, h1⟩
          | none => exact ⟨_, rfl, mem_lv.mpr (.inr (.inl rfl))⟩
    rw [hl.1] at h ⊢
    have hso : PyData.strOk l = true := by
      rcases mem_lv.mp hl.2 with w | w | w <;> rw [w] <;> decide +kernel
    rw [shownL_str] at h
    refine sSeq_i fun N1 h1 => ?_
    walk_at "pl"
    refine ⟨⟨hso, so_none⟩, ?_⟩
    by_cases c1 : l = Str.ofString "none"
    · rw [if_pos c1] at h ⊢
      exact h
    rw [if_neg c1] at h ⊢
    refine h1 _ _ ?_
    clear h1
    refine sSeq_i fun N1 h1 => ?_
    walk_at "pl"
    refine ⟨⟨hso, so_all⟩, ?_⟩
    by_cases c2 : l = Str.ofString "all"
    · rw [if_pos c2] at h ⊢
      exact h
    rw [if_neg c2] at h ⊢
    refine h1 _ _ ?_
    clear h1
    walk_at "pl"
    refine eLc_fm hideD rs (fun Q h => by walk_at "pl"; exact h) rfl (by omega) ?_ ?_
    · intro i d acc J hd hl2 hJ
      obtain ⟨p, q, t, rfl⟩ := g4 d (List.mem_of_getElem? hd)
      walk_at "gn"
      walk_at "pl"
      exact ⟨hl2, hJ⟩
    exact h
  · exact h.elim

local macro_rules | `(tactic| walk_at "go") => `(tactic| repeat' (first | assumption | with_reducible apply And.intro | walk_at "cs"))
local macro_rules | `(tactic| walk_at "ex") => `(tactic| simp only [List.cons.injEq, Sl.va.injEq, Sl.ow.injEq, Ow.lst.injEq, D.int.injEq, D.bl.injEq, D.str.injEq, D.lst.injEq, D.tup.injEq, true_and, and_true])
local macro_rules | `(tactic| walk_at "gn") => `(tactic| simp only [↓gN, ↓gsNil, ↓gsCons, ↓gT, ↓gSq, List.length_cons, List.length_nil, Nat.reduceAdd, true_and, List.set_cons_zero, List.set_cons_succ])
local macro_rules | `(tactic| walk_at "sp") => `(tactic| repeat' (first | split | with_reducible apply And.intro))
local macro_rules | `(tactic| walk_at "cs") => `(tactic| first | (unfold CMulP; omega) | (unfold CPowP; omega) | (unfold CModP; omega) | (unfold CDivP; omega))
local macro_rules | `(tactic| walk_at "pl") => `(tactic| simp only [↓sSeq, ↓sAsg, ↓sRet, ↓sRetN, ↓sDrop, ↓sNext, ↓eVar, ↓bVar, ↓eMov, chS_bl, chS_true, chS_false, wipeE_nil, wipeE_cons, ↓aNil, ↓aCons, ↓aConsB, ↓eLst, ↓iR1, Option.isSome_some, lk_int, lk_str, ↓sAppPop, chOf_ch, mgK, List.foldl_cons, List.foldl_nil, ↓gN, ↓eCall, ↓eB, ↓cLen, natc0, natc1, natc2, List.findIdx?_cons, List.findIdx?_nil, intsOf_ints, boolsOf_bls, plAnyI, plAnyR, ↓Sl.val, ↓Ow.toD, ↓stE, ↓PL.isNon, ↓eC, List.getElem?_cons_zero, List.getElem?_cons_succ, List.set_cons_zero, List.set_cons_succ, List.map_cons, List.map_nil, List.length_cons, List.length_nil, List.nil_append, List.cons_append, List.replicate_succ, List.replicate_zero, List.append_nil, atI0, atI1, atI2, atI3, atI4, cmpOk_int, cmpOk_bl, cmpOk_non, deq_int, deq_bl, true_and, and_true, Nat.reduceAdd, Nat.reduceSub, Nat.reduceLeDiff, Nat.reduceLT, Bool.not_eq_true', Bool.false_eq_true, if_false, if_true, decide_eq_true_eq, decide_eq_false_iff_not, Nat.zero_add, Nat.sub_zero, Nat.add_zero, Nat.sub_self, ixN31, ixN32, List.length_map, List.length_set, Int.reduceToNat, Int.reducePow, Int.reduceNeg, Int.reduceAdd, Int.reduceSub, Int.reduceMul, Int.reduceLT, Int.reduceLE, Int.reduceEq, Nat.reduceEqDiff, reduceCtorEq, List.mem_singleton, eq_self, not_true_eq_false, not_false_eq_true, or_true, true_or, cmpOk_lstA, cmpOk_tupA, ckA_lst, ckA_tup, ckAl_nil, ckAl_cons, ckAl_ints, ckAl_rangeL, ck_int, ck_bl, ck_non, ck_strI, cmpOk_str, deq_str, deq_tup, deq_lst, deqA_nil, deqA_cons, deqA_ints, Bool.and_true, Bool.true_and, Bool.and_false, Bool.false_and, decide_true, decide_false, Bool.not_true, Bool.not_false, ↓pDraw, cat_BadName])
theorem ok__law_names (T : TF K mg) : FnOk P w K mg base CX0 2 T.a__law_names T.x__law_names ["tape", "many"] (liP K p__law_names) := by
  refine fn_P T.f__law_names sc__law_names (by intro ds M Q E h; unfold p__law_names at h; split at h <;> first | rfl | exact h.elim) (fun cdv A outer s H E z hz hr => (qs_cons (qs_set (i := 2) sc__law_names.nd rfl (by first | exact Or.inl rfl | exact Or.inr rfl) (qe_lst (qa_cons qe_str (qa_cons qe_str (qa_cons qe_str (qa_cons qe_str (qa_cons qe_str (qa_cons qe_str qa_nil))))))))
    (qs_cons (qs_set (i := 3) sc__law_names.nd rfl (by first | exact Or.inl rfl | exact Or.inr rfl) (qe_lst qa_nil))
    (qs_cons (qs_for PassesOwn.never rfl (qi_range1 (by rfl) T.m_range (qa_cons (qe_var 1) qa_nil)) (qg_name (i := 4) sc__law_names.nd rfl (by first | exact Or.inl rfl | exact Or.inr rfl))
    (qs_end (qs_appPop (i := 3) (j := 2) rfl (by first | exact Or.inl rfl | exact Or.inr (Or.inl rfl) | exact Or.inr (Or.inr rfl)) rfl (by first | exact Or.inl rfl | exact Or.inr (Or.inl rfl) | exact Or.inr (Or.inr rfl)) (qe_call (ok__law_draw T) hr (by rfl) T.g__law_draw T.f__law_draw.kp T.b__law_draw pass0 (qa_cons (qe_var 0) (qa_cons (qe_callB cb_len (by rfl) T.m_len (by decide +kernel) (qab_cons (qb_var 2) qab_nil)) qa_nil))))))
    (qs_end (qs_ret (qe_mov 3))))))) ?_
  intro ds M Q0 h
  unfold p__law_names at h
  split at h
  · skip
    obtain ⟨⟨hT, h0, hm⟩, h⟩ := h
    rename_i T many
    refine sSeq_i fun N1 h1 => ?_
    walk_at "pl"
    refine h1 _ _ ?_
    clear h1
    refine sSeq_i fun N1 h1 => ?_
    walk_at "pl"
    refine h1 _ _ ?_
    clear h1
    refine sSeq_i fun N1 h1 => ?_
    refine sFor_k fun N hN => ?_
    walk_at "pl"
    refine ⟨⟨by omega, by omega⟩, hN _ _ _ ?_⟩
    clear hN
    refine loop_i (fun i ρ M1 => M1 = M ∧ ∃ (ps ns : List Str) (k : Sl), (ns.length = i ∧ (ns ++ ps).Nodup ∧ (∀ n ∈ ns ++ ps, n ∈ pool0) ∧ ps.length + i = 6) ∧ ρ = [.va (.ref T), .va (.int many), .ow (.lst (ps.map D.str)), .ow (.lst (ns.map D.str)), k]) ⟨rfl, pool0, [], _, ⟨rfl, by decide +kernel, by simp, rfl⟩, rfl⟩ ?_ ?_
    · rintro J hJ i dd ρ M1 hd ⟨rfl, ps, ns, k, ⟨n1, n2, n3, n4⟩, rfl⟩
      obtain ⟨rfl, hi⟩ := rangeL_get hd
      walk_at "gn"
      walk_at "pl"
      refine ⟨by decide, ⟨hT, by omega, by omega⟩, fun r r0 r1 => ⟨⟨⟨r0, r1, by omega⟩, by omega⟩, ?_⟩⟩
      obtain ⟨p, hp⟩ : ∃ p, ps[r.toNat]? = some p := ⟨_, List.getElem?_eq_getElem (by omega)⟩
      rw [List.getElem?_map, hp]
      obtain ⟨hlt, _⟩ := List.getElem?_eq_some_iff.mp hp
      have hperm : ((ns ++ [p]) ++ ps.eraseIdx r.toNat).Perm (ns ++ ps) := by
        rw [List.append_assoc]
        refine List.Perm.append_left ns ?_
        exact erase_perm hp
      have := hJ (i + 1) _ _ ⟨rfl, ps.eraseIdx r.toNat, ns ++ [p], .va (.int (0 + (i : Int))), ⟨by simp [n1], hperm.nodup_iff.mpr n2, fun n hn => n3 n (hperm.mem_iff.mp hn), by rw [List.length_eraseIdx_of_lt hlt]; omega⟩, rfl⟩
      rw [List.map_append, map_erase] at this
      exact this
    · rintro ρ M1 ⟨rfl, ps, ns, k, ⟨n1, n2, n3, n4⟩, rfl⟩
      rw [rangeL_len] at n1
      refine h1 _ _ ?_
      clear h1
      walk_at "pl"
      exact h ns (List.nodup_append.mp n2).1 (fun n hn => n3 n (List.mem_append.mpr (.inl hn))) (by omega)
  · exact h.elim

local macro_rules | `(tactic| walk_at "go") => `(tactic| repeat' (first | assumption | with_reducible apply And.intro | walk_at "cs"))
local macro_rules | `(tactic| walk_at "ex") => `(tactic| simp only [List.cons.injEq, Sl.va.injEq, Sl.ow.injEq, Ow.lst.injEq, D.int.injEq, D.bl.injEq, D.str.injEq, D.lst.injEq, D.tup.injEq, true_and, and_true])
local macro_rules | `(tactic| walk_at "gn") => `(tactic| simp only [↓gN, ↓gsNil, ↓gsCons, ↓gT, ↓gSq, List.length_cons, List.length_nil, Nat.reduceAdd, true_and, List.set_cons_zero, List.set_cons_succ])
local macro_rules | `(tactic| walk_at "sp") => `(tactic| repeat' (first | split | with_reducible apply And.intro))
local macro_rules | `(tactic| walk_at "cs") => `(tactic| first | (unfold CMulP; omega) | (unfold CPowP; omega) | (unfold CModP; omega) | (unfold CDivP; omega))
local macro_rules | `(tactic| walk_at "pl") => `(tactic| simp only [↓sSeq, ↓sRet, ↓sRetN, ↓sIf, ↓sDrop, ↓sNext, ↓eVar, ↓bVar, ↓eBin, ↓tE, chS_bl, chS_true, chS_false, wipeE_nil, wipeE_cons, ↓aNil, ↓aCons, Option.isSome_some, lk_int, lk_str, ↓eMethX, ↓objOf, chOf_ch, mgK, List.foldl_cons, List.foldl_nil, ↓sTry, ↓dEq, ↓dIx, natc0, natc1, natc2, List.findIdx?_cons, List.findIdx?_nil, intsOf_ints, boolsOf_bls, plAnyI, plAnyR, ↓Sl.val, ↓Ow.toD, ↓stE, ↓PL.isNon, ↓eC, ↓bC, List.getElem?_cons_zero, List.getElem?_cons_succ, List.set_cons_zero, List.set_cons_succ, List.map_cons, List.map_nil, List.length_cons, List.length_nil, List.nil_append, List.cons_append, List.replicate_succ, List.replicate_zero, List.append_nil, atI0, atI1, atI2, atI3, atI4, cmpOk_int, cmpOk_bl, cmpOk_non, deq_int, deq_bl, true_and, and_true, Nat.reduceAdd, Nat.reduceSub, Nat.reduceLeDiff, Nat.reduceLT, Bool.not_eq_true', Bool.false_eq_true, if_false, if_true, decide_eq_true_eq, decide_eq_false_iff_not, Nat.zero_add, Nat.sub_zero, Nat.add_zero, Nat.sub_self, ixN31, ixN32, List.length_map, List.length_set, Int.reduceToNat, Int.reducePow, Int.reduceNeg, Int.reduceAdd, Int.reduceSub, Int.reduceMul, Int.reduceLT, Int.reduceLE, Int.reduceEq, Nat.reduceEqDiff, reduceCtorEq, List.mem_singleton, eq_self, not_true_eq_false, not_false_eq_true, or_true, true_or, cmpOk_lstA, cmpOk_tupA, ckA_lst, ckA_tup, ckAl_nil, ckAl_cons, ckAl_ints, ckAl_rangeL, ck_int, ck_bl, ck_non, ck_strI, cmpOk_str, deq_str, deq_tup, deq_lst, deqA_nil, deqA_cons, deqA_ints, Bool.and_true, Bool.true_and, Bool.and_false, Bool.false_and, decide_true, decide_false, Bool.not_true, Bool.not_false, ↓p_Shares_m_tell, ↓p_Shares_m_usual, cat_BadName])
theorem ok__law_refused (T : TF K mg) : FnOk P w K mg base CX0 3 T.a__law_refused T.x__law_refused ["shares", "way", "names", "level"] (liP K p__law_refused) := by
  refine fn_P T.f__law_refused sc__law_refused (by intro ds M Q E h; unfold p__law_refused at h; split at h <;> first | rfl | exact h.elim) (fun cdv A outer s H E z hz hr => (qs_cons (qs_try (cat := cat_BadName) rfl rfl (by rfl) (by decide) T.g_BadName takesF (by first | assumption | rfl) T.ct_BadName (fun z W pn xe hz tk => (qs_end (qs_if (qt_cmp (ob_eq (hu64 hr)) (qb_var 1) qb_int (nomark _))
    (qs_end (qs_expr (qe_omethX tk (qb_var 0) T.c_Shares T.me_Shares_m_usual (ok_Shares_m_usual T) hr T.b_Shares_m_usual (qa_cons (qe_ix (qb_var 2) qb_int) (qa_cons (qe_var 3) qa_nil)))))
    (qs_end (qs_expr (qe_omethX tk (qb_var 0) T.c_Shares T.me_Shares_m_tell (ok_Shares_m_tell T) hr T.b_Shares_m_tell (qa_cons (qe_ix (qb_var 2) qb_int) (qa_cons (qe_ix (qb_var 2) qb_int) (qa_cons (qe_var 3) qa_nil)))))))))
    (fun z a pn hz => (qs_end (qs_ret qe_bl))))
    (qs_end (qs_ret qe_bl)))) ?_
  intro ds M Q0 h
  unfold p__law_refused at h
  split at h
  · skip
    obtain ⟨a, b, lt, lu, hsh, ⟨g1, g2, g3, g4, g5, g6⟩, hno, h⟩ := h
    rename_i x way o v l
    have s1 := hsh.1
    refine sSeq_i fun N1 h1 => ?_
    simp only [↓sSeq, ↓sRet, ↓sRetN, ↓sIf, ↓sDrop, ↓sNext, ↓eVar, ↓bVar, ↓eBin, ↓tE, chS_bl, chS_true, chS_false, wipeE_nil, wipeE_cons, ↓aNil, ↓aCons, Option.isSome_some, lk_int, lk_str, ↓eMethX, ↓objOf, chOf_ch, mgK, List.foldl_cons, List.foldl_nil, ↓sTry, ↓dEq, ↓dIx, natc0, natc1, natc2, List.findIdx?_cons, List.findIdx?_nil, intsOf_ints, boolsOf_bls, plAnyI, plAnyR, ↓Sl.val, ↓Ow.toD, ↓stE, ↓PL.isNon, ↓eC, ↓bC, List.getElem?_cons_zero, List.getElem?_cons_succ, List.set_cons_zero, List.set_cons_succ, List.map_cons, List.map_nil, List.length_cons, List.length_nil, List.nil_append, List.cons_append, List.replicate_succ, List.replicate_zero, List.append_nil, atI0, atI1, atI2, atI3, atI4, cmpOk_int, cmpOk_bl, cmpOk_non, deq_int, deq_bl, true_and, and_true, Nat.reduceAdd, Nat.reduceSub, Nat.reduceLeDiff, Nat.reduceLT, Bool.not_eq_true', Bool.false_eq_true, if_false, if_true, decide_eq_true_eq, decide_eq_false_iff_not, Nat.zero_add, Nat.sub_zero, Nat.add_zero, Nat.sub_self, ixN31, ixN32, List.length_map, List.length_set, Int.reduceToNat, Int.reducePow, Int.reduceNeg, Int.reduceAdd, Int.reduceSub, Int.reduceMul, Int.reduceLT, Int.reduceLE, Int.reduceEq, Nat.reduceEqDiff, reduceCtorEq, List.mem_singleton, eq_self, not_true_eq_false, not_false_eq_true, or_true, true_or, cmpOk_lstA, cmpOk_tupA, ckA_lst, ckA_tup, ckAl_nil, ckAl_cons, ckAl_ints, ckAl_rangeL, ck_int, ck_bl, ck_non, ck_strI, cmpOk_str, deq_str, deq_tup, deq_lst, deqA_nil, deqA_cons, deqA_ints, Bool.and_true, Bool.true_and, Bool.and_false, Bool.false_and, decide_true, decide_false, Bool.not_true, Bool.not_false, ↓p_Shares_m_tell, ↓p_Shares_m_usual, cat_BadName, s1, sh_nm, sh_no2, sh_no3]
    rcases g1 with rfl | rfl
    · rw [if_pos rfl]
      exact ⟨a, b, lt, lu, hsh, ⟨g2, g4, g6⟩, fun w => absurd ⟨w.1, fun e => (by cases e), w.2⟩ hno, fun _ => h⟩
    · rw [if_neg (by decide)]
      exact ⟨a, b, lt, lu, hsh, ⟨g2, g3, g4, g5⟩, fun w => absurd ⟨w.1, fun _ => w.2.1, w.2.2⟩ hno, fun _ => h⟩
  · exact h.elim


local macro_rules | `(tactic| walk_at "go") => `(tactic| repeat' (first | assumption | with_reducible apply And.intro | walk_at "cs"))
local macro_rules | `(tactic| walk_at "ex") => `(tactic| simp only [List.cons.injEq, Sl.va.injEq, Sl.ow.injEq, Ow.lst.injEq, D.int.injEq, D.bl.injEq, D.str.injEq, D.lst.injEq, D.tup.injEq, true_and, and_true])
local macro_rules | `(tactic| walk_at "gn") => `(tactic| simp only [↓gN, ↓gsNil, ↓gsCons, ↓gT, ↓gSq, List.length_cons, List.length_nil, Nat.reduceAdd, true_and, List.set_cons_zero, List.set_cons_succ])
local macro_rules | `(tactic| walk_at "sp") => `(tactic| repeat' (first | split | with_reducible apply And.intro))
local macro_rules | `(tactic| walk_at "cs") => `(tactic| first | (unfold CMulP; omega) | (unfold CPowP; omega) | (unfold CModP; omega) | (unfold CDivP; omega))
local macro_rules | `(tactic| walk_at "pl") => `(tactic| simp only [↓sSeq, ↓sAsg, ↓sRet, ↓sRetN, ↓sIf, ↓sDrop, ↓sNext, ↓eVar, ↓bVar, ↓bE, ↓eBin, ↓tE, chS_bl, chS_true, chS_false, wipeE_nil, wipeE_cons, ↓qOr, ↓qNot, ↓eAnd_eq, ↓aNil, ↓aCons, ↓aConsB, ↓eTup, ↓eLst, ↓iSeq, ↓iR1, ↓cSortD, ↓kyOf, Option.isSome_some, lk_int, lk_str, ↓eMeth, ↓eMethX, ↓objOf, ↓eDNew, ↓eMGet, ↓eMGet2, ↓sMPut, ↓dicOf, ↓eTNew, ↓eTGet2, ↓eTPop2, ↓sTPut, ↓ditOf, ↓kysOf, ↓kyL, ↓eMakeM, chOf_ch, ↓eDisp, ↓eDsp, mgK, List.foldl_cons, List.foldl_nil, ↓gN, ↓gsNil, ↓gsCons, ↓eCall, ↓dAdd, ↓dEq, ↓dNe, ↓dIx, ↓eB, ↓cList, ↓gSq, natc0, natc1, natc2, List.findIdx?_cons, List.findIdx?_nil, intsOf_ints, boolsOf_bls, plAnyI, plAnyR, ↓Sl.val, ↓Ow.toD, ↓stE, ↓tYes', ↓PL.isNon, ↓eC, ↓bC, List.getElem?_cons_zero, List.getElem?_cons_succ, List.set_cons_zero, List.set_cons_succ, List.map_cons, List.map_nil, List.length_cons, List.length_nil, List.nil_append, List.cons_append, List.replicate_succ, List.replicate_zero, List.append_nil, atI0, atI1, atI2, atI3, atI4, cmpOk_int, cmpOk_bl, cmpOk_non, deq_int, deq_bl, true_and, and_true, Nat.reduceAdd, Nat.reduceSub, Nat.reduceLeDiff, Nat.reduceLT, Bool.not_eq_true', Bool.false_eq_true, if_false, if_true, decide_eq_true_eq, decide_eq_false_iff_not, Nat.zero_add, Nat.sub_zero, Nat.add_zero, Nat.sub_self, ixN31, ixN32, List.length_map, List.length_set, Int.reduceToNat, Int.reducePow, Int.reduceNeg, Int.reduceAdd, Int.reduceSub, Int.reduceMul, Int.reduceLT, Int.reduceLE, Int.reduceEq, Nat.reduceEqDiff, reduceCtorEq, List.mem_singleton, eq_self, not_true_eq_false, not_false_eq_true, or_true, true_or, cmpOk_lstA, cmpOk_tupA, ckA_lst, ckA_tup, ckAl_nil, ckAl_cons, ckAl_ints, ckAl_rangeL, ck_int, ck_bl, ck_non, ck_strI, cmpOk_str, deq_str, deq_tup, deq_lst, deqA_nil, deqA_cons, deqA_ints, Bool.and_true, Bool.true_and, Bool.and_false, Bool.false_and, decide_true, decide_false, Bool.not_true, Bool.not_false, ↓pDraw, ↓p_Shares_m___init__, ↓p_Shares_m_forget, ↓p_Shares_m_level, ↓p_Shares_m_shown, ↓p_Shares_m_tell, ↓p_Shares_m_usual, ↓p_Shares_m_viewers, ↓p__law_names, ↓p__law_refused, cat_BadName])
theorem ok_law (T : TF K mg) : FnOk P w K mg base CX0 4 T.a_law T.x_law ["script"] (spLaw K) := by
  refine T.f_law.ok sc_law (fun vs H Q E ⟨a, ns, e, _⟩ => by rw [e]; rfl) (fun cdv A outer s H vs Q E hr ⟨a, ns, e, hS, q⟩ => ⟨_, PSs.nox (pss_cons (ps_set (i := 1) sc_law.nd rfl (by first | exact Or.inl rfl | exact Or.inr rfl) (pe_call (ok__law_tape T) (hr.mono (by decide)) (by rfl) T.g__law_tape T.f__law_tape.kp T.b__law_tape .nil pass0 (pa_cons (pv 0) pa_nil)))
    (show PSs _ _ (liS (zOf K H (fun _ => none) []) _) from (qs_cons (qs_set (i := 2) sc_law.nd rfl (by first | exact Or.inl rfl | exact Or.inr rfl) (qe_call (ok__law_names T) (hr.mono (by decide)) (by rfl) T.g__law_names T.f__law_names.kp T.b__law_names pass0 (qa_cons (qe_var 1) (qa_cons qe_int qa_nil))))
    (qs_cons (qs_set (i := 3) sc_law.nd rfl (by first | exact Or.inl rfl | exact Or.inr rfl) (qe_makeM0 takesF T.mk_Shares (ok_Shares_m___init__ T) (hr.mono (by decide)) (by rfl) T.g_Shares T.kb_Shares))
    (qs_cons (qs_set (i := 4) sc_law.nd rfl (by first | exact Or.inl rfl | exact Or.inr rfl) qe_tnew)
    (qs_cons (qs_set (i := 5) sc_law.nd rfl (by first | exact Or.inl rfl | exact Or.inr rfl) qe_dnew)
    (qs_cons (qs_for PassesOwn.never rfl (qi_range1 (by rfl) T.m_range (qa_cons (qe_call (ok__law_draw T) (hr.mono (by decide)) (by rfl) T.g__law_draw T.f__law_draw.kp T.b__law_draw pass0 (qa_cons (qe_var 1) (qa_cons qe_int qa_nil))) qa_nil)) (qg_name (i := 6) sc_law.nd rfl (by first | exact Or.inl rfl | exact Or.inr rfl))
    (qs_cons (qs_set (i := 7) sc_law.nd rfl (by first | exact Or.inl rfl | exact Or.inr rfl) (qe_ix (qb_var 2) (qb_of (qe_call (ok__law_draw T) (hr.mono (by decide)) (by rfl) T.g__law_draw T.f__law_draw.kp T.b__law_draw pass0 (qa_cons (qe_var 1) (qa_cons qe_int qa_nil))))))
    (qs_cons (qs_set (i := 8) sc_law.nd rfl (by first | exact Or.inl rfl | exact Or.inr rfl) (qe_ix (qb_var 2) (qb_of (qe_call (ok__law_draw T) (hr.mono (by decide)) (by rfl) T.g__law_draw T.f__law_draw.kp T.b__law_draw pass0 (qa_cons (qe_var 1) (qa_cons qe_int qa_nil))))))
    (qs_cons (qs_set (i := 9) sc_law.nd rfl (by first | exact Or.inl rfl | exact Or.inr rfl) (qe_ix (qb_of (qe_lst (qa_cons qe_str (qa_cons qe_str (qa_cons qe_str qa_nil))))) (qb_of (qe_call (ok__law_draw T) (hr.mono (by decide)) (by rfl) T.g__law_draw T.f__law_draw.kp T.b__law_draw pass0 (qa_cons (qe_var 1) (qa_cons qe_int qa_nil))))))
    (qs_cons (qs_set (i := 10) sc_law.nd rfl (by first | exact Or.inl rfl | exact Or.inr rfl) (qe_call (ok__law_draw T) (hr.mono (by decide)) (by rfl) T.g__law_draw T.f__law_draw.kp T.b__law_draw pass0 (qa_cons (qe_var 1) (qa_cons qe_int qa_nil))))
    (qs_end (qs_if (qt_cmp (ob_eq (hu64 hr)) (qb_var 10) qb_int (nomark _))
    (qs_cons (qs_expr (qe_omethX takesF (qb_var 3) T.c_Shares T.me_Shares_m_usual (ok_Shares_m_usual T) (hr.mono (by decide)) T.b_Shares_m_usual (qa_cons (qe_var 7) (qa_cons (qe_var 9) qa_nil))))
    (qs_end (qs_mput (hu1 hr) (qe_var 9) (qb_var 5) (qb_var 7))))
    (qs_end (qs_if (qt_cmp (ob_eq (hu64 hr)) (qb_var 10) qb_int (nomark _))
    (qs_cons (qs_expr (qe_ometh (E := fun _ _ _ => False) (qb_var 3) T.c_Shares T.me_Shares_m_forget (ok_Shares_m_forget T) (hr.mono (by decide)) T.b_Shares_m_forget pass0 (qa_cons (qe_var 7) (qa_cons (qe_var 8) qa_nil))))
    (qs_end (qs_expr (qe_tpop2 (hu1 hr) (qb_var 4) (qb_of (qe_tup (qa_cons (qe_var 7) (qa_cons (qe_var 8) qa_nil)))) qe_non ⟨rfl, rfl, rfl, rfl⟩))))
    (qs_cons (qs_expr (qe_omethX takesF (qb_var 3) T.c_Shares T.me_Shares_m_tell (ok_Shares_m_tell T) (hr.mono (by decide)) T.b_Shares_m_tell (qa_cons (qe_var 7) (qa_cons (qe_var 8) (qa_cons (qe_var 9) qa_nil)))))
    (qs_end (qs_tput (hu1 hr) (qe_var 9) (qb_var 4) (qa_cons (qe_var 7) (qa_cons (qe_var 8) qa_nil))))))))))))))
    (qs_cons (qs_setLc (i := 11) rfl sc_law.nd rfl rfl (sw_true rfl rfl rfl (by decide +kernel)) (own := [("k", 6)]) (qi_range1 (by rfl) T.m_range (qa_cons (qe_call (ok__law_draw T) (hr.mono (by decide)) (by rfl) T.g__law_draw T.f__law_draw.kp T.b__law_draw pass0 (qa_cons (qe_var 1) (qa_cons qe_int qa_nil))) qa_nil)) (blkOk_by (own := [("k", 6)]) (N := N_law) (sc := defScope s_law) (by decide +kernel)) (fun _ _ _ _ _ z hz => (qg_name (i := 6) sc_law.nd rfl (by first | exact Or.inl rfl | exact Or.inr rfl))) (fun _ _ _ _ _ => an_t0) (fun _ _ _ _ _ z hz => (qe_tup (qa_cons (qe_var 6) (qa_cons (qe_bin ob_add (qb_var 6) qb_int) (qa_cons (qe_ix (qb_of (qe_lst (qa_cons qe_non (qa_cons (qe_tup (qa_cons qe_str (qa_cons qe_str (qa_cons qe_str qa_nil)))) qa_nil)))) (qb_of (qe_call (ok__law_draw T) (hr.mono (by decide)) (by rfl) T.g__law_draw T.f__law_draw.kp T.b__law_draw pass0 (qa_cons (qe_var 1) (qa_cons qe_int qa_nil))))) qa_nil))))))
    (qs_cons (qs_for PassesOwn.never rfl (qi_seq (h := (qe_var 2))) (qg_name (i := 7) sc_law.nd rfl (by first | exact Or.inl rfl | exact Or.inr rfl))
    (qs_cons (qs_if (qt_cmp (ob_ne (hu64 hr)) (qb_of (qe_ometh (E := fun _ _ _ => False) (qb_var 3) T.c_Shares T.me_Shares_m_viewers (ok_Shares_m_viewers T) (hr.mono (by decide)) T.b_Shares_m_viewers pass0 (qa_cons (qe_var 7) qa_nil))) (qb_of (qe_callB (cb_sortD (hu64 hr)) (by rfl) T.m_sorted (by decide +kernel) (qab_cons (qb_of (qe_lcT rfl sc_law.nd (own := [("one", 14), ("viewer", 8)]) (qb_var 4) (blkOk_by (own := [("one", 14), ("viewer", 8)]) (N := N_law) (sc := defScope s_law) (by decide +kernel)) (fun _ _ _ _ _ z hz => (qg_tupH (n := 2) rfl (qgs_cons (qg_name (i := 14) sc_law.nd rfl (by first | exact Or.inl rfl | exact Or.inr rfl)) (qgs_cons (qg_name (i := 8) sc_law.nd rfl (by first | exact Or.inl rfl | exact Or.inr rfl)) qgs_nil)))) (fun _ _ _ _ _ => an_t1 fun z hz => (qt_cmp (ob_eq (hu64 hr)) (qb_var 14) (qb_var 7) (nomark _))) (fun _ _ _ _ _ z hz => (qe_var 8)))) qab_nil))) (nomark _))
    (qs_end (qs_ret qe_bl))
    qs_nil)
    (qs_end (qs_for PassesOwn.never rfl (qi_seq (h := (qe_var 2))) (qg_name (i := 8) sc_law.nd rfl (by first | exact Or.inl rfl | exact Or.inr rfl))
    (qs_cons (qs_set (i := 12) sc_law.nd rfl (by first | exact Or.inl rfl | exact Or.inr rfl) (qe_tget2 (hu1 hr) (qb_var 4) (qb_of (qe_tup (qa_cons (qe_var 7) (qa_cons (qe_var 8) qa_nil)))) (qe_mget2 (hu1 hr) (qb_var 5) (qb_var 7) qe_str ⟨rfl, rfl, rfl, rfl⟩) ⟨rfl, rfl, rfl, rfl⟩))
    (qs_cons (qs_if (qt_cmp (ob_eq (hu64 hr)) (qb_var 7) (qb_var 8) (nomark _))
    (qs_end (qs_set (i := 12) sc_law.nd rfl (by first | exact Or.inl rfl | exact Or.inr rfl) qe_str))
    qs_nil)
    (qs_cons (qs_set (i := 13) sc_law.nd rfl (by first | exact Or.inl rfl | exact Or.inr rfl) (qe_mget (hu1 hr) (qb_of (qe_disp (ppd_cons (qe_lst qa_nil) (ppd_cons (qe_lc rfl sc_law.nd (own := [("a", 15), ("b", 16), ("item", 17)]) (qi_seq (h := (qe_var 11))) (blkOk_by (own := [("a", 15), ("b", 16), ("item", 17)]) (N := N_law) (sc := defScope s_law) (by decide +kernel)) (fun _ _ _ _ _ z hz => (qg_seq (n := 3) rfl (qgs_cons (qg_name (i := 15) sc_law.nd rfl (by first | exact Or.inl rfl | exact Or.inr rfl)) (qgs_cons (qg_name (i := 16) sc_law.nd rfl (by first | exact Or.inl rfl | exact Or.inr rfl)) (qgs_cons (qg_name (i := 17) sc_law.nd rfl (by first | exact Or.inl rfl | exact Or.inr rfl)) qgs_nil))))) (fun _ _ _ _ _ => an_t0) (fun _ _ _ _ _ z hz => (qe_tup (qa_cons (qe_var 15) (qa_cons (qe_var 16) (qa_cons qe_non qa_nil)))))) (ppd_cons (qe_var 11) ppd_nil))))) (qb_var 12)))
    (qs_end (qs_if (PW.pt (qw_or (qt_cmp (ob_ne (hu64 hr)) (qb_of (qe_ometh (E := fun _ _ _ => False) (qb_var 3) T.c_Shares T.me_Shares_m_level (ok_Shares_m_level T) (hr.mono (by decide)) T.b_Shares_m_level pass0 (qa_cons (qe_var 7) (qa_cons (qe_var 8) qa_nil)))) (qb_var 12) (nomark _)) (qw_or1 (qt_cmp (ob_ne (hu64 hr)) (qb_of (qe_ometh (E := fun _ _ _ => False) (qb_var 3) T.c_Shares T.me_Shares_m_shown (ok_Shares_m_shown T) (hr.mono (by decide)) T.b_Shares_m_shown pass0 (qa_cons (qe_var 7) (qa_cons (qe_var 8) (qa_cons (qe_callTy cb_list (by rfl) T.m_list (by decide +kernel) (qab_cons (qb_var 11) qab_nil)) qa_nil))))) (qb_var 13) (nomark _)))))
    (qs_end (qs_ret qe_bl))
    qs_nil)))))))))
    (qs_cons (qs_if (PW.pt (qw_or (qt_not (qt_val (qe_call (ok__law_refused T) hr (by rfl) T.g__law_refused T.f__law_refused.kp T.b__law_refused pass0 (qa_cons (qe_var 3) (qa_cons qe_int (qa_cons (qe_tup (qa_cons qe_str (qa_cons qe_str qa_nil))) (qa_cons qe_str qa_nil))))))) (qw_or1 (qt_not (qt_val (qe_call (ok__law_refused T) hr (by rfl) T.g__law_refused T.f__law_refused.kp T.b__law_refused pass0 (qa_cons (qe_var 3) (qa_cons qe_int (qa_cons (qe_tup (qa_cons qe_str (qa_cons qe_str qa_nil))) (qa_cons qe_str qa_nil))))))))))
    (qs_end (qs_ret qe_bl))
    qs_nil)
    (qs_end (qs_ret (qe_and (qe_call (ok__law_refused T) hr (by rfl) T.g__law_refused T.f__law_refused.kp T.b__law_refused pass0 (qa_cons (qe_var 3) (qa_cons qe_int (qa_cons (qe_tup (qa_cons qe_str (qa_cons qe_str qa_nil))) (qa_cons qe_str qa_nil))))) (qe_one (qe_call (ok__law_refused T) hr (by rfl) T.g__law_refused T.f__law_refused.kp T.b__law_refused pass0 (qa_cons (qe_var 3) (qa_cons qe_int (qa_cons (qe_tup (qa_cons qe_str (qa_cons qe_str qa_nil))) (qa_cons qe_str qa_nil))))))))))))))))))), ?_⟩)
  subst e
  refine law_P (by decide) hS q (fun Q' h => ⟨_, rfl, a, ns, rfl, hS, h⟩) ?_
  intro T
  refine sSeq_i fun N1 h1 => ?_
  walk_at "pl"
  intro ns n1 n2 n3
  refine h1 _ _ ?_
  clear h1
  refine sSeq_i fun N1 h1 => ?_
  walk_at "pl"
  intro x hx
  refine ⟨_, rfl, fun q hq => hx q (List.mem_singleton.mp hq), fun a b hax hbx hba ha hb => h1 _ _ ?_⟩
  clear h1
  have hxT : x ≠ T := fun e => hx (T, .tape) (by simp) e.symm
  have haT : a ≠ T := fun e => ha (T, .tape) (by simp) e.symm
  have hbT : b ≠ T := fun e => hb (T, .tape) (by simp) e.symm
  refine sSeq_i fun N1 h1 => ?_
  walk_at "pl"
  intro t ht
  have htb : b ≠ t := ht (b, .dic []) (by simp)
  have hta : a ≠ t := ht (a, .dit []) (by simp)
  have htx : x ≠ t := ht (x, .ins sShares shF [.ref a, .ref b]) (by simp)
  have htT : T ≠ t := ht (T, .tape) (by simp)
  refine h1 _ _ ?_
  clear h1
  refine sSeq_i fun N1 h1 => ?_
  walk_at "pl"
  intro u hu
  have hut : t ≠ u := hu (t, .dit []) (by simp)
  have hub : b ≠ u := hu (b, .dic []) (by simp)
  have hua : a ≠ u := hu (a, .dit []) (by simp)
  have hux : x ≠ u := hu (x, .ins sShares shF [.ref a, .ref b]) (by simp)
  have huT : T ≠ u := hu (T, .tape) (by simp)
  refine h1 _ _ ?_
  clear h1 hx ha hb ht hu
  -- what stands at the addresses
  let MM : List (List Key × D) → List (Key × D) → List (List Key × D) → List (Key × D) → Mu := fun lt1 lu1 lt2 lu2 => [(u, .dic lu1), (t, .dit lt1), (b, .dic lu2), (a, .dit lt2), (x, .ins sShares shF [.ref a, .ref b]), (T, .tape)]
  have kx : ∀ lt1 lu1 lt2 lu2, (MM lt1 lu1 lt2 lu2).lookup x = some (.ins sShares shF [.ref a, .ref b]) := fun _ _ _ _ => by show List.lookup x [(u, _), (t, _), (b, _), (a, _), (x, _), (T, _)] = _; rw [look_ne hux, look_ne htx, look_ne (Ne.symm hbx), look_ne (Ne.symm hax), look_eq]
  have ka : ∀ lt1 lu1 lt2 lu2, (MM lt1 lu1 lt2 lu2).lookup a = some (.dit lt2) := fun _ _ _ _ => by show List.lookup a [(u, _), (t, _), (b, _), (a, _), (x, _), (T, _)] = _; rw [look_ne hua, look_ne hta, look_ne (Ne.symm hba), look_eq]
  have kb : ∀ lt1 lu1 lt2 lu2, (MM lt1 lu1 lt2 lu2).lookup b = some (.dic lu2) := fun _ _ _ _ => by show List.lookup b [(u, _), (t, _), (b, _), (a, _), (x, _), (T, _)] = _; rw [look_ne hub, look_ne htb, look_eq]
  have kt : ∀ lt1 lu1 lt2 lu2, (MM lt1 lu1 lt2 lu2).lookup t = some (.dit lt1) := fun _ _ _ _ => by show List.lookup t [(u, _), (t, _), (b, _), (a, _), (x, _), (T, _)] = _; rw [look_ne hut, look_eq]
  have ku : ∀ lt1 lu1 lt2 lu2, (MM lt1 lu1 lt2 lu2).lookup u = some (.dic lu1) := fun _ _ _ _ => look_eq
  have kT : ∀ lt1 lu1 lt2 lu2, (T, MO.tape) ∈ MM lt1 lu1 lt2 lu2 := fun _ _ _ _ => by show _ ∈ [(u, _), (t, _), (b, _), (a, _), (x, _), (T, _)]; simp
  have pu : ∀ lt1 lu1 lt2 lu2 w, mput (MM lt1 lu1 lt2 lu2) u (.dic w) = MM lt1 w lt2 lu2 := fun _ _ _ _ _ => by show mput [(u, _), (t, _), (b, _), (a, _), (x, _), (T, _)] u _ = _; simp only [mput_cons, if_neg hut, if_neg hub, if_neg hua, if_neg hux, if_neg huT, if_true]; rfl
  have pt : ∀ lt1 lu1 lt2 lu2 w, mput (MM lt1 lu1 lt2 lu2) t (.dit w) = MM w lu1 lt2 lu2 := fun _ _ _ _ _ => by show mput [(u, _), (t, _), (b, _), (a, _), (x, _), (T, _)] t _ = _; simp only [mput_cons, if_neg (Ne.symm hut), if_neg htb, if_neg hta, if_neg htx, if_neg htT, if_true]; rfl
  have pb : ∀ lt1 lu1 lt2 lu2 w, mput (MM lt1 lu1 lt2 lu2) b (.dic w) = MM lt1 lu1 lt2 w := fun _ _ _ _ _ => by show mput [(u, _), (t, _), (b, _), (a, _), (x, _), (T, _)] b _ = _; simp only [mput_cons, if_neg (Ne.symm hub), if_neg (Ne.symm htb), if_neg (Ne.symm hba), if_neg (Ne.symm hbx), if_neg (Ne.symm hbT), if_true]; rfl
  have pa : ∀ lt1 lu1 lt2 lu2 w, mput (MM lt1 lu1 lt2 lu2) a (.dit w) = MM lt1 lu1 w lu2 := fun _ _ _ _ _ => by show mput [(u, _), (t, _), (b, _), (a, _), (x, _), (T, _)] a _ = _; simp only [mput_cons, if_neg (Ne.symm hua), if_neg (Ne.symm hta), if_neg hba, if_neg (Ne.symm hax), if_neg (Ne.symm haT), if_true]; rfl
  have sh : ∀ lt1 lu1 lt2 lu2, ShAt (MM lt1 lu1 lt2 lu2) x a b lt2 lu2 := fun _ _ _ _ => ⟨kx _ _ _ _, ka _ _ _ _, kb _ _ _ _⟩
  have nd : ∀ lt1 lu1 lt2 lu2, ((MM lt1 lu1 lt2 lu2).map (·.1)).Nodup := fun _ _ _ _ => by show [u, t, b, a, x, T].Nodup; simp [Ne.symm hut, Ne.symm hub, Ne.symm hua, Ne.symm hux, Ne.symm huT, Ne.symm htb, Ne.symm hta, Ne.symm htx, Ne.symm htT, hba, hbx, hbT, hax, haT, hxT]
  have hM0 : [(u, MO.dic []), (t, .dit []), (b, .dic []), (a, .dit []), (x, .ins sShares shF [.ref a, .ref b]), (T, .tape)] = MM [] [] [] [] := rfl
  rw [hM0]
  clear_value MM
  clear hM0
  refine sSeq_i fun N1 h1 => ?_
  refine sFor_k fun N hN => ?_
  simp only [↓sSeq, ↓sAsg, ↓sRet, ↓sRetN, ↓sIf, ↓sDrop, ↓sNext, ↓eVar, ↓bVar, ↓bE, ↓eBin, ↓tE, chS_bl, chS_true, chS_false, wipeE_nil, wipeE_cons, ↓qOr, ↓qNot, ↓eAnd_eq, ↓aNil, ↓aCons, ↓aConsB, ↓eTup, ↓eLst, ↓iSeq, ↓iR1, ↓cSortD, ↓kyOf, Option.isSome_some, lk_int, lk_str, ↓eMeth, ↓eMethX, ↓objOf, ↓eDNew, ↓eMGet, ↓eMGet2, ↓sMPut, ↓dicOf, ↓eTNew, ↓eTGet2, ↓eTPop2, ↓sTPut, ↓ditOf, ↓kysOf, ↓kyL, ↓eMakeM, chOf_ch, ↓eDisp, ↓eDsp, mgK, List.foldl_cons, List.foldl_nil, ↓gN, ↓gsNil, ↓gsCons, ↓eCall, ↓dAdd, ↓dEq, ↓dNe, ↓dIx, ↓eB, ↓cList, ↓gSq, natc0, natc1, natc2, List.findIdx?_cons, List.findIdx?_nil, intsOf_ints, boolsOf_bls, plAnyI, plAnyR, ↓Sl.val, ↓Ow.toD, ↓stE, ↓tYes', ↓PL.isNon, ↓eC, ↓bC, List.getElem?_cons_zero, List.getElem?_cons_succ, List.set_cons_zero, List.set_cons_succ, List.map_cons, List.map_nil, List.length_cons, List.length_nil, List.nil_append, List.cons_append, List.replicate_succ, List.replicate_zero, List.append_nil, atI0, atI1, atI2, atI3, atI4, cmpOk_int, cmpOk_bl, cmpOk_non, deq_int, deq_bl, true_and, and_true, Nat.reduceAdd, Nat.reduceSub, Nat.reduceLeDiff, Nat.reduceLT, Bool.not_eq_true', Bool.false_eq_true, if_false, if_true, decide_eq_true_eq, decide_eq_false_iff_not, Nat.zero_add, Nat.sub_zero, Nat.add_zero, Nat.sub_self, ixN31, ixN32, List.length_map, List.length_set, Int.reduceToNat, Int.reducePow, Int.reduceNeg, Int.reduceAdd, Int.reduceSub, Int.reduceMul, Int.reduceLT, Int.reduceLE, Int.reduceEq, Nat.reduceEqDiff, reduceCtorEq, List.mem_singleton, eq_self, not_true_eq_false, not_false_eq_true, or_true, true_or, cmpOk_lstA, cmpOk_tupA, ckA_lst, ckA_tup, ckAl_nil, ckAl_cons, ckAl_ints, ckAl_rangeL, ck_int, ck_bl, ck_non, ck_strI, cmpOk_str, deq_str, deq_tup, deq_lst, deqA_nil, deqA_cons, deqA_ints, Bool.and_true, Bool.true_and, Bool.and_false, Bool.false_and, decide_true, decide_false, Bool.not_true, Bool.not_false, ↓pDraw, ↓p_Shares_m___init__, ↓p_Shares_m_forget, ↓p_Shares_m_level, ↓p_Shares_m_shown, ↓p_Shares_m_tell, ↓p_Shares_m_usual, ↓p_Shares_m_viewers, ↓p__law_names, ↓p__law_refused, cat_BadName, kx, ka, kb, kt, ku]
  refine ⟨kT _ _ _ _, fun n n0 n1 => ⟨by omega, hN _ _ _ ?_⟩⟩
  clear hN
  refine loop_i (fun i ρ M1 => ∃ (lt : List (List Key × D)) (lu : List (Key × D)) (s6 s7 s8 s9 s10 : Sl), M1 = MM lt lu lt lu ∧ ShI ns i lt lu ∧ ρ = [.un, .va (.ref T), .ow (.lst (ns.map D.str)), .va (.ref x), .va (.ref t), .va (.ref u), s6, s7, s8, s9, s10, .un, .un, .un, .un, .un, .un, .un] ∧ (∀ o, s6 ≠ .ow o) ∧ ∀ o, s8 ≠ .ow o) ⟨[], [], _, _, _, _, _, rfl, ⟨⟨fun k d e => (by cases e), fun k d e => (by cases e)⟩, fun k hk => (by cases hk), Nat.le_refl _, Nat.le_refl _⟩, rfl, (by intro o w; cases w), (by intro o w; cases w)⟩ ?_ ?_
  · rintro J hJ i dd ρ M1 hd ⟨lt, lu, s6, s7, s8, s9, s10, rfl, hI, rfl, h6, h8⟩
    obtain ⟨rfl, hi⟩ := rangeL_get hd
    walk_at "gn"
    refine sSeq_i fun N2 h2 => ?_
    walk_at "pl"
    refine ⟨kT _ _ _ _, fun r r0 r1 => ?_⟩
    obtain ⟨o, ho, eo⟩ := at_strs (ns := ns) r0 (by omega)
    rw [eo]
    refine h2 _ _ ?_
    clear h2 eo
    refine sSeq_i fun N2 h2 => ?_
    walk_at "pl"
    refine ⟨kT _ _ _ _, fun r r0 r1 => ?_⟩
    obtain ⟨v, hv, ev⟩ := at_strs (ns := ns) r0 (by omega)
    rw [ev]
    refine h2 _ _ ?_
    clear h2 ev
    refine sSeq_i fun N2 h2 => ?_
    walk_at "pl"
    refine ⟨kT _ _ _ _, fun r r0 r1 => ?_⟩
    obtain ⟨l, hl, el⟩ := at_strs (ns := lvls) r0 (by show r < (3 : Int); omega)
    rw [show [D.str (Str.ofString "none"), D.str (Str.ofString "busy"), D.str (Str.ofString "all")] = lvls.map D.str from rfl, el]
    refine h2 _ _ ?_
    clear h2 el
    refine sSeq_i fun N2 h2 => ?_
    walk_at "pl"
    refine ⟨kT _ _ _ _, fun w w0 w1 => h2 _ _ ?_⟩
    clear h2
    obtain ⟨o1, o2, o3⟩ := pool_name (n2 o ho)
    obtain ⟨v1, v2, v3⟩ := pool_name (n2 v hv)
    have hlt := hI.lt
    have hlu := hI.lu
    simp only [↓sSeq, ↓sAsg, ↓sRet, ↓sRetN, ↓sIf, ↓sDrop, ↓sNext, ↓eVar, ↓bVar, ↓bE, ↓eBin, ↓tE, chS_bl, chS_true, chS_false, wipeE_nil, wipeE_cons, ↓qOr, ↓qNot, ↓eAnd_eq, ↓aNil, ↓aCons, ↓aConsB, ↓eTup, ↓eLst, ↓iSeq, ↓iR1, ↓cSortD, ↓kyOf, Option.isSome_some, lk_int, lk_str, ↓eMeth, ↓eMethX, ↓objOf, ↓eDNew, ↓eMGet, ↓eMGet2, ↓sMPut, ↓dicOf, ↓eTNew, ↓eTGet2, ↓eTPop2, ↓sTPut, ↓ditOf, ↓kysOf, ↓kyL, ↓eMakeM, chOf_ch, ↓eDisp, ↓eDsp, mgK, List.foldl_cons, List.foldl_nil, ↓gN, ↓gsNil, ↓gsCons, ↓eCall, ↓dAdd, ↓dEq, ↓dNe, ↓dIx, ↓eB, ↓cList, ↓gSq, natc0, natc1, natc2, List.findIdx?_cons, List.findIdx?_nil, intsOf_ints, boolsOf_bls, plAnyI, plAnyR, ↓Sl.val, ↓Ow.toD, ↓stE, ↓tYes', ↓PL.isNon, ↓eC, ↓bC, List.getElem?_cons_zero, List.getElem?_cons_succ, List.set_cons_zero, List.set_cons_succ, List.map_cons, List.map_nil, List.length_cons, List.length_nil, List.nil_append, List.cons_append, List.replicate_succ, List.replicate_zero, List.append_nil, atI0, atI1, atI2, atI3, atI4, cmpOk_int, cmpOk_bl, cmpOk_non, deq_int, deq_bl, true_and, and_true, Nat.reduceAdd, Nat.reduceSub, Nat.reduceLeDiff, Nat.reduceLT, Bool.not_eq_true', Bool.false_eq_true, if_false, if_true, decide_eq_true_eq, decide_eq_false_iff_not, Nat.zero_add, Nat.sub_zero, Nat.add_zero, Nat.sub_self, ixN31, ixN32, List.length_map, List.length_set, Int.reduceToNat, Int.reducePow, Int.reduceNeg, Int.reduceAdd, Int.reduceSub, Int.reduceMul, Int.reduceLT, Int.reduceLE, Int.reduceEq, Nat.reduceEqDiff, reduceCtorEq, List.mem_singleton, eq_self, not_true_eq_false, not_false_eq_true, or_true, true_or, cmpOk_lstA, cmpOk_tupA, ckA_lst, ckA_tup, ckAl_nil, ckAl_cons, ckAl_ints, ckAl_rangeL, ck_int, ck_bl, ck_non, ck_strI, cmpOk_str, deq_str, deq_tup, deq_lst, deqA_nil, deqA_cons, deqA_ints, Bool.and_true, Bool.true_and, Bool.and_false, Bool.false_and, decide_true, decide_false, Bool.not_true, Bool.not_false, ↓pDraw, ↓p_Shares_m___init__, ↓p_Shares_m_forget, ↓p_Shares_m_level, ↓p_Shares_m_shown, ↓p_Shares_m_tell, ↓p_Shares_m_usual, ↓p_Shares_m_viewers, ↓p__law_names, ↓p__law_refused, cat_BadName, kx, sh_nm, sh_no2, sh_no3, sh_no4]
    by_cases c0 : w = 0
    · rw [if_pos c0]
      refine ⟨a, b, lt, lu, sh _ _ _ _, ⟨o3, lv_so hl, by omega⟩, fun _ => ?_, fun e => absurd ⟨o1, hl⟩ e⟩
      rw [pb]
      simp only [↓sSeq, ↓sAsg, ↓sRet, ↓sRetN, ↓sIf, ↓sDrop, ↓sNext, ↓eVar, ↓bVar, ↓bE, ↓eBin, ↓tE, chS_bl, chS_true, chS_false, wipeE_nil, wipeE_cons, ↓qOr, ↓qNot, ↓eAnd_eq, ↓aNil, ↓aCons, ↓aConsB, ↓eTup, ↓eLst, ↓iSeq, ↓iR1, ↓cSortD, ↓kyOf, Option.isSome_some, lk_int, lk_str, ↓eMeth, ↓eMethX, ↓objOf, ↓eDNew, ↓eMGet, ↓eMGet2, ↓sMPut, ↓dicOf, ↓eTNew, ↓eTGet2, ↓eTPop2, ↓sTPut, ↓ditOf, ↓kysOf, ↓kyL, ↓eMakeM, chOf_ch, ↓eDisp, ↓eDsp, mgK, List.foldl_cons, List.foldl_nil, ↓gN, ↓gsNil, ↓gsCons, ↓eCall, ↓dAdd, ↓dEq, ↓dNe, ↓dIx, ↓eB, ↓cList, ↓gSq, natc0, natc1, natc2, List.findIdx?_cons, List.findIdx?_nil, intsOf_ints, boolsOf_bls, plAnyI, plAnyR, ↓Sl.val, ↓Ow.toD, ↓stE, ↓tYes', ↓PL.isNon, ↓eC, ↓bC, List.getElem?_cons_zero, List.getElem?_cons_succ, List.set_cons_zero, List.set_cons_succ, List.map_cons, List.map_nil, List.length_cons, List.length_nil, List.nil_append, List.cons_append, List.replicate_succ, List.replicate_zero, List.append_nil, atI0, atI1, atI2, atI3, atI4, cmpOk_int, cmpOk_bl, cmpOk_non, deq_int, deq_bl, true_and, and_true, Nat.reduceAdd, Nat.reduceSub, Nat.reduceLeDiff, Nat.reduceLT, Bool.not_eq_true', Bool.false_eq_true, if_false, if_true, decide_eq_true_eq, decide_eq_false_iff_not, Nat.zero_add, Nat.sub_zero, Nat.add_zero, Nat.sub_self, ixN31, ixN32, List.length_map, List.length_set, Int.reduceToNat, Int.reducePow, Int.reduceNeg, Int.reduceAdd, Int.reduceSub, Int.reduceMul, Int.reduceLT, Int.reduceLE, Int.reduceEq, Nat.reduceEqDiff, reduceCtorEq, List.mem_singleton, eq_self, not_true_eq_false, not_false_eq_true, or_true, true_or, cmpOk_lstA, cmpOk_tupA, ckA_lst, ckA_tup, ckAl_nil, ckAl_cons, ckAl_ints, ckAl_rangeL, ck_int, ck_bl, ck_non, ck_strI, cmpOk_str, deq_str, deq_tup, deq_lst, deqA_nil, deqA_cons, deqA_ints, Bool.and_true, Bool.true_and, Bool.and_false, Bool.false_and, decide_true, decide_false, Bool.not_true, Bool.not_false, ↓pDraw, ↓p_Shares_m___init__, ↓p_Shares_m_forget, ↓p_Shares_m_level, ↓p_Shares_m_shown, ↓p_Shares_m_tell, ↓p_Shares_m_usual, ↓p_Shares_m_viewers, ↓p__law_names, ↓p__law_refused, cat_BadName, ku]
      refine ⟨by omega, ?_⟩
      rw [pu]
      exact hJ _ _ _ ⟨lt, _, _, _, _, _, _, rfl, hI.usual hl, rfl, (by intro o w; cases w), (by intro o w; cases w)⟩
    rw [if_neg c0]
    by_cases c1 : w = 1
    · rw [if_pos c1]
      refine ⟨a, b, lt, lu, sh _ _ _ _, ?_⟩
      cases e : gK lt [Sum.inr o, Sum.inr v] with
      | none =>
        simp only [↓sSeq, ↓sAsg, ↓sRet, ↓sRetN, ↓sIf, ↓sDrop, ↓sNext, ↓eVar, ↓bVar, ↓bE, ↓eBin, ↓tE, chS_bl, chS_true, chS_false, wipeE_nil, wipeE_cons, ↓qOr, ↓qNot, ↓eAnd_eq, ↓aNil, ↓aCons, ↓aConsB, ↓eTup, ↓eLst, ↓iSeq, ↓iR1, ↓cSortD, ↓kyOf, Option.isSome_some, lk_int, lk_str, ↓eMeth, ↓eMethX, ↓objOf, ↓eDNew, ↓eMGet, ↓eMGet2, ↓sMPut, ↓dicOf, ↓eTNew, ↓eTGet2, ↓eTPop2, ↓sTPut, ↓ditOf, ↓kysOf, ↓kyL, ↓eMakeM, chOf_ch, ↓eDisp, ↓eDsp, mgK, List.foldl_cons, List.foldl_nil, ↓gN, ↓gsNil, ↓gsCons, ↓eCall, ↓dAdd, ↓dEq, ↓dNe, ↓dIx, ↓eB, ↓cList, ↓gSq, natc0, natc1, natc2, List.findIdx?_cons, List.findIdx?_nil, intsOf_ints, boolsOf_bls, plAnyI, plAnyR, ↓Sl.val, ↓Ow.toD, ↓stE, ↓tYes', ↓PL.isNon, ↓eC, ↓bC, List.getElem?_cons_zero, List.getElem?_cons_succ, List.set_cons_zero, List.set_cons_succ, List.map_cons, List.map_nil, List.length_cons, List.length_nil, List.nil_append, List.cons_append, List.replicate_succ, List.replicate_zero, List.append_nil, atI0, atI1, atI2, atI3, atI4, cmpOk_int, cmpOk_bl, cmpOk_non, deq_int, deq_bl, true_and, and_true, Nat.reduceAdd, Nat.reduceSub, Nat.reduceLeDiff, Nat.reduceLT, Bool.not_eq_true', Bool.false_eq_true, if_false, if_true, decide_eq_true_eq, decide_eq_false_iff_not, Nat.zero_add, Nat.sub_zero, Nat.add_zero, Nat.sub_self, ixN31, ixN32, List.length_map, List.length_set, Int.reduceToNat, Int.reducePow, Int.reduceNeg, Int.reduceAdd, Int.reduceSub, Int.reduceMul, Int.reduceLT, Int.reduceLE, Int.reduceEq, Nat.reduceEqDiff, reduceCtorEq, List.mem_singleton, eq_self, not_true_eq_false, not_false_eq_true, or_true, true_or, cmpOk_lstA, cmpOk_tupA, ckA_lst, ckA_tup, ckAl_nil, ckAl_cons, ckAl_ints, ckAl_rangeL, ck_int, ck_bl, ck_non, ck_strI, cmpOk_str, deq_str, deq_tup, deq_lst, deqA_nil, deqA_cons, deqA_ints, Bool.and_true, Bool.true_and, Bool.and_false, Bool.false_and, decide_true, decide_false, Bool.not_true, Bool.not_false, ↓pDraw, ↓p_Shares_m___init__, ↓p_Shares_m_forget, ↓p_Shares_m_level, ↓p_Shares_m_shown, ↓p_Shares_m_tell, ↓p_Shares_m_usual, ↓p_Shares_m_viewers, ↓p__law_names, ↓p__law_refused, cat_BadName, kt, e]
        exact hJ _ _ _ ⟨lt, lu, _, _, _, _, _, rfl, hI.keep, rfl, (by intro o w; cases w), (by intro o w; cases w)⟩
      | some d =>
        dsimp only
        rw [pa]
        simp only [↓sSeq, ↓sAsg, ↓sRet, ↓sRetN, ↓sIf, ↓sDrop, ↓sNext, ↓eVar, ↓bVar, ↓bE, ↓eBin, ↓tE, chS_bl, chS_true, chS_false, wipeE_nil, wipeE_cons, ↓qOr, ↓qNot, ↓eAnd_eq, ↓aNil, ↓aCons, ↓aConsB, ↓eTup, ↓eLst, ↓iSeq, ↓iR1, ↓cSortD, ↓kyOf, Option.isSome_some, lk_int, lk_str, ↓eMeth, ↓eMethX, ↓objOf, ↓eDNew, ↓eMGet, ↓eMGet2, ↓sMPut, ↓dicOf, ↓eTNew, ↓eTGet2, ↓eTPop2, ↓sTPut, ↓ditOf, ↓kysOf, ↓kyL, ↓eMakeM, chOf_ch, ↓eDisp, ↓eDsp, mgK, List.foldl_cons, List.foldl_nil, ↓gN, ↓gsNil, ↓gsCons, ↓eCall, ↓dAdd, ↓dEq, ↓dNe, ↓dIx, ↓eB, ↓cList, ↓gSq, natc0, natc1, natc2, List.findIdx?_cons, List.findIdx?_nil, intsOf_ints, boolsOf_bls, plAnyI, plAnyR, ↓Sl.val, ↓Ow.toD, ↓stE, ↓tYes', ↓PL.isNon, ↓eC, ↓bC, List.getElem?_cons_zero, List.getElem?_cons_succ, List.set_cons_zero, List.set_cons_succ, List.map_cons, List.map_nil, List.length_cons, List.length_nil, List.nil_append, List.cons_append, List.replicate_succ, List.replicate_zero, List.append_nil, atI0, atI1, atI2, atI3, atI4, cmpOk_int, cmpOk_bl, cmpOk_non, deq_int, deq_bl, true_and, and_true, Nat.reduceAdd, Nat.reduceSub, Nat.reduceLeDiff, Nat.reduceLT, Bool.not_eq_true', Bool.false_eq_true, if_false, if_true, decide_eq_true_eq, decide_eq_false_iff_not, Nat.zero_add, Nat.sub_zero, Nat.add_zero, Nat.sub_self, ixN31, ixN32, List.length_map, List.length_set, Int.reduceToNat, Int.reducePow, Int.reduceNeg, Int.reduceAdd, Int.reduceSub, Int.reduceMul, Int.reduceLT, Int.reduceLE, Int.reduceEq, Nat.reduceEqDiff, reduceCtorEq, List.mem_singleton, eq_self, not_true_eq_false, not_false_eq_true, or_true, true_or, cmpOk_lstA, cmpOk_tupA, ckA_lst, ckA_tup, ckAl_nil, ckAl_cons, ckAl_ints, ckAl_rangeL, ck_int, ck_bl, ck_non, ck_strI, cmpOk_str, deq_str, deq_tup, deq_lst, deqA_nil, deqA_cons, deqA_ints, Bool.and_true, Bool.true_and, Bool.and_false, Bool.false_and, decide_true, decide_false, Bool.not_true, Bool.not_false, ↓pDraw, ↓p_Shares_m___init__, ↓p_Shares_m_forget, ↓p_Shares_m_level, ↓p_Shares_m_shown, ↓p_Shares_m_tell, ↓p_Shares_m_usual, ↓p_Shares_m_viewers, ↓p__law_names, ↓p__law_refused, cat_BadName, kt, e]
        rw [pt]
        exact hJ _ _ _ ⟨_, lu, _, _, _, _, _, rfl, hI.drop, rfl, (by intro o w; cases w), (by intro o w; cases w)⟩
    rw [if_neg c1]
    refine ⟨a, b, lt, lu, sh _ _ _ _, ⟨o3, v3, lv_so hl, by omega⟩, fun _ => ?_, fun e => e ⟨o1, v1, hl⟩⟩
    rw [pa, kt]
    refine ⟨by omega, ?_⟩
    rw [pt]
    exact hJ _ _ _ ⟨_, lu, _, _, _, _, _, rfl, hI.tell hl ho hv, rfl, (by intro o w; cases w), (by intro o w; cases w)⟩
  · rintro ρ M1 ⟨lt, lu, s6, s7, s8, s9, s10, rfl, hI, rfl, h6, h8⟩
    rw [rangeL_len] at hI
    have hI : ShI ns 12 lt lu := ⟨hI.lv, hI.pr, by have := hI.lt; omega, by have := hI.lu; omega⟩
    refine h1 _ _ ?_
    clear h1
    refine sSeq_i fun N1 h1 => ?_
    refine eLc_k fun N hN => ?_
    walk_at "pl"
    refine ⟨kT _ _ _ _, fun n n0 n1 => ⟨by omega, hN _ _ _ ?_⟩⟩
    clear hN
    have hv6 : notOw [.un, .va (.ref T), .ow (.lst (ns.map D.str)), .va (.ref x), .va (.ref t), .va (.ref u), s6, s7, s8, s9, s10, .un, .un, .un, .un, .un, .un, .un] [6] = true := by
      cases s6 with
      | un => rfl
      | va d => rfl
      | ow o => exact absurd rfl (h6 o)
    refine eLc_inv rwD (fun i bs => bs.length = i) (rangeL 0 n) _ _ (fun Q h => h) hv6 rfl ?_ ?_
    · intro i d bs J hd hb hJ
      obtain ⟨rfl, hi⟩ := rangeL_get hd
      walk_at "gn"
      walk_at "pl"
      refine ⟨kT _ _ _ _, fun r r0 r1 => ?_⟩
      rcases (by omega : r = 0 ∨ r = 1) with rfl | rfl
      · exact ⟨by omega, by have := hJ (bs ++ [((i : Int), false)]) (by simp [hb]); simpa [rwD] using this⟩
      · exact ⟨by omega, by have := hJ (bs ++ [((i : Int), true)]) (by simp [hb]); simpa [rwD, evD] using this⟩
    · intro rows hr
      rw [rangeL_len] at hr
      refine h1 _ _ ?_
      clear h1
      refine sSeq_i fun N1 h1 => ?_
      refine sFor_k fun N hN => ?_
      walk_at "pl"
      refine hN _ _ _ ?_
      clear hN
      let G : Mu → Prop := fun M => M.lookup x = some (.ins sShares shF [.ref a, .ref b]) ∧ M.lookup a = some (.dit lt) ∧ M.lookup b = some (.dic lu) ∧ M.lookup t = some (.dit lt) ∧ M.lookup u = some (.dic lu) ∧ (M.map (·.1)).Nodup
      have G0 : G (MM lt lu lt lu) := ⟨kx _ _ _ _, ka _ _ _ _, kb _ _ _ _, kt _ _ _ _, ku _ _ _ _, nd _ _ _ _⟩
      have Gc : ∀ M p w, G M → (∀ q ∈ M, q.1 ≠ p) → G ((p, w) :: M) := by
        rintro M p w ⟨g1, g2, g3, g4, g5, g6⟩ hp
        have ne : ∀ {y o}, M.lookup y = some o → y ≠ p := fun e => hp _ (lookup_mem e)
        refine ⟨by rw [look_ne (ne g1)]; exact g1, by rw [look_ne (ne g2)]; exact g2, by rw [look_ne (ne g3)]; exact g3, by rw [look_ne (ne g4)]; exact g4, by rw [look_ne (ne g5)]; exact g5, ?_⟩
        rw [List.map_cons, List.nodup_cons]
        exact ⟨fun w => by obtain ⟨q, hq, e⟩ := List.mem_map.mp w; exact hp q hq e, g6⟩
      have Ge : ∀ M, G M → M.lookup x = some (.ins sShares shF [.ref a, .ref b]) ∧ M.lookup a = some (.dit lt) ∧ M.lookup b = some (.dic lu) ∧ M.lookup t = some (.dit lt) ∧ M.lookup u = some (.dic lu) ∧ (M.map (·.1)).Nodup := fun _ h => h
      clear_value G
      refine loop_i (fun i ρ M1 => ∃ (s6 s7 s8 s9 s10 s11 s12 s13 s14 s15 s16 s17 : Sl), G M1 ∧ (s11 = .ow (.lst (rows.map rwD)) ∨ s11 = .va (.lst (rows.map rwD))) ∧ ρ = [.un, .va (.ref T), .va (.lst (ns.map D.str)), .va (.ref x), .va (.ref t), .va (.ref u), s6, s7, s8, s9, s10, s11, s12, s13, s14, s15, s16, s17] ∧ (∀ o, s14 ≠ .ow o) ∧ (∀ o, s8 ≠ .ow o) ∧ (∀ o, s15 ≠ .ow o) ∧ (∀ o, s16 ≠ .ow o) ∧ (∀ o, s17 ≠ .ow o)) ⟨_, _, _, _, _, _, _, _, _, _, _, _, G0, .inl rfl, rfl, (by intro o w; cases w), h8, (by intro o w; cases w), (by intro o w; cases w), (by intro o w; cases w)⟩ ?_ ?_
      · rintro J hJ i dd ρ M1 hd ⟨s6, s7, s8, s9, s10, s11, s12, s13, s14, s15, s16, s17, g, h11, rfl, h14, h8, h15, h16, h17⟩
        obtain ⟨g1, g2, g3, g4, g5, g6⟩ := Ge _ g
        obtain ⟨o, ho, rfl⟩ : ∃ o ∈ ns, dd = .str o := by
          obtain ⟨o, ho, rfl⟩ := List.mem_map.mp (List.mem_of_getElem? hd)
          exact ⟨o, ho, rfl⟩
        walk_at "gn"
        refine sSeq_i fun N2 h2 => ?_
        simp only [↓sSeq, ↓sAsg, ↓sRet, ↓sRetN, ↓sIf, ↓sDrop, ↓sNext, ↓eVar, ↓bVar, ↓bE, ↓eBin, ↓tE, chS_bl, chS_true, chS_false, wipeE_nil, wipeE_cons, ↓qOr, ↓qNot, ↓eAnd_eq, ↓aNil, ↓aCons, ↓aConsB, ↓eTup, ↓eLst, ↓iSeq, ↓iR1, ↓cSortD, ↓kyOf, Option.isSome_some, lk_int, lk_str, ↓eMeth, ↓eMethX, ↓objOf, ↓eDNew, ↓eMGet, ↓eMGet2, ↓sMPut, ↓dicOf, ↓eTNew, ↓eTGet2, ↓eTPop2, ↓sTPut, ↓ditOf, ↓kysOf, ↓kyL, ↓eMakeM, chOf_ch, ↓eDisp, ↓eDsp, mgK, List.foldl_cons, List.foldl_nil, ↓gN, ↓gsNil, ↓gsCons, ↓eCall, ↓dAdd, ↓dEq, ↓dNe, ↓dIx, ↓eB, ↓cList, ↓gSq, natc0, natc1, natc2, List.findIdx?_cons, List.findIdx?_nil, intsOf_ints, boolsOf_bls, plAnyI, plAnyR, ↓Sl.val, ↓Ow.toD, ↓stE, ↓tYes', ↓PL.isNon, ↓eC, ↓bC, List.getElem?_cons_zero, List.getElem?_cons_succ, List.set_cons_zero, List.set_cons_succ, List.map_cons, List.map_nil, List.length_cons, List.length_nil, List.nil_append, List.cons_append, List.replicate_succ, List.replicate_zero, List.append_nil, atI0, atI1, atI2, atI3, atI4, cmpOk_int, cmpOk_bl, cmpOk_non, deq_int, deq_bl, true_and, and_true, Nat.reduceAdd, Nat.reduceSub, Nat.reduceLeDiff, Nat.reduceLT, Bool.not_eq_true', Bool.false_eq_true, if_false, if_true, decide_eq_true_eq, decide_eq_false_iff_not, Nat.zero_add, Nat.sub_zero, Nat.add_zero, Nat.sub_self, ixN31, ixN32, List.length_map, List.length_set, Int.reduceToNat, Int.reducePow, Int.reduceNeg, Int.reduceAdd, Int.reduceSub, Int.reduceMul, Int.reduceLT, Int.reduceLE, Int.reduceEq, Nat.reduceEqDiff, reduceCtorEq, List.mem_singleton, eq_self, not_true_eq_false, not_false_eq_true, or_true, true_or, cmpOk_lstA, cmpOk_tupA, ckA_lst, ckA_tup, ckAl_nil, ckAl_cons, ckAl_ints, ckAl_rangeL, ck_int, ck_bl, ck_non, ck_strI, cmpOk_str, deq_str, deq_tup, deq_lst, deqA_nil, deqA_cons, deqA_ints, Bool.and_true, Bool.true_and, Bool.and_false, Bool.false_and, decide_true, decide_false, Bool.not_true, Bool.not_false, ↓pDraw, ↓p_Shares_m___init__, ↓p_Shares_m_forget, ↓p_Shares_m_level, ↓p_Shares_m_shown, ↓p_Shares_m_tell, ↓p_Shares_m_usual, ↓p_Shares_m_viewers, ↓p__law_names, ↓p__law_refused, cat_BadName, g1, sh_nm, sh_no5]
        obtain ⟨o1, o2, o3⟩ := pool_name (n2 o ho)
        have hpr := hI.pr
        have hlt := hI.lt
        refine ⟨a, b, lt, lu, ns, ⟨g1, g2, g3⟩, ⟨hpr, fun n hn => (pool_name (n2 n hn)).2.1, o2, by omega, g6⟩, ?_⟩
        refine ⟨t, lt, g4, fun ob kvs => ?_⟩
        refine eLcT_inv (vwK o) (fun Q' h => by walk_at "pl"; exact h) (lookup_mput_eq g4) ?_ (by omega) (fun k acc J hk hl hJ => ?_) ?_
        · show notOw [_, _, _, _, _, _, _, _, s8, _, _, _, _, _, s14, _, _, _] [14, 8] = true
          cases s8 with
          | ow o => exact absurd rfl (h8 o)
          | _ =>
            cases s14 with
            | ow o => exact absurd rfl (h14 o)
            | _ => rfl
        · obtain ⟨o', ho', v', hv', rfl⟩ := hpr k hk
          refine ⟨rfl, ?_⟩
          show gsCons (gN 14) (gsCons (gN 8) gsNil) [D.str o', D.str v'] _ _
          walk_at "gn"
          walk_at "pl"
          refine ⟨⟨(pool_name (n2 _ ho')).2.1, o2⟩, ?_⟩
          rw [vwK_pr] at hJ
          by_cases c : o' = o
          · rw [if_pos c] at hJ ⊢
            exact ⟨hl, hJ⟩
          · rw [if_neg c] at hJ ⊢
            rw [Option.toList_none, List.append_nil] at hJ
            exact hJ
        refine ⟨lookup_mput_eq g4, ?_⟩
        rw [mput_mput, mput_self g6 g4]
        dsimp only
        obtain ⟨xs, ex, hx⟩ := vw_strs (o := o) hpr
        rw [ex]
        have ck : CkAl 63 ((xs.map D.str).mergeSort leD) := fun d hd => by
          obtain ⟨y, hy, rfl⟩ := List.mem_map.mp (List.mem_mergeSort.mp hd)
          exact ck_strI.mpr (pool_name (n2 _ (hx y hy))).2.1
        refine ⟨sortOk_strs, ⟨ck, ck⟩, ?_⟩
        rw [if_neg (by rw [deqA_refl' ck]; decide)]
        refine h2 _ _ ?_
        clear h2
        refine sFor_k fun N2 h2 => ?_
        walk_at "pl"
        refine h2 _ _ _ ?_
        clear h2
        refine loop_i (fun i ρ M1 => ∃ (s6 s8 s9 s10 s11 s12 s13 s14 s15 s16 s17 : Sl), G M1 ∧ (s11 = .ow (.lst (rows.map rwD)) ∨ s11 = .va (.lst (rows.map rwD))) ∧ ρ = [.un, .va (.ref T), .va (.lst (ns.map D.str)), .va (.ref x), .va (.ref t), .va (.ref u), s6, .va (.str o), s8, s9, s10, s11, s12, s13, s14, s15, s16, s17] ∧ (∀ o, s14 ≠ .ow o) ∧ (∀ o, s8 ≠ .ow o) ∧ (∀ o, s15 ≠ .ow o) ∧ (∀ o, s16 ≠ .ow o) ∧ (∀ o, s17 ≠ .ow o)) ⟨_, _, _, _, _, _, _, _, _, _, _, g, h11, rfl, h14, h8, h15, h16, h17⟩ ?_ ?_
        · clear g1 g2 g3 g4 g5 g6 g h11 h14 h8 h15 h16 h17
          rintro J2 hJ2 i2 dd2 ρ2 M2 hd2 ⟨s6, s8, s9, s10, s11, s12, s13, s14, s15, s16, s17, g, h11, rfl, h14, h8, h15, h16, h17⟩
          obtain ⟨g1, g2, g3, g4, g5, g6⟩ := Ge _ g
          obtain ⟨v, hv, rfl⟩ : ∃ v ∈ ns, dd2 = .str v := by
            obtain ⟨v, hv, rfl⟩ := List.mem_map.mp (List.mem_of_getElem? hd2)
            exact ⟨v, hv, rfl⟩
          obtain ⟨v1, v2, v3⟩ := pool_name (n2 v hv)
          walk_at "gn"
          refine sSeq_i fun N3 h3 => ?_
          simp only [↓sSeq, ↓sAsg, ↓sRet, ↓sRetN, ↓sIf, ↓sDrop, ↓sNext, ↓eVar, ↓bVar, ↓bE, ↓eBin, ↓tE, chS_bl, chS_true, chS_false, wipeE_nil, wipeE_cons, ↓qOr, ↓qNot, ↓eAnd_eq, ↓aNil, ↓aCons, ↓aConsB, ↓eTup, ↓eLst, ↓iSeq, ↓iR1, ↓cSortD, ↓kyOf, Option.isSome_some, lk_int, lk_str, ↓eMeth, ↓eMethX, ↓objOf, ↓eDNew, ↓eMGet, ↓eMGet2, ↓sMPut, ↓dicOf, ↓eTNew, ↓eTGet2, ↓eTPop2, ↓sTPut, ↓ditOf, ↓kysOf, ↓kyL, ↓eMakeM, chOf_ch, ↓eDisp, ↓eDsp, mgK, List.foldl_cons, List.foldl_nil, ↓gN, ↓gsNil, ↓gsCons, ↓eCall, ↓dAdd, ↓dEq, ↓dNe, ↓dIx, ↓eB, ↓cList, ↓gSq, natc0, natc1, natc2, List.findIdx?_cons, List.findIdx?_nil, intsOf_ints, boolsOf_bls, plAnyI, plAnyR, ↓Sl.val, ↓Ow.toD, ↓stE, ↓tYes', ↓PL.isNon, ↓eC, ↓bC, List.getElem?_cons_zero, List.getElem?_cons_succ, List.set_cons_zero, List.set_cons_succ, List.map_cons, List.map_nil, List.length_cons, List.length_nil, List.nil_append, List.cons_append, List.replicate_succ, List.replicate_zero, List.append_nil, atI0, atI1, atI2, atI3, atI4, cmpOk_int, cmpOk_bl, cmpOk_non, deq_int, deq_bl, true_and, and_true, Nat.reduceAdd, Nat.reduceSub, Nat.reduceLeDiff, Nat.reduceLT, Bool.not_eq_true', Bool.false_eq_true, if_false, if_true, decide_eq_true_eq, decide_eq_false_iff_not, Nat.zero_add, Nat.sub_zero, Nat.add_zero, Nat.sub_self, ixN31, ixN32, List.length_map, List.length_set, Int.reduceToNat, Int.reducePow, Int.reduceNeg, Int.reduceAdd, Int.reduceSub, Int.reduceMul, Int.reduceLT, Int.reduceLE, Int.reduceEq, Nat.reduceEqDiff, reduceCtorEq, List.mem_singleton, eq_self, not_true_eq_false, not_false_eq_true, or_true, true_or, cmpOk_lstA, cmpOk_tupA, ckA_lst, ckA_tup, ckAl_nil, ckAl_cons, ckAl_ints, ckAl_rangeL, ck_int, ck_bl, ck_non, ck_strI, cmpOk_str, deq_str, deq_tup, deq_lst, deqA_nil, deqA_cons, deqA_ints, Bool.and_true, Bool.true_and, Bool.and_false, Bool.false_and, decide_true, decide_false, Bool.not_true, Bool.not_false, ↓pDraw, ↓p_Shares_m___init__, ↓p_Shares_m_forget, ↓p_Shares_m_level, ↓p_Shares_m_shown, ↓p_Shares_m_tell, ↓p_Shares_m_usual, ↓p_Shares_m_viewers, ↓p__law_names, ↓p__law_refused, cat_BadName, g4, g5]
          refine h3 _ _ ?_
          clear h3
          refine sSeq_i fun N3 h3 => ?_
          obtain ⟨l, hl, hlm⟩ := ShI.lev hI o v
          have key : N3 [.un, .va (.ref T), .va (.lst (ns.map D.str)), .va (.ref x), .va (.ref t), .va (.ref u), s6, .va (.str o), .va (.str v), s9, s10, s11, .va (levD lt lu o v), s13, s14, s15, s16, s17] M2 := by
            rw [hl]
            refine h3 _ _ ?_
            clear h3
            refine sSeq_i fun N3 h3 => ?_
            walk_at "pl"
            intro p hp
            have gp := Gc _ p (.dic (pK (pK (pK [] (Sum.inr (Str.ofString "none")) (D.lst [])) (Sum.inr (Str.ofString "busy")) (.lst ((rows.map rwD).filterMap hideD))) (Sum.inr (Str.ofString "all")) (.lst (rows.map rwD)))) g hp
            obtain ⟨p1, p2, p3, p4, p5, p6⟩ := Ge _ gp
            refine eLc_fmj hideD (rows.map rwD) [.un, .va (.ref T), .va (.lst (ns.map D.str)), .va (.ref x), .va (.ref t), .va (.ref u), s6, .va (.str o), .va (.str v), s9, s10, .va (.lst (rows.map rwD)), .va (.str l), s13, s14, s15, s16, s17] ((p, .dic []) :: M2) (fun Q h => ?_) ?_ ?_ ?_ ?_
            · rcases h11 with rfl | rfl <;> walk_at "pl" <;> exact h
            · show notOw [_, _, _, _, _, _, _, _, _, _, _, _, _, _, _, s15, s16, s17] [15, 16, 17] = true
              cases s15 with
              | ow o => exact absurd rfl (h15 o)
              | _ =>
                cases s16 with
                | ow o => exact absurd rfl (h16 o)
                | _ =>
                  cases s17 with
                  | ow o => exact absurd rfl (h17 o)
                  | _ => rfl
            · rw [List.length_map]; omega
            · intro k d acc J hd hl2 hJ
              obtain ⟨r, hr, rfl⟩ := List.mem_map.mp (List.mem_of_getElem? hd)
              unfold rwD
              walk_at "gn"
              walk_at "pl"
              exact ⟨hl2, hJ⟩
            simp only [↓sSeq, ↓sAsg, ↓sRet, ↓sRetN, ↓sIf, ↓sDrop, ↓sNext, ↓eVar, ↓bVar, ↓bE, ↓eBin, ↓tE, chS_bl, chS_true, chS_false, wipeE_nil, wipeE_cons, ↓qOr, ↓qNot, ↓eAnd_eq, ↓aNil, ↓aCons, ↓aConsB, ↓eTup, ↓eLst, ↓iSeq, ↓iR1, ↓cSortD, ↓kyOf, Option.isSome_some, lk_int, lk_str, ↓eMeth, ↓eMethX, ↓objOf, ↓eDNew, ↓eMGet, ↓eMGet2, ↓sMPut, ↓dicOf, ↓eTNew, ↓eTGet2, ↓eTPop2, ↓sTPut, ↓ditOf, ↓kysOf, ↓kyL, ↓eMakeM, chOf_ch, ↓eDisp, ↓eDsp, mgK, List.foldl_cons, List.foldl_nil, ↓gN, ↓gsNil, ↓gsCons, ↓eCall, ↓dAdd, ↓dEq, ↓dNe, ↓dIx, ↓eB, ↓cList, ↓gSq, natc0, natc1, natc2, List.findIdx?_cons, List.findIdx?_nil, intsOf_ints, boolsOf_bls, plAnyI, plAnyR, ↓Sl.val, ↓Ow.toD, ↓stE, ↓tYes', ↓PL.isNon, ↓eC, ↓bC, List.getElem?_cons_zero, List.getElem?_cons_succ, List.set_cons_zero, List.set_cons_succ, List.map_cons, List.map_nil, List.length_cons, List.length_nil, List.nil_append, List.cons_append, List.replicate_succ, List.replicate_zero, List.append_nil, atI0, atI1, atI2, atI3, atI4, cmpOk_int, cmpOk_bl, cmpOk_non, deq_int, deq_bl, true_and, and_true, Nat.reduceAdd, Nat.reduceSub, Nat.reduceLeDiff, Nat.reduceLT, Bool.not_eq_true', Bool.false_eq_true, if_false, if_true, decide_eq_true_eq, decide_eq_false_iff_not, Nat.zero_add, Nat.sub_zero, Nat.add_zero, Nat.sub_self, ixN31, ixN32, List.length_map, List.length_set, Int.reduceToNat, Int.reducePow, Int.reduceNeg, Int.reduceAdd, Int.reduceSub, Int.reduceMul, Int.reduceLT, Int.reduceLE, Int.reduceEq, Nat.reduceEqDiff, reduceCtorEq, List.mem_singleton, eq_self, not_true_eq_false, not_false_eq_true, or_true, true_or, cmpOk_lstA, cmpOk_tupA, ckA_lst, ckA_tup, ckAl_nil, ckAl_cons, ckAl_ints, ckAl_rangeL, ck_int, ck_bl, ck_non, ck_strI, cmpOk_str, deq_str, deq_tup, deq_lst, deqA_nil, deqA_cons, deqA_ints, Bool.and_true, Bool.true_and, Bool.and_false, Bool.false_and, decide_true, decide_false, Bool.not_true, Bool.not_false, ↓pDraw, ↓p_Shares_m___init__, ↓p_Shares_m_forget, ↓p_Shares_m_level, ↓p_Shares_m_shown, ↓p_Shares_m_tell, ↓p_Shares_m_usual, ↓p_Shares_m_viewers, ↓p__law_names, ↓p__law_refused, cat_BadName, look_eq, mput_head hp, gK_disp hlm]
            rw [← hl]
            refine h3 _ _ ?_
            clear h3
            simp only [↓sSeq, ↓sAsg, ↓sRet, ↓sRetN, ↓sIf, ↓sDrop, ↓sNext, ↓eVar, ↓bVar, ↓bE, ↓eBin, ↓tE, chS_bl, chS_true, chS_false, wipeE_nil, wipeE_cons, ↓qOr, ↓qNot, ↓eAnd_eq, ↓aNil, ↓aCons, ↓aConsB, ↓eTup, ↓eLst, ↓iSeq, ↓iR1, ↓cSortD, ↓kyOf, Option.isSome_some, lk_int, lk_str, ↓eMeth, ↓eMethX, ↓objOf, ↓eDNew, ↓eMGet, ↓eMGet2, ↓sMPut, ↓dicOf, ↓eTNew, ↓eTGet2, ↓eTPop2, ↓sTPut, ↓ditOf, ↓kysOf, ↓kyL, ↓eMakeM, chOf_ch, ↓eDisp, ↓eDsp, mgK, List.foldl_cons, List.foldl_nil, ↓gN, ↓gsNil, ↓gsCons, ↓eCall, ↓dAdd, ↓dEq, ↓dNe, ↓dIx, ↓eB, ↓cList, ↓gSq, natc0, natc1, natc2, List.findIdx?_cons, List.findIdx?_nil, intsOf_ints, boolsOf_bls, plAnyI, plAnyR, ↓Sl.val, ↓Ow.toD, ↓stE, ↓tYes', ↓PL.isNon, ↓eC, ↓bC, List.getElem?_cons_zero, List.getElem?_cons_succ, List.set_cons_zero, List.set_cons_succ, List.map_cons, List.map_nil, List.length_cons, List.length_nil, List.nil_append, List.cons_append, List.replicate_succ, List.replicate_zero, List.append_nil, atI0, atI1, atI2, atI3, atI4, cmpOk_int, cmpOk_bl, cmpOk_non, deq_int, deq_bl, true_and, and_true, Nat.reduceAdd, Nat.reduceSub, Nat.reduceLeDiff, Nat.reduceLT, Bool.not_eq_true', Bool.false_eq_true, if_false, if_true, decide_eq_true_eq, decide_eq_false_iff_not, Nat.zero_add, Nat.sub_zero, Nat.add_zero, Nat.sub_self, ixN31, ixN32, List.length_map, List.length_set, Int.reduceToNat, Int.reducePow, Int.reduceNeg, Int.reduceAdd, Int.reduceSub, Int.reduceMul, Int.reduceLT, Int.reduceLE, Int.reduceEq, Nat.reduceEqDiff, reduceCtorEq, List.mem_singleton, eq_self, not_true_eq_false, not_false_eq_true, or_true, true_or, cmpOk_lstA, cmpOk_tupA, ckA_lst, ckA_tup, ckAl_nil, ckAl_cons, ckAl_ints, ckAl_rangeL, ck_int, ck_bl, ck_non, ck_strI, cmpOk_str, deq_str, deq_tup, deq_lst, deqA_nil, deqA_cons, deqA_ints, Bool.and_true, Bool.true_and, Bool.and_false, Bool.false_and, decide_true, decide_false, Bool.not_true, Bool.not_false, ↓pDraw, ↓p_Shares_m___init__, ↓p_Shares_m_forget, ↓p_Shares_m_level, ↓p_Shares_m_shown, ↓p_Shares_m_tell, ↓p_Shares_m_usual, ↓p_Shares_m_viewers, ↓p__law_names, ↓p__law_refused, cat_BadName, p1, sh_nm, sh_no1, sh_no6]
            refine ⟨a, b, lt, lu, ⟨p1, p2, p3⟩, hI.lv, ⟨o2, v2⟩, ?_⟩
            rw [hl]
            have lo := lv_so hlm
            refine ⟨⟨cmpOk_str.mpr lo, cmpOk_str.mpr lo⟩, ?_⟩
            rw [if_neg (by rw [deq_refl (cmpOk_str.mpr lo)]; decide)]
            refine ⟨a, b, lt, lu, ⟨p1, p2, p3⟩, hI.lv, ⟨o2, v2, by omega, fun r hr => ?_⟩, ?_⟩
            · obtain ⟨⟨k, e⟩, _, rfl⟩ := List.mem_map.mp hr
              exact ⟨_, _, _, rfl⟩
            rw [hl, ← shownL_str]
            have ck := ck_shown (l := l) (rows := rows)
            refine ⟨⟨ck, ck⟩, ?_⟩
            rw [if_neg (by rw [deqA_refl' ck]; decide)]
            exact hJ2 _ _ _ ⟨_, _, _, _, _, _, _, _, _, _, _, gp, .inr rfl, rfl, h14, (by intro o w; cases w), h15, h16, h17⟩
          clear h3
          walk_at "pl"
          refine ⟨⟨o2, v2⟩, ?_⟩
          unfold levD at key
          by_cases c : o = v
          · rw [if_pos c] at key ⊢
            exact key
          · rw [if_neg c] at key ⊢
            exact key
        · rintro ρ M2 ⟨s6, s8, s9, s10, s11, s12, s13, s14, s15, s16, s17, g, h11, rfl, h14, h8, h15, h16, h17⟩
          exact hJ _ _ _ ⟨_, _, _, _, _, _, _, _, _, _, _, _, g, h11, rfl, h14, h8, h15, h16, h17⟩
      · rintro ρ M1 ⟨s6, s7, s8, s9, s10, s11, s12, s13, s14, s15, s16, s17, g, h11, rfl, h14, h8, h15, h16, h17⟩
        refine h1 _ _ ?_
        clear h1
        walk_at "pl"
        obtain ⟨g1, g2, g3, g4, g5, g6⟩ := Ge _ g
        have hlt := hI.lt
        have hlu := hI.lu
        refine ⟨a, b, lt, lu, ⟨g1, g2, g3⟩, ⟨by decide +kernel, by decide +kernel, by decide +kernel, by omega, by omega⟩, fun w => absurd w.1 (by decide +kernel), ?_⟩
        refine ⟨a, b, lt, lu, ⟨g1, g2, g3⟩, ⟨by decide +kernel, by decide +kernel, by decide +kernel, by omega, by omega⟩, fun w => absurd w.2.2 (by decide +kernel), ?_⟩
        refine ⟨a, b, lt, lu, ⟨g1, g2, g3⟩, ⟨by decide +kernel, by decide +kernel, by decide +kernel, by omega, by omega⟩, fun w => absurd (w.2.1 trivial) (by decide +kernel), ?_⟩
        exact ⟨a, b, lt, lu, ⟨g1, g2, g3⟩, ⟨by decide +kernel, by decide +kernel, by decide +kernel, by omega, by omega⟩, fun w => absurd w.2.2 (by decide +kernel)⟩

end
/-! ### the head -/
end Lw
open PySem PySem.W PySem.Calls PyProof.Rows
set_option maxHeartbeats 0 in
theorem PySem.Challenge.cw_everdays_k55_who_sees_what_holds : PySem.Challenge.rw_everdays_k55_who_sees_what.Holds := by
  w_on; o_law
  refine HandSHeadRun.head_any (r := OpenLaw.row PySem.Challenge.rw_everdays_k55_who_sees_what) (q := view (OpenLaw.row PySem.Challenge.rw_everdays_k55_who_sees_what).prog [15]) (H := Lw.hk) (ob := Lw.headOb) (M := 1560) (loose := Lw.loose) (d := HandSHeadRun.topDef (OpenLaw.row PySem.Challenge.rw_everdays_k55_who_sees_what).prog 15) (kwd := []) Lw.headOb_eq
    (by kernel_rfl) (fun s => by kernel_rfl) Lw.run Lw.hA1 Lw.hA2 Lw.hA3 (by rfl) (by first | assumption | decide +kernel) Lw.hA6 Lw.hA8 ?hw ?hc
  case hw => w_witness2
  case hc =>
    refine L2.walk_ofE (l := PySem.Challenge.rw_everdays_k55_who_sees_what) (n := 63) (k := 4) (x := "script") (CX := L2.CX0) rfl (by decide) (by kernel_rfl) ⟨rfl, by decide, by decide⟩ ?F (fun _ _ _ _ z => z)
    intro w mg fa h Y G hmg0
    obtain ⟨K, KX, c⟩ := Y
    have hmg : mg ("law" : PySem.Str) = some (.ref fa) := by
      have e := Lw.hA7
      rw [← e]
      exact hmg0
    obtain ⟨fd, hb, hF⟩ := Lw.facts (P := (PySem.Challenge.rw_everdays_k55_who_sees_what).prog) (w := w) KX G hmg c (fun T => Lw.ok_law T)
    exact ⟨K, fd, PL.spLaw K, KX, hb, fun H a ns hl _ hS => ⟨a, ns, rfl, hS, fun _ => rfl⟩, hF⟩
