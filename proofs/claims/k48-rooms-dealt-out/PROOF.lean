import PyProof.Rows.All
import Wide.All
import OpenK.AllK
import Wide.FinOn
import HandS.ForMost
import HandS.ForExc
import HandS.Wide
import HandS.IsInst
import HandS.Deep
import HandS.Flow
import HandS.TupAny
import HandS.SortInts
import HandS.Gcd
import HandS.Conv
import HandS.Defaults
import HandS.Head0
import HandS.Head1
import HandS.Head2
import HandS.HeadEnd
import HandS.HeadHook1
import HandS.HeadHook2
import HandS.TryOnly
import HandS.SetFor
import HandS.ExcOwn
import HandS.WordsExc
import HandS.Iter
import KE.GoesEnum
import HandS.Strs
import HandS.SetFor
import KE.SortData
import PySem.Challenge.RW_everdays_k48_whole_rooms_dealt_out
set_option Elab.async false
set_option linter.all false
set_option maxRecDepth 100000
set_option maxHeartbeats 8000000
/-! A layer of pure data over HandS: slots hold values (data without addresses) or lists of one's own; readings speak of data alone. -/
namespace PL
open PySem PySem.Spec PyProof.Rows L2

/-! ### data -/
inductive D where
  | non | bl (b : Bool) | int (i : Int) | str (x : Str) | tup (xs : List D) | lst (xs : List D) | ref (a : Addr) | ty (n : String) | set (f : Int → Bool) (n : Nat) | dic (ks : List Key) (xs : List D) | obj (c : Str) (fs : List Str) (xs : List D)
abbrev Fg := PySem.W.Frag
abbrev St := L2.St
mutual
inductive Rp (K : Fg) (S : Hp) : V → D → Prop
  | non : Rp K S .non .non
  | bl (b : Bool) : Rp K S (.bl b) (.bl b)
  | int (i : Int) : Rp K S (.int i) (.int i)
  | str (x : Str) : Rp K S (.str x) (.str x)
  | ty (n : String) : Rp K S (.ty n) (.ty n)
  | ref (a : Addr) : Rp K S (.ref a) (.ref a)
  | lst {a : Addr} {xs : List V} {ds : List D} : S a = some (.lst xs) → RpA K S xs ds → Rp K S (.ref a) (.lst ds)
  | tup {a : Addr} {xs : List V} {ds : List D} : SqT K S a xs → RpA K S xs ds → Rp K S (.ref a) (.tup ds)
  | set {a : Addr} {f : Int → Bool} {n : Nat} : S a = some (.set f n) → Rp K S (.ref a) (.set f n)
  | dic {a : Addr} {o : Obj} {ks : List Key} {xs : List V} {ds : List D} : S a = some (.frz o (.dK (ks.zip xs))) → ks.length = xs.length → RpA K S xs ds → Rp K S (.ref a) (.dic ks ds)
  | obj {a dx : Addr} {c : Str} {fs : List Str} {xs : List V} {ds : List D} : S a = some (.ins (He.ga K c) dx (fs.zip xs)) → fs.length = xs.length → fs.Nodup → RpA K S xs ds → Rp K S (.ref a) (.obj c fs ds)
inductive RpA (K : Fg) (S : Hp) : List V → List D → Prop
  | nil : RpA K S [] []
  | cons {v : V} {vs : List V} {d : D} {ds : List D} : Rp K S v d → RpA K S vs ds → RpA K S (v :: vs) (d :: ds)
end
theorem same_seqT {K : Fg} {H H' : Hp} {a : Addr} {xs : List V} (e : Same H H') (h : SqT K H a xs) : SqT K H' a xs := by
  rcases h with (h | ⟨o, h⟩) | h
  · exact .inl (.inl (e _ _ h))
  · exact .inl (.inr ⟨o, e _ _ h⟩)
  · exact .inr h
mutual
theorem Rp.ext {K : Fg} {S S' : Hp} (e : Same S S') : ∀ (d : D) (v : V), Rp K S v d → Rp K S' v d
  | .non, _, h => by cases h; exact .non
  | .bl b, _, h => by cases h; exact .bl b
  | .int i, _, h => by cases h; exact .int i
  | .str x, _, h => by cases h; exact .str x
  | .ty n, _, h => by cases h; exact .ty n
  | .ref a, _, h => by cases h; exact .ref a
  | .lst ds, _, h => by cases h with | lst a b => exact .lst (e _ _ a) (RpA.ext e ds _ b)
  | .tup ds, _, h => by cases h with | tup a b => exact .tup (same_seqT e a) (RpA.ext e ds _ b)
  | .set f n, _, h => by cases h with | set a => exact .set (e _ _ a)
  | .dic ks ds, _, h => by cases h with | dic a l b => exact .dic (e _ _ a) l (RpA.ext e ds _ b)
  | .obj c fs ds, _, h => by cases h with | obj a l n b => exact .obj (e _ _ a) l n (RpA.ext e ds _ b)
theorem RpA.ext {K : Fg} {S S' : Hp} (e : Same S S') : ∀ (ds : List D) (vs : List V), RpA K S vs ds → RpA K S' vs ds
  | [], _, h => by cases h; exact .nil
  | d :: ds, _, h => by cases h with | cons a b => exact .cons (Rp.ext e d _ a) (RpA.ext e ds _ b)
end
section
variable {K : Fg} {S : Hp}
theorem RpA.length : ∀ {ds : List D} {vs : List V}, RpA K S vs ds → vs.length = ds.length
  | [], _, h => by cases h; rfl
  | d :: ds, _, h => by cases h with | cons a b => rw [List.length_cons, List.length_cons, RpA.length b]
theorem RpA.get : ∀ {ds : List D} {vs : List V} {i : Nat} {d : D}, RpA K S vs ds → ds[i]? = some d → ∃ v, vs[i]? = some v ∧ Rp K S v d
  | [], _, _, _, _, e => by simp at e
  | c :: ds, _, 0, d, h, e => by cases h with | cons a b => simp at e; subst e; exact ⟨_, rfl, a⟩
  | c :: ds, _, i + 1, d, h, e => by
    cases h with
    | cons a b =>
      obtain ⟨v, h1, h2⟩ := RpA.get (i := i) b (by simpa using e)
      exact ⟨v, by simpa using h1, h2⟩
theorem RpA.getV {ds : List D} {vs : List V} {i : Nat} {v : V} (h : RpA K S vs ds) (e : vs[i]? = some v) : ∃ d, ds[i]? = some d ∧ Rp K S v d := by
  have hl := h.length
  have hi : i < vs.length := (List.getElem?_eq_some_iff.mp e).1
  have q : ds[i]? = some ds[i] := List.getElem?_eq_getElem (by omega)
  obtain ⟨u, h1, h2⟩ := h.get q
  rw [e] at h1
  cases h1
  exact ⟨_, q, h2⟩
theorem RpA.append : ∀ {ds : List D} {vs : List V} {es : List D} {us : List V}, RpA K S vs ds → RpA K S us es → RpA K S (vs ++ us) (ds ++ es)
  | [], _, _, _, h, k => by cases h; exact k
  | d :: ds, _, _, _, h, k => by cases h with | cons a b => exact .cons a (b.append k)
theorem RpA.one {v : V} {d : D} (h : Rp K S v d) : RpA K S [v] [d] := .cons h .nil
theorem RpA.set : ∀ {ds : List D} {vs : List V} {i : Nat} {v : V} {d : D}, RpA K S vs ds → Rp K S v d → RpA K S (vs.set i v) (ds.set i d)
  | [], _, _, _, _, h, _ => by cases h; exact .nil
  | c :: ds, _, 0, _, _, h, k => by cases h with | cons a b => exact .cons k b
  | c :: ds, _, i + 1, _, _, h, k => by cases h with | cons a b => exact .cons a (b.set k)
theorem RpA.take : ∀ {ds : List D} {vs : List V} (n : Nat), RpA K S vs ds → RpA K S (vs.take n) (ds.take n)
  | [], _, n, h => by cases h; simp; exact .nil
  | c :: ds, _, 0, h => by simp; exact .nil
  | c :: ds, _, n + 1, h => by cases h with | cons a b => exact .cons a (b.take n)
theorem RpA.drop : ∀ {ds : List D} {vs : List V} (n : Nat), RpA K S vs ds → RpA K S (vs.drop n) (ds.drop n)
  | [], _, n, h => by cases h; simp; exact .nil
  | c :: ds, _, 0, h => h
  | c :: ds, _, n + 1, h => by cases h with | cons a b => exact b.drop n
theorem RpA.ints : ∀ {ns : List Int}, RpA K S (ns.map V.int) (ns.map D.int)
  | [] => .nil
  | n :: ns => .cons (.int n) RpA.ints
theorem RpA.intsV : ∀ {ns : List Int} {vs : List V}, RpA K S vs (ns.map D.int) → vs = ns.map V.int
  | [], _, h => by cases h; rfl
  | n :: ns, _, h => by cases h with | cons a b => cases a; rw [RpA.intsV b]; rfl
theorem RpA.blsV : ∀ {ns : List Bool} {vs : List V}, RpA K S vs (ns.map D.bl) → vs = ns.map V.bl
  | [], _, h => by cases h; rfl
  | n :: ns, _, h => by cases h with | cons a b => cases a; rw [RpA.blsV b]; rfl
theorem RpA.reverse : ∀ {ds : List D} {vs : List V}, RpA K S vs ds → RpA K S vs.reverse ds.reverse
  | [], _, h => by cases h; exact .nil
  | d :: ds, _, h => by
    cases h with
    | cons a b =>
      rw [List.reverse_cons, List.reverse_cons]
      exact b.reverse.append (.one a)
end

/-- a dict's rows, key by key -/
inductive KP {κ : Type} (K : Fg) (S : Hp) : List (κ × V) → List (κ × D) → Prop
  | nil : KP K S [] []
  | cons {k : κ} {v : V} {d : D} {kvs : List (κ × V)} {kds : List (κ × D)} : Rp K S v d → KP K S kvs kds → KP K S ((k, v) :: kvs) ((k, d) :: kds)
theorem KP.ext {κ : Type} {K : Fg} {S S' : Hp} (e : Same S S') {kvs : List (κ × V)} {kds : List (κ × D)} (h : KP K S kvs kds) : KP K S' kvs kds := by
  induction h with
  | nil => exact .nil
  | cons a _ ih => exact .cons (Rp.ext e _ _ a) ih
theorem KP.length {κ : Type} {K : Fg} {S : Hp} {kvs : List (κ × V)} {kds : List (κ × D)} (h : KP K S kvs kds) : kvs.length = kds.length := by
  induction h with
  | nil => rfl
  | cons _ _ ih => rw [List.length_cons, List.length_cons, ih]
/-! ### what stands in a slot; what may be changed -/
inductive Ow where
  | lst (ds : List D)
def Ow.toD : Ow → D
  | .lst ds => .lst ds
def OwOk (K : Fg) (S H : Hp) (a : Addr) : Ow → Prop
  | .lst ds => ∃ xs, H a = some (.lst xs) ∧ RpA K S xs ds
inductive Sl where
  | un | va (d : D) | ow (o : Ow)
def Sl.val : Sl → D
  | .un => .non
  | .va d => d
  | .ow o => o.toD
/-- objects known by their address: the law's tape, a list that several hold -/
inductive MO where
  | tape | lst (ds : List D) | ins (c : Str) (fs : List Str) (ds : List D) | dic (l : List (Key × D)) | dit (l : List (List Key × D))
def MOk (K : Fg) (S H : Hp) (a : Addr) : MO → Prop
  | .tape => ∃ c ns k x, H a = some (.lst [.ref c, .int k, .int x]) ∧ S c = some (.lst (List.map V.int ns)) ∧ (0 : Int) ≤ k ∧ (0 : Int) ≤ x
  | .lst ds => ∃ xs, H a = some (.lst xs) ∧ RpA K S xs ds
  | .ins c fs ds => ∃ dx xs, H a = some (.ins (He.ga K c) dx (fs.zip xs)) ∧ fs.length = xs.length ∧ fs.Nodup ∧ RpA K S xs ds
  | .dic l => ∃ kvs, H a = some (.dK kvs) ∧ KP K S kvs l
  | .dit l => ∃ kvs, H a = some (.dT kvs) ∧ KP K S kvs l
abbrev Mu := List (Addr × MO)
abbrev Ev := List Sl
theorem MOk.at {K : Fg} {S H : Hp} {a : Addr} : ∀ {o : MO}, MOk K S H a o → ∃ u, H a = some u
  | .tape, ⟨_, _, _, _, e, _⟩ => ⟨_, e⟩
  | .lst _, ⟨_, e, _⟩ => ⟨_, e⟩
  | .ins _ _ _, ⟨_, _, e, _⟩ => ⟨_, e⟩
  | .dic _, ⟨_, e, _⟩ => ⟨_, e⟩
  | .dit _, ⟨_, e, _⟩ => ⟨_, e⟩
theorem OwOk.at {K : Fg} {S H : Hp} {a : Addr} : ∀ {o : Ow}, OwOk K S H a o → ∃ u, H a = some u
  | .lst _, ⟨_, e, _⟩ => ⟨_, e⟩
theorem MOk.ext {K : Fg} {S H S' H' : Hp} {a : Addr} (e : Same S S') (k : H' a = H a) : ∀ {o : MO}, MOk K S H a o → MOk K S' H' a o
  | .tape, ⟨c, ns, i, x, h, q, r⟩ => ⟨c, ns, i, x, k.trans h, e _ _ q, r⟩
  | .lst _, ⟨xs, h, q⟩ => ⟨xs, k.trans h, RpA.ext e _ _ q⟩
  | .ins _ _ _, ⟨dx, xs, h, l, n, q⟩ => ⟨dx, xs, k.trans h, l, n, RpA.ext e _ _ q⟩
  | .dic _, ⟨kvs, h, q⟩ => ⟨kvs, k.trans h, q.ext e⟩
  | .dit _, ⟨kvs, h, q⟩ => ⟨kvs, k.trans h, q.ext e⟩
theorem OwOk.ext {K : Fg} {S H S' H' : Hp} {a : Addr} (e : Same S S') (k : H' a = H a) : ∀ {o : Ow}, OwOk K S H a o → OwOk K S' H' a o
  | .lst _, ⟨xs, h, q⟩ => ⟨xs, k.trans h, RpA.ext e _ _ q⟩

/-- what an expression, a call may do: objects known by address change, all else stands, new things come -/
structure Step (S : Hp) (M : Mu) (H S' : Hp) (M' : Mu) (H' : Hp) : Prop where
  same : Same S S'
  keep : ∀ b o, H b = some o → (∀ p ∈ M, p.1 ≠ b) → H' b = some o
  mnew : ∀ p ∈ M', (∃ q ∈ M, q.1 = p.1) ∨ H p.1 = none
  dom : ∀ b, H b ≠ none → H' b ≠ none
section
variable {S S1 S2 S' H H1 H2 H' : Hp} {M M1 M2 M' : Mu}
theorem Step.refl : Step S M H S M H := ⟨.refl _, fun _ _ h _ => h, fun p hp => .inl ⟨p, hp, rfl⟩, fun _ h => h⟩
theorem Step.trans (a : Step S M H S1 M1 H1) (b : Step S1 M1 H1 S2 M2 H2) : Step S M H S2 M2 H2 := by
  refine ⟨a.same.trans b.same, fun c o h n => ?_, fun p hp => ?_, fun c h => b.dom c (a.dom c h)⟩
  · refine b.keep c o (a.keep c o h n) fun p hp e => ?_
    rcases a.mnew p hp with ⟨q, hq, e2⟩ | e2
    · exact n q hq (e2.trans e)
    · rw [e, h] at e2; cases e2
  · rcases b.mnew p hp with ⟨q, hq, e⟩ | e
    · rcases a.mnew q hq with ⟨r, hr, e2⟩ | e2
      · exact .inl ⟨r, hr, e2.trans e⟩
      · exact .inr (e ▸ e2)
    · refine .inr ?_
      cases h : H p.1 with
      | none => rfl
      | some o => exact absurd e (a.dom p.1 (by rw [h]; simp))
/-- new things alone -/
theorem Step.grow (hS : Same S S') (hH : Same H H') : Step S M H S' M H' :=
  ⟨hS, fun b o h _ => hH b o h, fun p hp => .inl ⟨p, hp, rfl⟩, fun b h => by
    cases e : H b with
    | none => exact absurd e h
    | some o => rw [hH b o e]; simp⟩
end

/-- a def's call: its written part, its entry -/
structure Z where
  K : Fg
  H0 : Hp
  S0 : Hp
  M0 : Mu
  /-- what is not to be known (a comprehension's list) -/
  R : Addr → Prop := fun _ => False
/-- new, and to be known -/
def Z.Nw (z : Z) (a : Addr) : Prop := z.H0 a = none ∧ ¬ z.R a
structure Core (z : Z) (S : Hp) (M : Mu) (H : Hp) : Prop where
  step : Step z.S0 z.M0 z.H0 S M H
  sub : Same S H
  frS : ∀ b, S b ≠ none → z.S0 b ≠ none ∨ z.H0 b = none
  mu : ∀ p ∈ M, S p.1 = none ∧ MOk z.K S H p.1 p.2
  mnd : (M.map (·.1)).Nodup
  rsv : ∀ b, z.R b → S b = none ∧ H b ≠ none ∧ ∀ p ∈ M, p.1 ≠ b
structure Sim (z : Z) (S : Hp) (M : Mu) (ρ : Ev) (σ : St) (H : Hp) : Prop extends Core z S M H where
  len : σ.length = ρ.length
  va : ∀ (i : Nat) d, ρ[i]? = some (.va d) → ∃ v, σ[i]? = some (some v) ∧ Rp z.K S v d
  ow : ∀ (i : Nat) o, ρ[i]? = some (.ow o) → ∃ a, σ[i]? = some (some (.ref a)) ∧ S a = none ∧ z.Nw a ∧ OwOk z.K S H a o ∧ ∀ p ∈ M, p.1 ≠ a
  sep : ∀ (i j : Nat) o o' a, ρ[i]? = some (.ow o) → ρ[j]? = some (.ow o') → σ[i]? = some (some (.ref a)) → σ[j]? = some (some (.ref a)) → i = j
/-- an expression's value -/
def ResE (z : Z) (S : Hp) (M : Mu) (ρ : Ev) (σ : St) (H : Hp) (v : V) : Sl → Prop
  | .un => False
  | .va d => Rp z.K S v d
  | .ow o => ∃ a, v = .ref a ∧ S a = none ∧ z.Nw a ∧ OwOk z.K S H a o ∧ (∀ p ∈ M, p.1 ≠ a) ∧ ∀ (i : Nat) o', ρ[i]? = some (.ow o') → σ[i]? ≠ some (some (.ref a))
/-- a def's value -/
def ResF (z : Z) (S : Hp) (M : Mu) (H : Hp) (v : V) : Sl → Prop
  | .un => False
  | .va d => Rp z.K S v d
  | .ow o => ∃ a, v = .ref a ∧ S a = none ∧ z.Nw a ∧ OwOk z.K S H a o ∧ (∀ p ∈ M, p.1 ≠ a)
/-- a value that is only looked at -/
def Rb (K : Fg) (S : Hp) (M : Mu) (H : Hp) (v : V) (d : D) : Prop :=
  Rp K S v d ∨ ∃ a xs ds, v = .ref a ∧ d = .lst ds ∧ H a = some (.lst xs) ∧ RpA K S xs ds ∧ ∀ p ∈ M, p.1 ≠ a
theorem ResE.f {z : Z} {S : Hp} {M : Mu} {ρ : Ev} {σ : St} {H : Hp} {v : V} {r : Sl} (h : ResE z S M ρ σ H v r) : ResF z S M H v r := by
  cases r with
  | un => exact h
  | va d => exact h
  | ow o => obtain ⟨a, h1, h2, h3, h4, h5, _⟩ := h; exact ⟨a, h1, h2, h3, h4, h5⟩
theorem ResE.rb {z : Z} {S : Hp} {M : Mu} {ρ : Ev} {σ : St} {H : Hp} {v : V} {r : Sl} (h : ResE z S M ρ σ H v r) : Rb z.K S M H v r.val := by
  cases r with
  | un => exact h.elim
  | va d => exact .inl h
  | ow o =>
    cases o with
    | lst ds => obtain ⟨a, h1, h2, h3, ⟨xs, h4, h6⟩, h5, _⟩ := h; exact .inr ⟨a, xs, ds, h1, rfl, h4, h6, h5⟩
theorem Rb.step {K : Fg} {S S' : Hp} {M M' : Mu} {H H' : Hp} {v : V} {d : D} (h : Rb K S M H v d) (t : Step S M H S' M' H') : Rb K S' M' H' v d := by
  rcases h with h | ⟨a, xs, ds, h1, h2, h3, h4, h5⟩
  · exact .inl (Rp.ext t.same _ _ h)
  · refine .inr ⟨a, xs, ds, h1, h2, t.keep a _ h3 h5, RpA.ext t.same _ _ h4, fun p hp e => ?_⟩
    rcases t.mnew p hp with ⟨q, hq, e2⟩ | e2
    · exact h5 q hq (e2.trans e)
    · rw [e, h3] at e2; cases e2

section
variable {z : Z} {S S' : Hp} {M M' : Mu} {ρ : Ev} {σ : St} {H H' : Hp} {v : V} {r : Sl}
theorem Core.h0 (h : Core z S M H) {b : Addr} (e : H b = none) : z.H0 b = none := by
  cases q : z.H0 b with
  | none => rfl
  | some o => exact absurd e (h.step.dom b (by rw [q]; simp))
theorem Core.sNone (h : Core z S M H) {b : Addr} (e : H b = none) : S b = none := by
  cases q : S b with
  | none => rfl
  | some o => rw [h.sub b o q] at e; cases e
theorem Core.grow (h : Core z S M H) (hS : Same S S') (hH : Same H H') (hSH : Same S' H') (fr : ∀ b, S' b ≠ none → S b ≠ none ∨ H b = none) : Core z S' M H' := by
  refine ⟨h.step.trans (.grow hS hH), hSH, fun b e => ?_, fun p hp => ?_, h.mnd, fun b hb => ?_⟩
  · rcases fr b e with e | e
    · exact h.frS b e
    · exact .inr (h.h0 e)
  · obtain ⟨a, b⟩ := h.mu p hp
    obtain ⟨u, hu⟩ := b.at
    refine ⟨?_, b.ext hS ((hH _ _ hu).trans hu.symm)⟩
    cases q : S' p.1 with
    | none => rfl
    | some o =>
      rcases fr p.1 (by rw [q]; simp) with e | e
      · exact absurd a e
      · rw [hu] at e; cases e
  · obtain ⟨r1, r2, r3⟩ := h.rsv b hb
    refine ⟨?_, ?_, r3⟩
    · cases q : S' b with
      | none => rfl
      | some o =>
        rcases fr b (by rw [q]; simp) with e | e
        · exact absurd r1 e
        · exact absurd e r2
    · cases e : H b with
      | none => exact absurd e r2
      | some o => rw [hH b o e]; simp
theorem Core.nw (h : Core z S M H) {b : Addr} (e : H b = none) : z.Nw b := ⟨h.h0 e, fun r => (h.rsv b r).2.1 e⟩
theorem Sim.grow (h : Sim z S M ρ σ H) (hS : Same S S') (hH : Same H H') (hSH : Same S' H') (fr : ∀ b, S' b ≠ none → S b ≠ none ∨ H b = none) : Sim z S' M ρ σ H' := by
  refine ⟨h.toCore.grow hS hH hSH fr, h.len, fun i d e => ?_, fun i o e => ?_, h.sep⟩
  · obtain ⟨v, a, b⟩ := h.va i d e
    exact ⟨v, a, Rp.ext hS _ _ b⟩
  · obtain ⟨a, h1, h2, h3, h4, h5⟩ := h.ow i o e
    obtain ⟨u, hu⟩ := h4.at
    refine ⟨a, h1, ?_, h3, h4.ext hS ((hH _ _ hu).trans hu.symm), h5⟩
    cases q : S' a with
    | none => rfl
    | some o =>
      rcases fr a (by rw [q]; simp) with e | e
      · exact absurd h2 e
      · rw [hu] at e; cases e
theorem same_upd {p : Addr} {o : HO} (hp : H p = none) : Same H (upd H p o) := fun b u e => by rw [upd_ne (ne_of_none e hp)]; exact e
/-- a new thing, known from now on -/
theorem Sim.alloc {p : Addr} {o : HO} (h : Sim z S M ρ σ H) (hp : H p = none) : Sim z (upd S p o) M ρ σ (upd H p o) ∧ Step S M H (upd S p o) M (upd H p o) := by
  have hs : S p = none := h.toCore.sNone hp
  refine ⟨h.grow (same_upd hs) (same_upd hp) (fun b u e => ?_) fun b e => ?_, .grow (same_upd hs) (same_upd hp)⟩
  · by_cases hb : b = p
    · subst hb; rw [upd_same] at e ⊢; exact e
    · rw [upd_ne hb] at e ⊢; exact h.sub b u e
  · by_cases hb : b = p
    · subst hb; exact .inr hp
    · rw [upd_ne hb] at e; exact .inl e
/-- a new thing that nothing is said of -/
theorem Sim.more {p : Addr} {o : HO} (h : Sim z S M ρ σ H) (hp : H p = none) : Sim z S M ρ σ (upd H p o) ∧ Step S M H S M (upd H p o) :=
  ⟨h.grow (.refl _) (same_upd hp) (h.sub.trans (same_upd hp)) fun b e => .inl e, .grow (.refl _) (same_upd hp)⟩
/-- a new list of one's own -/
theorem Sim.fresh {p : Addr} {xs : List V} {ds : List D} (h : Sim z S M ρ σ H) (hp : H p = none) (hr : RpA z.K S xs ds) :
    Sim z S M ρ σ (upd H p (.lst xs)) ∧ Step S M H S M (upd H p (.lst xs)) ∧ ResE z S M ρ σ (upd H p (.lst xs)) (.ref p) (.ow (.lst ds)) := by
  obtain ⟨a, b⟩ := h.more (o := .lst xs) hp
  refine ⟨a, b, p, rfl, h.toCore.sNone hp, h.toCore.nw hp, ⟨xs, upd_same, hr⟩, fun q hq e => ?_, fun i o' e q => ?_⟩
  · obtain ⟨u, hu⟩ := (h.mu q hq).2.at
    rw [e, hp] at hu; cases hu
  · obtain ⟨a, h1, _, _, h4, _⟩ := h.ow i o' e
    rw [q] at h1; cases h1
    obtain ⟨u, hu⟩ := h4.at
    rw [hp] at hu; cases hu
/-- an object of one's own is known from now on -/
theorem Sim.adopt {a : Addr} {o : HO} (h : Sim z S M ρ σ H) (ha : H a = some o) (hs : S a = none) (h0 : z.Nw a) (hm : ∀ p ∈ M, p.1 ≠ a) (hn : ∀ (i : Nat) o', ρ[i]? = some (.ow o') → σ[i]? ≠ some (some (.ref a))) :
    Sim z (upd S a o) M ρ σ H := by
  have hS : Same S (upd S a o) := same_upd hs
  refine ⟨⟨h.step.trans ⟨hS, fun _ _ e _ => e, fun p hp => .inl ⟨p, hp, rfl⟩, fun _ e => e⟩, fun b u e => ?_, fun b e => ?_, fun p hp => ?_, h.mnd, fun b hb => ?_⟩, h.len, fun i d e => ?_, fun i o' e => ?_, h.sep⟩
  · by_cases hb : b = a
    · subst hb; rw [upd_same] at e; cases e; exact ha
    · rw [upd_ne hb] at e; exact h.sub b u e
  · by_cases hb : b = a
    · subst hb; exact .inr h0.1
    · rw [upd_ne hb] at e; exact h.frS b e
  · obtain ⟨q, w⟩ := h.mu p hp
    exact ⟨by rw [upd_ne (hm p hp)]; exact q, w.ext hS rfl⟩
  · obtain ⟨r1, r2, r3⟩ := h.rsv b hb
    exact ⟨by rw [upd_ne (fun e : b = a => h0.2 (by rw [← e]; exact hb))]; exact r1, r2, r3⟩
  · obtain ⟨v, q, w⟩ := h.va i d e
    exact ⟨v, q, Rp.ext hS _ _ w⟩
  · obtain ⟨b, h1, h2, h3, h4, h5⟩ := h.ow i o' e
    refine ⟨b, h1, ?_, h3, h4.ext hS rfl, h5⟩
    rw [upd_ne (fun z => hn i o' e (by rw [← z]; exact h1))]
    exact h2
theorem Sim.freeze (h : Sim z S M ρ σ H) (hr : ResE z S M ρ σ H v r) : ∃ S', Sim z S' M ρ σ H ∧ Step S M H S' M H ∧ Rp z.K S' v r.val := by
  cases r with
  | un => exact hr.elim
  | va d => exact ⟨S, h, .refl, (show Rp z.K S v d from hr)⟩
  | ow o =>
    cases o with
    | lst ds =>
      obtain ⟨a, rfl, h2, h3, ⟨xs, h4, h6⟩, h5, h7⟩ := hr
      have hS : Same S (upd S a (.lst xs)) := same_upd h2
      exact ⟨_, h.adopt h4 h2 h3 h5 h7, .grow hS (.refl _), .lst upd_same (RpA.ext hS _ _ h6)⟩
theorem set_get {α : Type} {l : List α} {i j : Nat} {x y : α} (h : (l.set i x)[j]? = some y) : (i = j ∧ x = y ∧ i < l.length) ∨ (i ≠ j ∧ l[j]? = some y) := by
  rw [List.getElem?_set] at h
  by_cases e : i = j
  · subst e
    rw [if_pos rfl] at h
    by_cases hl : i < l.length
    · rw [if_pos hl] at h
      exact .inl ⟨rfl, Option.some.inj h, hl⟩
    · rw [if_neg hl] at h
      cases h
  · rw [if_neg e] at h
    exact .inr ⟨e, h⟩
/-- a slot is forgotten -/
theorem Sim.drop {i : Nat} (h : Sim z S M ρ σ H) : Sim z S M (ρ.set i .un) σ H := by
  refine ⟨h.toCore, by rw [List.length_set]; exact h.len, fun j d q => ?_, fun j o' q => ?_, fun j k o1 o2 b q1 q2 => ?_⟩
  · rcases set_get q with ⟨_, e, _⟩ | ⟨_, e⟩
    · cases e
    · exact h.va j d e
  · rcases set_get q with ⟨_, e, _⟩ | ⟨_, e⟩
    · cases e
    · exact h.ow j o' e
  · rcases set_get q1 with ⟨_, e, _⟩ | ⟨_, e1⟩
    · cases e
    · rcases set_get q2 with ⟨_, e, _⟩ | ⟨_, e2⟩
      · cases e
      · exact h.sep j k o1 o2 b e1 e2
/-- a slot's list is handed on -/
theorem Sim.move {i : Nat} {o : Ow} (h : Sim z S M ρ σ H) (e : ρ[i]? = some (.ow o)) : ∃ v, σ[i]? = some (some v) ∧ ResE z S M (ρ.set i .un) σ H v (.ow o) := by
  obtain ⟨a, h1, h2, h3, h4, h5⟩ := h.ow i o e
  refine ⟨_, h1, a, rfl, h2, h3, h4, h5, fun j o' q w => ?_⟩
  rcases set_get q with ⟨_, e, _⟩ | ⟨ne, e2⟩
  · cases e
  · exact ne (h.sep i j o o' a e e2 h1 w)
/-- a slot's list is known from now on -/
theorem Sim.freezeSlot {i : Nat} {o : Ow} (h : Sim z S M ρ σ H) (e : ρ[i]? = some (.ow o)) : ∃ S', Sim z S' M (ρ.set i (.va o.toD)) σ H ∧ Step S M H S' M H ∧ ∃ v, σ[i]? = some (some v) ∧ Rp z.K S' v o.toD := by
  obtain ⟨v, h1, hm⟩ := h.move e
  have hi : i < ρ.length := (List.getElem?_eq_some_iff.mp e).1
  obtain ⟨S', s1, s2, s3⟩ := h.drop.freeze hm
  refine ⟨S', ?_, s2, _, h1, s3⟩
  refine ⟨s1.toCore, by rw [List.length_set]; exact h.len, fun j d q => ?_, fun j o' q => ?_, fun j k o1 o2 b q1 q2 => ?_⟩
  · rcases set_get q with ⟨e1, e2, _⟩ | ⟨ne, e2⟩
    · subst e1
      cases e2
      exact ⟨_, h1, s3⟩
    · exact s1.va j d (by rw [List.getElem?_set, if_neg ne]; exact e2)
  · rcases set_get q with ⟨e1, e2, _⟩ | ⟨ne, e2⟩
    · cases e2
    · exact s1.ow j o' (by rw [List.getElem?_set, if_neg ne]; exact e2)
  · rcases set_get q1 with ⟨_, e2, _⟩ | ⟨n1, e1⟩
    · cases e2
    · rcases set_get q2 with ⟨_, e2, _⟩ | ⟨n2, e2⟩
      · cases e2
      · exact s1.sep j k o1 o2 b (by rw [List.getElem?_set, if_neg n1]; exact e1) (by rw [List.getElem?_set, if_neg n2]; exact e2)
/-- a slot is stored -/
theorem Sim.put {i : Nat} (h : Sim z S M ρ σ H) (hr : ResE z S M ρ σ H v r) : Sim z S M (ρ.set i r) (σ.set i (some v)) H := by
  have at_ : ∀ {x : Sl}, i < ρ.length → (σ.set i (some v))[i]? = some (some v) := fun {x} hl => by
    rw [List.getElem?_set_self (by rw [h.len]; exact hl)]
  have ne_ : ∀ {j : Nat}, i ≠ j → (σ.set i (some v))[j]? = σ[j]? := fun {j} n => List.getElem?_set_ne n
  refine ⟨h.toCore, by rw [List.length_set, List.length_set]; exact h.len, fun j d q => ?_, fun j o' q => ?_, fun j k o1 o2 b q1 q2 w1 w2 => ?_⟩
  · rcases set_get q with ⟨e1, e2, hl⟩ | ⟨ne, e2⟩
    · subst e1 e2
      exact ⟨v, at_ (x := .un) hl, hr⟩
    · rw [ne_ ne]
      exact h.va j d e2
  · rcases set_get q with ⟨e1, e2, hl⟩ | ⟨ne, e2⟩
    · subst e1 e2
      obtain ⟨a, rfl, x1, x2, x3, x4, _⟩ := hr
      exact ⟨a, at_ (x := .un) hl, x1, x2, x3, x4⟩
    · rw [ne_ ne]
      exact h.ow j o' e2
  · rcases set_get q1 with ⟨e1, e2, hl⟩ | ⟨n1, e1⟩
    · subst e1 e2
      rcases set_get q2 with ⟨e1, e2, _⟩ | ⟨n2, e2⟩
      · exact e1
      · rw [at_ (x := .un) hl] at w1
        rw [ne_ n2] at w2
        cases w1
        obtain ⟨a, e, _, _, _, _, x⟩ := hr
        cases e
        exact absurd w2 (x k o2 e2)
    · rcases set_get q2 with ⟨e3, e2, hl⟩ | ⟨n2, e2⟩
      · subst e3 e2
        rw [at_ (x := .un) hl] at w2
        rw [ne_ n1] at w1
        cases w2
        obtain ⟨a, e, _, _, _, _, x⟩ := hr
        cases e
        exact absurd w1 (x j o1 e1)
      · rw [ne_ n1] at w1
        rw [ne_ n2] at w2
        exact h.sep j k o1 o2 b e1 e2 w1 w2
/-- a slot's own list is changed -/
theorem Sim.owSet {i : Nat} {a : Addr} {o : Ow} {ys : List V} {es : List D} (h : Sim z S M ρ σ H) (e : ρ[i]? = some (.ow o)) (ea : σ[i]? = some (some (.ref a))) (hr : RpA z.K S ys es) :
    Sim z S M (ρ.set i (.ow (.lst es))) σ (upd H a (.lst ys)) := by
  obtain ⟨b, h1, h2, h3, h4, h5⟩ := h.ow i o e
  rw [ea] at h1
  cases h1
  obtain ⟨u, hu⟩ := h4.at
  have hs : ∀ {c : Addr} {o : HO}, S c = some o → c ≠ a := fun {c o} q z => by rw [z, h2] at q; cases q
  refine ⟨⟨⟨h.step.same, fun c o q n => ?_, h.step.mnew, fun c q => ?_⟩, fun c o q => ?_, h.frS, fun p hp => ?_, h.mnd, fun c hc => ?_⟩, by rw [List.length_set]; exact h.len, fun j d q => ?_, fun j o' q => ?_, fun j k o1 o2 b q1 q2 => ?_⟩
  · have k := h.step.keep c o q n
    rw [upd_ne (fun w => by rw [w, h3.1] at q; cases q)]
    exact k
  · by_cases w : c = a
    · subst w; rw [upd_same]; simp
    · rw [upd_ne w]; exact h.step.dom c q
  · rw [upd_ne (hs q)]; exact h.sub c o q
  · obtain ⟨q, w⟩ := h.mu p hp
    exact ⟨q, w.ext (.refl _) (upd_ne (h5 p hp))⟩
  · obtain ⟨r1, r2, r3⟩ := h.rsv c hc
    exact ⟨r1, by rw [upd_ne (fun e : c = a => h3.2 (by rw [← e]; exact hc))]; exact r2, r3⟩
  · rcases set_get q with ⟨e1, e2, hl⟩ | ⟨ne, e2⟩
    · cases e2
    · exact h.va j d e2
  · rcases set_get q with ⟨e1, e2, hl⟩ | ⟨ne, e2⟩
    · subst e1
      cases e2
      exact ⟨a, ea, h2, h3, ⟨ys, upd_same, hr⟩, h5⟩
    · obtain ⟨b, k1, k2, k3, k4, k5⟩ := h.ow j o' e2
      refine ⟨b, k1, k2, k3, k4.ext (.refl _) (upd_ne fun w => ?_), k5⟩
      subst w
      exact ne (h.sep i j o o' b e e2 ea k1)
  · intro w1 w2
    rcases set_get q1 with ⟨e1, _, _⟩ | ⟨n1, e1⟩
    · subst e1
      rcases set_get q2 with ⟨e1, _, _⟩ | ⟨n2, e2⟩
      · exact e1
      · exact h.sep i k o o2 b e e2 w1 w2
    · rcases set_get q2 with ⟨e3, _, _⟩ | ⟨n2, e2⟩
      · subst e3
        exact h.sep j i o1 o b e1 e w1 w2
      · exact h.sep j k o1 o2 b e1 e2 w1 w2
end
end PL
namespace PL
open PySem PySem.Spec PyProof.Rows L2

/-! ### readings -/
abbrev QE := Ev → Mu → (Sl → Ev → Mu → Prop) → Prop
abbrev QB := Ev → Mu → (D → Ev → Mu → Prop) → Prop
abbrev QT := Ev → Mu → (Bool → Ev → Mu → Prop) → Prop
abbrev QA := Ev → Mu → (List D → Ev → Mu → Prop) → Prop
structure QK where
  nx : Ev → Mu → Prop
  rt : Sl → Mu → Prop
  bk : Ev → Mu → Prop := fun _ _ => False
  ct : Ev → Mu → Prop := fun _ _ => False
abbrev QS := QK → Ev → Mu → Prop
inductive RbA (K : Fg) (S : Hp) (M : Mu) (H : Hp) : List V → List D → Prop
  | nil : RbA K S M H [] []
  | cons {v : V} {vs : List V} {d : D} {ds : List D} : Rb K S M H v d → RbA K S M H vs ds → RbA K S M H (v :: vs) (d :: ds)
section
variable (z : Z)
def PoE (S : Hp) (M : Mu) (σ : St) (H : Hp) (Q0 : Sl → Ev → Mu → Prop) (v : V) (H' : Hp) : Prop :=
  ∃ r ρ' M' S', Q0 r ρ' M' ∧ Step S M H S' M' H' ∧ Sim z S' M' ρ' σ H' ∧ ResE z S' M' ρ' σ H' v r
def PoB (S : Hp) (M : Mu) (σ : St) (H : Hp) (Q0 : D → Ev → Mu → Prop) (v : V) (H' : Hp) : Prop :=
  ∃ d ρ' M' S', Q0 d ρ' M' ∧ Step S M H S' M' H' ∧ Sim z S' M' ρ' σ H' ∧ Rb z.K S' M' H' v d
def PoT (S : Hp) (M : Mu) (σ : St) (H : Hp) (Q0 : Bool → Ev → Mu → Prop) (b : Bool) (H' : Hp) : Prop :=
  ∃ ρ' M' S', Q0 b ρ' M' ∧ Step S M H S' M' H' ∧ Sim z S' M' ρ' σ H'
def PoA (S : Hp) (M : Mu) (σ : St) (H : Hp) (Q0 : List D → Ev → Mu → Prop) (vs : List V) (H' : Hp) : Prop :=
  ∃ ds ρ' M' S', Q0 ds ρ' M' ∧ Step S M H S' M' H' ∧ Sim z S' M' ρ' σ H' ∧ RpA z.K S' vs ds
def PoAB (S : Hp) (M : Mu) (σ : St) (H : Hp) (Q0 : List D → Ev → Mu → Prop) (vs : List V) (H' : Hp) : Prop :=
  ∃ ds ρ' M' S', Q0 ds ρ' M' ∧ Step S M H S' M' H' ∧ Sim z S' M' ρ' σ H' ∧ RbA z.K S' M' H' vs ds
def liE (q : QE) : TE := fun σ H Q => ∃ S M ρ Q0, Sim z S M ρ σ H ∧ q ρ M Q0 ∧ ∀ v H', PoE z S M σ H Q0 v H' → Q v H'
def liB (q : QB) : TE := fun σ H Q => ∃ S M ρ Q0, Sim z S M ρ σ H ∧ q ρ M Q0 ∧ ∀ v H', PoB z S M σ H Q0 v H' → Q v H'
def liT (q : QT) : TT := fun σ H Q => ∃ S M ρ Q0, Sim z S M ρ σ H ∧ q ρ M Q0 ∧ ∀ b H', PoT z S M σ H Q0 b H' → Q b H'
def liA (q : QA) : TA := fun σ H Q => ∃ S M ρ Q0, Sim z S M ρ σ H ∧ q ρ M Q0 ∧ ∀ vs H', PoA z S M σ H Q0 vs H' → Q vs H'
def liAB (q : QA) : TA := fun σ H Q => ∃ S M ρ Q0, Sim z S M ρ σ H ∧ q ρ M Q0 ∧ ∀ vs H', PoAB z S M σ H Q0 vs H' → Q vs H'
def liS (q : QS) : TS := fun D σ H => ∃ (S : Hp) (M : Mu) (ρ : Ev) (D0 : QK), Sim z S M ρ σ H ∧ q D0 ρ M ∧
  (∀ ρ' M' S' σ' H', D0.nx ρ' M' → Same S S' → Sim z S' M' ρ' σ' H' → D.nx σ' H') ∧
  (∀ ρ' M' S' σ' H', D0.bk ρ' M' → Same S S' → Sim z S' M' ρ' σ' H' → D.bk σ' H') ∧
  (∀ ρ' M' S' σ' H', D0.ct ρ' M' → Same S S' → Sim z S' M' ρ' σ' H' → D.ct σ' H') ∧
  (∀ r M' S' v H', D0.rt r M' → Core z S' M' H' → ResF z S' M' H' v r → D.rt v H')
end
theorem RbA.step {K : Fg} {S S' : Hp} {M M' : Mu} {H H' : Hp} (t : Step S M H S' M' H') : ∀ {vs : List V} {ds : List D}, RbA K S M H vs ds → RbA K S' M' H' vs ds
  | _, _, .nil => .nil
  | _, _, .cons a b => .cons (a.step t) (b.step t)

theorem pe_w {X : Cx} {e : Expr} {t t' : TE} (h : PE X e t) (w : ∀ σ H Q, t' σ H Q → t σ H Q) : PE X e t' := ⟨fun pins s σ H Q I hq => h.run pins s σ H Q I (w σ H Q hq)⟩
theorem pt_w {X : Cx} {e : Expr} {t t' : TT} (h : PT X e t) (w : ∀ σ H Q, t' σ H Q → t σ H Q) : PT X e t' := ⟨fun pins s σ H Q I hq => h.run pins s σ H Q I (w σ H Q hq)⟩
theorem pw_w {X : Cx} {e : Expr} {t t' : TT} (h : PW X e t) (w : ∀ σ H Q, t' σ H Q → t σ H Q) : PW X e t' := ⟨fun wh pins s σ H Q I hq => h.run wh pins s σ H Q I (w σ H Q hq)⟩
theorem pa_w {X : Cx} {e : List Expr} {t t' : TA} (h : PA X e t) (w : ∀ σ H Q, t' σ H Q → t σ H Q) : PA X e t' := ⟨fun p pins s σ H Q I hq => h.run p pins s σ H Q I (w σ H Q hq)⟩
theorem ps_w {X : Cx} {e : Stmt} {t t' : TS} (h : PS X e t) (w : ∀ D σ H, t' D σ H → t D σ H) : PS X e t' := ⟨fun pins s σ H D I hq => h.run pins s σ H D I (w D σ H hq)⟩
theorem pss_w {X : Cx} {e : List Stmt} {t t' : TS} (h : PSs X e t) (w : ∀ D σ H, t' D σ H → t D σ H) : PSs X e t' := ⟨fun pins s σ H D I hq => h.run pins s σ H D I (w D σ H hq)⟩

/-! ### names, constants -/
@[reducible] def eC (d : D) : QE := fun ρ M Q => Q (.va d) ρ M
@[reducible] def bC (d : D) : QB := fun ρ M Q => Q d ρ M
def eVar (i : Nat) : QE := fun ρ M Q => match ρ[i]? with
  | some (.va d) => Q (.va d) ρ M
  | some (.ow o) => Q (.va o.toD) (ρ.set i (.va o.toD)) M
  | _ => False
def bVar (i : Nat) : QB := fun ρ M Q => match ρ[i]? with
  | some (.va d) => Q d ρ M
  | some (.ow (.lst ds)) => Q (.lst ds) ρ M
  | _ => False
def eMov (i : Nat) : QE := fun ρ M Q => match ρ[i]? with
  | some (.va d) => Q (.va d) ρ M
  | some (.ow o) => Q (.ow o) (ρ.set i .un) M
  | _ => False
def bE (q : QE) : QB := fun ρ M Q => q ρ M fun r ρ' M' => Q r.val ρ' M'
section
variable {X : Cx} {z : Z} {e a b c : Expr} {pos : Pos}
theorem qe_con {v : V} {d : D} (h : PE X e (tC v)) (r : ∀ S, Rp z.K S v d) : PE X e (liE z (eC d)) :=
  pe_w h fun σ H Q ⟨S, M, ρ, Q0, sim, h, post⟩ => post v H ⟨.va d, ρ, M, S, h, .refl, sim, r S⟩
theorem qb_con {v : V} {d : D} (h : PE X e (tC v)) (r : ∀ S, Rp z.K S v d) : PE X e (liB z (bC d)) :=
  pe_w h fun σ H Q ⟨S, M, ρ, Q0, sim, h, post⟩ => post v H ⟨d, ρ, M, S, h, .refl, sim, .inl (r S)⟩
theorem qe_int {i : Int} {j} : PE X (.Constant (.int i) j pos) (liE z (eC (.int i))) := qe_con pe_int fun _ => .int i
theorem qe_bl {i : Bool} {j} : PE X (.Constant (.bool i) j pos) (liE z (eC (.bl i))) := qe_con pe_bl fun _ => .bl i
theorem qe_str {i : Str} {j} : PE X (.Constant (.str i) j pos) (liE z (eC (.str i))) := qe_con pe_str fun _ => .str i
theorem qe_non {j} : PE X (.Constant .none j pos) (liE z (eC .non)) := qe_con pe_non fun _ => .non
theorem qb_int {i : Int} {j} : PE X (.Constant (.int i) j pos) (liB z (bC (.int i))) := qb_con pe_int fun _ => .int i
theorem qb_bl {i : Bool} {j} : PE X (.Constant (.bool i) j pos) (liB z (bC (.bl i))) := qb_con pe_bl fun _ => .bl i
theorem qb_str {i : Str} {j} : PE X (.Constant (.str i) j pos) (liB z (bC (.str i))) := qb_con pe_str fun _ => .str i
theorem qb_non {j} : PE X (.Constant .none j pos) (liB z (bC .non)) := qb_con pe_non fun _ => .non
theorem qe_var {x : Str} (i : Nat) (hN : X.N[i]? = some x := by rfl) (hv : Vis X.env.scope x := by first | exact Or.inl rfl | exact Or.inr (Or.inl rfl) | exact Or.inr (Or.inr rfl)) (hd : (x == ("__debug__" : Str)) = false := by decide)
    (hcd : (x == ("__classdict__" : Str)) = false := by decide) : PE X (.Name x pos) (liE z (eVar i)) :=
  pe_w (pe_var hN hv hd hcd) fun σ H Q ⟨S, M, ρ, Q0, sim, h, post⟩ => by
    unfold eVar at h
    split at h
    · rename_i d e
      obtain ⟨v, h1, h2⟩ := sim.va i d e
      exact ⟨v, h1, post v H ⟨.va d, ρ, M, S, h, .refl, sim, h2⟩⟩
    · rename_i o e
      obtain ⟨S', s1, s2, v, h1, h2⟩ := sim.freezeSlot e
      exact ⟨v, h1, post v H ⟨_, _, M, S', h, s2, s1, h2⟩⟩
    · exact h.elim
theorem qb_var {x : Str} (i : Nat) (hN : X.N[i]? = some x := by rfl) (hv : Vis X.env.scope x := by first | exact Or.inl rfl | exact Or.inr (Or.inl rfl) | exact Or.inr (Or.inr rfl)) (hd : (x == ("__debug__" : Str)) = false := by decide)
    (hcd : (x == ("__classdict__" : Str)) = false := by decide) : PE X (.Name x pos) (liB z (bVar i)) :=
  pe_w (pe_var hN hv hd hcd) fun σ H Q ⟨S, M, ρ, Q0, sim, h, post⟩ => by
    unfold bVar at h
    split at h
    · rename_i d e
      obtain ⟨v, h1, h2⟩ := sim.va i d e
      exact ⟨v, h1, post v H ⟨d, ρ, M, S, h, .refl, sim, .inl h2⟩⟩
    · rename_i ds e
      obtain ⟨a, h1, h2, h3, ⟨xs, h4, h6⟩, h5⟩ := sim.ow i _ e
      exact ⟨_, h1, post _ H ⟨_, _, M, S, h, .refl, sim, .inr ⟨a, xs, ds, rfl, rfl, h4, h6, h5⟩⟩⟩
    · exact h.elim
theorem qe_mov {x : Str} (i : Nat) (hN : X.N[i]? = some x := by rfl) (hv : Vis X.env.scope x := by first | exact Or.inl rfl | exact Or.inr (Or.inl rfl) | exact Or.inr (Or.inr rfl)) (hd : (x == ("__debug__" : Str)) = false := by decide)
    (hcd : (x == ("__classdict__" : Str)) = false := by decide) : PE X (.Name x pos) (liE z (eMov i)) :=
  pe_w (pe_var hN hv hd hcd) fun σ H Q ⟨S, M, ρ, Q0, sim, h, post⟩ => by
    unfold eMov at h
    split at h
    · rename_i d e
      obtain ⟨v, h1, h2⟩ := sim.va i d e
      exact ⟨v, h1, post v H ⟨.va d, ρ, M, S, h, .refl, sim, h2⟩⟩
    · rename_i o e
      obtain ⟨v, h1, h2⟩ := sim.move e
      exact ⟨v, h1, post v H ⟨_, _, M, S, h, .refl, sim.drop, h2⟩⟩
    · exact h.elim
theorem qb_of {q : QE} (h : PE X e (liE z q)) : PE X e (liB z (bE q)) :=
  pe_w h fun σ H Q ⟨S, M, ρ, Q0, sim, h, post⟩ => ⟨S, M, ρ, _, sim, h, fun v H' ⟨r, ρ', M', S', q, st, sim', res⟩ => post v H' ⟨_, ρ', M', S', q, st, sim', res.rb⟩⟩

/-! ### operators -/
/-- what a two-place operator gives on data -/
abbrev OD := D → D → (Sl → Prop) → Prop
def OpB (X : Cx) (z : Z) (f : Value → Value → Sem Value) (od : OD) : Prop :=
  ∀ (pins : List (Addr × Obj)) (s : Shared) (σ : St) (H S : Hp) (M : Mu) (ρ : Ev) (x y : V) (u w : Value) (d1 d2 : D) (Q0 : Sl → Prop), Inv X pins σ H s → Sim z S M ρ σ H → Rb z.K S M H x d1 → Rb z.K S M H y d2 → RelV x u → RelV y w → od d1 d2 Q0 →
    wpAny (model X.prog X.w) X.A (f u w) (EP X pins σ (PoE z S M σ H fun r ρ' M' => ρ' = ρ ∧ M' = M ∧ Q0 r)) X.xe s
theorem opB_of {f : Value → Value → Sem Value} {r : R2} {od : OD} (h : OpR X f r)
    (k : ∀ (σ : St) (H S : Hp) (M : Mu) (ρ : Ev) (x y : V) (d1 d2 : D) (Q0 : Sl → Prop), Sim z S M ρ σ H → Rb z.K S M H x d1 → Rb z.K S M H y d2 → od d1 d2 Q0 → r x y H (PoE z S M σ H fun r ρ' M' => ρ' = ρ ∧ M' = M ∧ Q0 r)) : OpB X z f od :=
  fun pins s σ H S M ρ x y u w d1 d2 Q0 I sim b1 b2 r1 r2 q => h pins s σ H x y u w _ I r1 r2 (k σ H S M ρ x y d1 d2 Q0 sim b1 b2 q)
theorem poE_va {S : Hp} {M : Mu} {ρ : Ev} {σ : St} {H : Hp} {Q0 : Sl → Prop} {v : V} {d : D} (sim : Sim z S M ρ σ H) (r : Rp z.K S v d) (q : Q0 (.va d)) : PoE z S M σ H (fun r ρ' M' => ρ' = ρ ∧ M' = M ∧ Q0 r) v H :=
  ⟨.va d, ρ, M, S, ⟨rfl, rfl, q⟩, .refl, sim, r⟩
def eBin (od : OD) (qa qb : QB) : QE := fun ρ M Q => qa ρ M fun d1 ρ1 M1 => qb ρ1 M1 fun d2 ρ2 M2 => od d1 d2 fun r => Q r ρ2 M2
variable {qa qb qc : QB} {od : OD}
/-- two operands, then an operation -/
theorem bin_lift {σ : St} {H : Hp} {Q : VK} (h : liE z (eBin od qa qb) σ H Q) :
    liB z qa σ H fun x H1 => liB z qb σ H1 fun y H2 => ∃ S M ρ d1 d2 Q0, Sim z S M ρ σ H2 ∧ Rb z.K S M H2 x d1 ∧ Rb z.K S M H2 y d2 ∧ od d1 d2 Q0 ∧ ∀ v H', PoE z S M σ H2 (fun r ρ' M' => ρ' = ρ ∧ M' = M ∧ Q0 r) v H' → Q v H' := by
  obtain ⟨S, M, ρ, Q0, sim, h, post⟩ := h
  refine ⟨S, M, ρ, _, sim, h, fun x H1 ⟨d1, ρ1, M1, S1, q1, st1, sim1, b1⟩ => ⟨S1, M1, ρ1, _, sim1, q1, fun y H2 ⟨d2, ρ2, M2, S2, q2, st2, sim2, b2⟩ => ?_⟩⟩
  refine ⟨S2, M2, ρ2, d1, d2, _, sim2, b1.step st2, b2, q2, fun v H' ⟨r, ρ', M', S', ⟨e1, e2, q⟩, st, sim', res⟩ => post v H' ⟨r, ρ', M', S', ?_, (st1.trans st2).trans st, sim', res⟩⟩
  subst e1 e2
  exact q
theorem qe_bin {op : Operator} (ho : OpB X z (binaryOp op) od) (ha : PE X a (liB z qa)) (hb : PE X b (liB z qb)) : PE X (.BinOp a op b pos) (liE z (eBin od qa qb)) := by
  refine ⟨fun pins s σ H Q I h => ?_⟩
  refine wpAny_BinOp (binT ha hb I (bin_lift h) fun v u s2 x y H2 I2 rx ry ⟨S, M, ρ, d1, d2, Q0, sim, b1, b2, o, post⟩ => ?_)
  exact thn (ho pins s2 σ H2 S M ρ x y v u d1 d2 Q0 I2 sim b1 b2 rx ry o) fun w s3 ⟨y, H3, I3, r3, p3⟩ => ⟨y, H3, I3, r3, post _ _ p3⟩
theorem qe_cmp {op : CmpOp} (ho : OpB X z (compareOp op) od) (ha : PE X a (liB z qa)) (hb : PE X b (liB z qb)) (hm : behindInMarks op b = false) : PE X (.Compare a [op] [b] pos) (liE z (eBin od qa qb)) := by
  refine ⟨fun pins s σ H Q I h => ?_⟩
  refine wpAny_Compare1 (binT ha hb I (bin_lift h) fun v u s2 x y H2 I2 rx ry ⟨S, M, ρ, d1, d2, Q0, sim, b1, b2, o, post⟩ => ?_) hm
  exact thn (ho pins s2 σ H2 S M ρ x y v u d1 d2 Q0 I2 sim b1 b2 rx ry o) fun w s3 ⟨y, H3, I3, r3, p3⟩ => ⟨y, H3, I3, r3, post _ _ p3⟩
/-- a bool's test -/
def tE (q : QE) : QT := fun ρ M Q => q ρ M fun r ρ' M' => match r with
  | .va (.bl b) => Q b ρ' M'
  | _ => False
theorem tE_post {S : Hp} {M : Mu} {σ : St} {H H' : Hp} {v : V} {u : Value} {Q0 : Bool → Ev → Mu → Prop} (h : PoE z S M σ H (fun r ρ' M' => match r with | .va (.bl b) => Q0 b ρ' M' | _ => False) v H') (r : RelV v u) : ∃ b, u = .bool b ∧ PoT z S M σ H Q0 b H' := by
  obtain ⟨r', ρ', M', S', q, st, sim, res⟩ := h
  split at q
  · cases res
    cases r
    exact ⟨_, rfl, ρ', M', S', q, st, sim⟩
  · exact q.elim
theorem qt_val {q : QE} (h : PE X e (liE z q)) (he : ∀ whole, isTrue e X.env whole = (do let v ← whole; standAt e.pos; holding [v] (truthy v)) := by intro _; rfl) : PT X e (liT z (tE q)) := by
  refine ⟨fun pins s σ H Q I ⟨S, M, ρ, Q0, sim, h0, post⟩ => ?_⟩
  refine isTrue_plain (thn (h.run pins s σ H _ I ⟨S, M, ρ, _, sim, h0, fun v H' p => p⟩) fun u s1 ⟨x, H1, I1, r1, p⟩ => ?_) (he _)
  obtain ⟨b, rfl, w⟩ := tE_post p r1
  exact wpAny_truthy_bool ⟨H1, I1, post b H1 w⟩
theorem qt_cmp {op : CmpOp} (ho : OpB X z (compareOp op) od) (ha : PE X a (liB z qa)) (hb : PE X b (liB z qb)) (hm : behindInMarks op b = false) : PT X (.Compare a [op] [b] pos) (liT z (tE (eBin od qa qb))) := by
  refine ⟨fun pins s σ H Q I ⟨S, M, ρ, Q0, sim, h0, post⟩ => ?_⟩
  have h1 := bin_lift (Q := PoE z S M σ H (fun r ρ' M' => match r with | .va (.bl b) => Q0 b ρ' M' | _ => False)) ⟨S, M, ρ, _, sim, h0, fun v H' p => p⟩
  refine wpAny_isTrue_Compare1 (thn (ha.run pins s σ H _ I h1) fun v s1 ⟨x, H1, I1, r1, q1⟩ => thn (hb.run pins s1 σ H1 _ I1 q1) fun u s2 ⟨y, H2, I2, r2, ⟨S2, M2, ρ2, d1, d2, Q2, sim2, b1, b2, o, post2⟩⟩ =>
    thn (ho pins s2 σ H2 S2 M2 ρ2 x y v u d1 d2 Q2 I2 sim2 b1 b2 r1 r2 o) fun c s3 ⟨y, H3, I3, r3, p3⟩ => ?_) hm
  obtain ⟨b, rfl, w⟩ := tE_post (post2 _ _ p3) r3
  exact wpAny_truthy_bool ⟨H3, I3, post b H3 w⟩
/-- a op b op' c -/
def eChain (od od' : OD) (qa qb qc : QB) : QE := fun ρ M Q => qa ρ M fun d1 ρ1 M1 => qb ρ1 M1 fun d2 ρ2 M2 => od d1 d2 fun r => match r with
  | .va (.bl true) => qc ρ2 M2 fun d3 ρ3 M3 => od' d2 d3 fun r => Q r ρ3 M3
  | .va (.bl false) => Q (.va (.bl false)) ρ2 M2
  | _ => False
variable {od' : OD}
/-- what the last part of a chain is asked -/
def ChainLast (z : Z) (qc : QB) (od' : OD) (σ : St) (Q : VK) (y : V) (H2 : Hp) (c : Bool) : Prop :=
  if c = true then liB z qc σ H2 fun w H3 => ∃ S M ρ d2 d3 Q0, Sim z S M ρ σ H3 ∧ Rb z.K S M H3 y d2 ∧ Rb z.K S M H3 w d3 ∧ od' d2 d3 Q0 ∧ ∀ v H', PoE z S M σ H3 (fun r ρ' M' => ρ' = ρ ∧ M' = M ∧ Q0 r) v H' → Q v H'
  else Q (.bl false) H2
theorem chain_lift {σ : St} {H : Hp} {Q : VK} (h : liE z (eChain od od' qa qb qc) σ H Q) :
    liB z qa σ H fun x H1 => liB z qb σ H1 fun y H2 => ∃ S M ρ d1 d2 Q0, Sim z S M ρ σ H2 ∧ Rb z.K S M H2 x d1 ∧ Rb z.K S M H2 y d2 ∧ od d1 d2 Q0 ∧
      ∀ v H', PoE z S M σ H2 (fun r ρ' M' => ρ' = ρ ∧ M' = M ∧ Q0 r) v H' → ∃ c, v = .bl c ∧ ChainLast z qc od' σ Q y H' c := by
  obtain ⟨S, M, ρ, Q0, sim, h, post⟩ := h
  refine ⟨S, M, ρ, _, sim, h, fun x H1 ⟨d1, ρ1, M1, S1, q1, st1, sim1, b1⟩ => ⟨S1, M1, ρ1, _, sim1, q1, fun y H2 ⟨d2, ρ2, M2, S2, q2, st2, sim2, b2⟩ => ?_⟩⟩
  refine ⟨S2, M2, ρ2, d1, d2, _, sim2, b1.step st2, b2, q2, fun v H' ⟨r, ρ', M', S', ⟨e1, e2, q⟩, st, sim', res⟩ => ?_⟩
  subst e1 e2
  have st' := (st1.trans st2).trans st
  split at q
  · cases res
    refine ⟨true, rfl, ?_⟩
    unfold ChainLast
    rw [if_pos rfl]
    refine ⟨S', _, _, _, sim', q, fun w H3 ⟨d3, ρ3, M3, S3, q3, st3, sim3, b3⟩ => ⟨S3, M3, ρ3, d2, d3, _, sim3, (b2.step st).step st3, b3, q3, fun v H4 ⟨r, ρ4, M4, S4, ⟨e1, e2, q4⟩, st4, sim4, res4⟩ => post v H4 ⟨r, ρ4, M4, S4, ?_, (st'.trans st3).trans st4, sim4, res4⟩⟩⟩
    subst e1 e2
    exact q4
  · cases res
    refine ⟨false, rfl, ?_⟩
    unfold ChainLast
    rw [if_neg Bool.false_ne_true]
    exact post _ H' ⟨_, _, _, S', q, st', sim', .bl false⟩
  · exact q.elim
theorem qe_chain {op op' : CmpOp} (ho : OpB X z (compareOp op) od) (ho' : OpB X z (compareOp op') od') (ha : PE X a (liB z qa)) (hb : PE X b (liB z qb)) (hc : PE X c (liB z qc))
    (hm : lastMarks [op, op'] [b, c] = false := by with_unfolding_all rfl) : PE X (.Compare a [op, op'] [b, c] pos) (liE z (eChain od od' qa qb qc)) := by
  refine ⟨fun pins s σ H Q I h => ?_⟩
  refine Compare_chain (thn (ha.run pins s σ H _ I (chain_lift h)) fun v s1 ⟨x, H1, I1, r1, q1⟩ => chain_link (thn (hb.run pins s1 σ H1 _ I1 q1) fun u s2 ⟨y, H2, I2, r2, ⟨S2, M2, ρ2, d1, d2, Q2, sim2, b1, b2, o, post2⟩⟩ =>
    thn (ho pins s2 σ H2 S2 M2 ρ2 x y v u d1 d2 Q2 I2 sim2 b1 b2 r1 r2 o) fun d s3 ⟨zz, H3, I3, r3, p3⟩ => ?_)) hm
  obtain ⟨k, rfl, w⟩ := post2 _ _ p3
  cases r3
  refine wpAny_truthy_bool ?_
  cases k with
  | false => exact ite_ff ⟨.bl false, H3, I3, rfl, w⟩
  | true =>
    refine ite_tt (chain_last (thn (hc.run pins s3 σ H3 _ I3 w) fun w' s4 ⟨z', H4, I4, r4, ⟨S4, M4, ρ4, d2', d3, Q4, sim4, b3, b4, o4, post4⟩⟩ => ?_))
    exact thn (ho' pins s4 σ H4 S4 M4 ρ4 y z' u w' d2' d3 Q4 I4 sim4 b3 b4 r2 r4 o4) fun w s5 ⟨y, H5, I5, r5, p5⟩ => ⟨y, H5, I5, r5, post4 _ _ p5⟩
theorem qt_chain {op op' : CmpOp} (ho : OpB X z (compareOp op) od) (ho' : OpB X z (compareOp op') od') (ha : PE X a (liB z qa)) (hb : PE X b (liB z qb)) (hc : PE X c (liB z qc))
    (hm : lastMarks [op, op'] [b, c] = false := by with_unfolding_all rfl) : PT X (.Compare a [op, op'] [b, c] pos) (liT z (tE (eChain od od' qa qb qc))) := by
  refine ⟨fun pins s σ H Q I ⟨S, M, ρ, Q0, sim, h0, post⟩ => ?_⟩
  have h := chain_lift (Q := PoE z S M σ H (fun r ρ' M' => match r with | .va (.bl b) => Q0 b ρ' M' | _ => False)) ⟨S, M, ρ, _, sim, h0, fun v H' p => p⟩
  refine isTrue_chain (thn (ha.run pins s σ H _ I h) fun v s1 ⟨x, H1, I1, r1, q1⟩ => test_link (thn (hb.run pins s1 σ H1 _ I1 q1) fun u s2 ⟨y, H2, I2, r2, ⟨S2, M2, ρ2, d1, d2, Q2, sim2, b1, b2, o, post2⟩⟩ =>
    thn (ho pins s2 σ H2 S2 M2 ρ2 x y v u d1 d2 Q2 I2 sim2 b1 b2 r1 r2 o) fun d s3 ⟨zz, H3, I3, r3, p3⟩ => ?_)) hm
  obtain ⟨k, rfl, w⟩ := post2 _ _ p3
  cases r3
  refine wpAny_truthy_bool ?_
  cases k with
  | false =>
    obtain ⟨b, e, w2⟩ := tE_post (u := .bool false) w rfl
    cases e
    exact ite_ff ⟨H3, I3, post _ _ w2⟩
  | true =>
    refine ite_tt (test_last (thn (hc.run pins s3 σ H3 _ I3 w) fun w' s4 ⟨z', H4, I4, r4, ⟨S4, M4, ρ4, d2', d3, Q4, sim4, b3, b4, o4, post4⟩⟩ => ?_))
    refine thn (ho' pins s4 σ H4 S4 M4 ρ4 y z' u w' d2' d3 Q4 I4 sim4 b3 b4 r2 r4 o4) fun w s5 ⟨y, H5, I5, r5, p5⟩ => ?_
    obtain ⟨b, rfl, w2⟩ := tE_post (post4 _ _ p5) r5
    exact wpAny_truthy_bool ⟨H5, I5, post _ _ w2⟩

/-! ### one operand -/
abbrev UD := D → (Sl → Prop) → Prop
def UnB (X : Cx) (z : Z) (f : Value → Sem Value) (ud : UD) : Prop :=
  ∀ (pins : List (Addr × Obj)) (s : Shared) (σ : St) (H S : Hp) (M : Mu) (ρ : Ev) (x : V) (u : Value) (d : D) (Q0 : Sl → Prop), Inv X pins σ H s → Sim z S M ρ σ H → Rb z.K S M H x d → RelV x u → ud d Q0 →
    wpAny (model X.prog X.w) X.A (f u) (EP X pins σ (PoE z S M σ H fun r ρ' M' => ρ' = ρ ∧ M' = M ∧ Q0 r)) X.xe s
def eUn (ud : UD) (qa : QB) : QE := fun ρ M Q => qa ρ M fun d ρ1 M1 => ud d fun r => Q r ρ1 M1
variable {ud : UD}
theorem un_lift {σ : St} {H : Hp} {Q : VK} (h : liE z (eUn ud qa) σ H Q) :
    liB z qa σ H fun x H1 => ∃ S M ρ d Q0, Sim z S M ρ σ H1 ∧ Rb z.K S M H1 x d ∧ ud d Q0 ∧ ∀ v H', PoE z S M σ H1 (fun r ρ' M' => ρ' = ρ ∧ M' = M ∧ Q0 r) v H' → Q v H' := by
  obtain ⟨S, M, ρ, Q0, sim, h, post⟩ := h
  refine ⟨S, M, ρ, _, sim, h, fun x H1 ⟨d1, ρ1, M1, S1, q1, st1, sim1, b1⟩ => ⟨S1, M1, ρ1, d1, _, sim1, b1, q1, fun v H' ⟨r, ρ', M', S', ⟨e1, e2, q⟩, st, sim', res⟩ => post v H' ⟨r, ρ', M', S', ?_, st1.trans st, sim', res⟩⟩⟩
  subst e1 e2
  exact q
theorem qe_un {op : UnaryOp} (ho : UnB X z (unaryOp op) ud) (ha : PE X a (liB z qa)) : PE X (.UnaryOp op a pos) (liE z (eUn ud qa)) := by
  refine ⟨fun pins s σ H Q I h => ?_⟩
  refine UnaryOp_ (thn (ha.run pins s σ H _ I (un_lift h)) fun v s1 ⟨x, H1, I1, r1, ⟨S, M, ρ, d, Q0, sim, b, u, post⟩⟩ => ?_)
  exact thn (ho pins s1 σ H1 S M ρ x v d Q0 I1 sim b r1 u) fun w s3 ⟨y, H3, I3, r3, p3⟩ => ⟨y, H3, I3, r3, post _ _ p3⟩

/-! ### tests -/
def qAnd (t u : QT) : QT := fun ρ M Q => t ρ M fun c ρ1 M1 => if c = true then u ρ1 M1 Q else Q false ρ1 M1
def qOr (t u : QT) : QT := fun ρ M Q => t ρ M fun c ρ1 M1 => if c = true then Q true ρ1 M1 else u ρ1 M1 Q
def qNot (t : QT) : QT := fun ρ M Q => t ρ M fun c ρ1 M1 => Q (!c) ρ1 M1
variable {tA tB : QT} {rest : List Expr}
theorem liT_and {σ : St} {H : Hp} {Q} (h : liT z (qAnd tA tB) σ H Q) : tAnd (liT z tA) (liT z tB) σ H Q := by
  obtain ⟨S, M, ρ, Q0, sim, h, post⟩ := h
  refine ⟨S, M, ρ, _, sim, h, fun c H1 ⟨ρ1, M1, S1, q1, st1, sim1⟩ => ?_⟩
  cases c with
  | true => exact iteT ⟨S1, M1, ρ1, _, sim1, (by simpa using q1), fun b H2 ⟨ρ2, M2, S2, q2, st2, sim2⟩ => post b H2 ⟨ρ2, M2, S2, q2, st1.trans st2, sim2⟩⟩
  | false => exact iteF (post false H1 ⟨ρ1, M1, S1, (by simpa using q1), st1, sim1⟩)
theorem liT_or {σ : St} {H : Hp} {Q} (h : liT z (qOr tA tB) σ H Q) : tOr (liT z tA) (liT z tB) σ H Q := by
  obtain ⟨S, M, ρ, Q0, sim, h, post⟩ := h
  refine ⟨S, M, ρ, _, sim, h, fun c H1 ⟨ρ1, M1, S1, q1, st1, sim1⟩ => ?_⟩
  cases c with
  | false => exact iteF ⟨S1, M1, ρ1, _, sim1, (by simpa using q1), fun b H2 ⟨ρ2, M2, S2, q2, st2, sim2⟩ => post b H2 ⟨ρ2, M2, S2, q2, st1.trans st2, sim2⟩⟩
  | true => exact iteT (post true H1 ⟨ρ1, M1, S1, (by simpa using q1), st1, sim1⟩)
theorem qw_and1 (ha : PT X a (liT z tA)) : PW X (.BoolOp .And [a] pos) (liT z tA) := pw_and1 ha
theorem qw_or1 (ha : PT X a (liT z tA)) : PW X (.BoolOp .Or [a] pos) (liT z tA) := pw_or1 ha
theorem qw_and (ha : PT X a (liT z tA)) (hb : PW X (.BoolOp .And (b :: rest) pos) (liT z tB)) : PW X (.BoolOp .And (a :: b :: rest) pos) (liT z (qAnd tA tB)) := pw_w (pw_and ha hb) fun _ _ _ h => liT_and h
theorem qw_or (ha : PT X a (liT z tA)) (hb : PW X (.BoolOp .Or (b :: rest) pos) (liT z tB)) : PW X (.BoolOp .Or (a :: b :: rest) pos) (liT z (qOr tA tB)) := pw_w (pw_or ha hb) fun _ _ _ h => liT_or h
theorem qt_not (ha : PT X a (liT z tA)) : PT X (.UnaryOp .Not a pos) (liT z (qNot tA)) := pt_w (pt_not ha) fun σ H Q ⟨S, M, ρ, Q0, sim, h, post⟩ =>
  ⟨S, M, ρ, _, sim, h, fun c H1 ⟨ρ1, M1, S1, q1, st1, sim1⟩ => post (!c) H1 ⟨ρ1, M1, S1, q1, st1, sim1⟩⟩
/-- as values -/
def eAnd (qa qb : QE) : QE := fun ρ M Q => qa ρ M fun r ρ1 M1 => match r with
  | .va (.bl true) => qb ρ1 M1 Q
  | .va (.bl false) => Q (.va (.bl false)) ρ1 M1
  | _ => False
def eOr (qa qb : QE) : QE := fun ρ M Q => qa ρ M fun r ρ1 M1 => match r with
  | .va (.bl false) => qb ρ1 M1 Q
  | .va (.bl true) => Q (.va (.bl true)) ρ1 M1
  | _ => False
def eNot (qa : QE) : QE := fun ρ M Q => qa ρ M fun r ρ1 M1 => match r with
  | .va (.bl b) => Q (.va (.bl !b)) ρ1 M1
  | _ => False
def eIf (t : QT) (qa qb : QE) : QE := fun ρ M Q => t ρ M fun c ρ1 M1 => if c = true then qa ρ1 M1 Q else qb ρ1 M1 Q
variable {ea eb : QE}
theorem qe_one {op} (h : PE X a (liE z ea)) : PE X (.BoolOp op [a] pos) (liE z ea) := pe_one h
theorem qe_and (ha : PE X a (liE z ea)) (hb : PE X (.BoolOp .And (b :: rest) pos) (liE z eb)) : PE X (.BoolOp .And (a :: b :: rest) pos) (liE z (eAnd ea eb)) :=
  pe_w (pe_and ha hb) fun σ H Q ⟨S, M, ρ, Q0, sim, h, post⟩ => ⟨S, M, ρ, _, sim, h, fun v H1 ⟨r, ρ1, M1, S1, q1, st1, sim1, res1⟩ => by
    dsimp only at q1
    split at q1
    · cases res1
      exact ⟨true, rfl, iteT ⟨S1, M1, ρ1, _, sim1, q1, fun v H2 ⟨r, ρ2, M2, S2, q2, st2, sim2, res2⟩ => post v H2 ⟨r, ρ2, M2, S2, q2, st1.trans st2, sim2, res2⟩⟩⟩
    · cases res1
      exact ⟨false, rfl, iteF (post _ H1 ⟨_, ρ1, M1, S1, q1, st1, sim1, .bl false⟩)⟩
    · exact q1.elim⟩
theorem qe_or (ha : PE X a (liE z ea)) (hb : PE X (.BoolOp .Or (b :: rest) pos) (liE z eb)) : PE X (.BoolOp .Or (a :: b :: rest) pos) (liE z (eOr ea eb)) :=
  pe_w (pe_or ha hb) fun σ H Q ⟨S, M, ρ, Q0, sim, h, post⟩ => ⟨S, M, ρ, _, sim, h, fun v H1 ⟨r, ρ1, M1, S1, q1, st1, sim1, res1⟩ => by
    dsimp only at q1
    split at q1
    · cases res1
      exact ⟨false, rfl, iteF ⟨S1, M1, ρ1, _, sim1, q1, fun v H2 ⟨r, ρ2, M2, S2, q2, st2, sim2, res2⟩ => post v H2 ⟨r, ρ2, M2, S2, q2, st1.trans st2, sim2, res2⟩⟩⟩
    · cases res1
      exact ⟨true, rfl, iteT (post _ H1 ⟨_, ρ1, M1, S1, q1, st1, sim1, .bl true⟩)⟩
    · exact q1.elim⟩
theorem qe_not (ha : PE X a (liE z ea)) : PE X (.UnaryOp .Not a pos) (liE z (eNot ea)) :=
  pe_w (pe_not ha) fun σ H Q ⟨S, M, ρ, Q0, sim, h, post⟩ => ⟨S, M, ρ, _, sim, h, fun v H1 ⟨r, ρ1, M1, S1, q1, st1, sim1, res1⟩ => by
    dsimp only at q1
    split at q1
    · cases res1
      exact ⟨_, rfl, post _ H1 ⟨_, ρ1, M1, S1, q1, st1, sim1, .bl _⟩⟩
    · exact q1.elim⟩
theorem qe_ifExp (hc : PT X c (liT z tA)) (ha : PE X a (liE z ea)) (hb : PE X b (liE z eb)) : PE X (.IfExp c a b pos) (liE z (eIf tA ea eb)) :=
  pe_w (pe_ifExp hc ha hb) fun σ H Q ⟨S, M, ρ, Q0, sim, h, post⟩ => ⟨S, M, ρ, _, sim, h, fun k H1 ⟨ρ1, M1, S1, q1, st1, sim1⟩ => by
    cases k with
    | true => exact iteT ⟨S1, M1, ρ1, _, sim1, (by simpa using q1), fun v H2 ⟨r, ρ2, M2, S2, q2, st2, sim2, res2⟩ => post v H2 ⟨r, ρ2, M2, S2, q2, st1.trans st2, sim2, res2⟩⟩
    | false => exact iteF ⟨S1, M1, ρ1, _, sim1, (by simpa using q1), fun v H2 ⟨r, ρ2, M2, S2, q2, st2, sim2, res2⟩ => post v H2 ⟨r, ρ2, M2, S2, q2, st1.trans st2, sim2, res2⟩⟩⟩

/-! ### arguments, displays -/
def aNil : QA := fun ρ M Q => Q [] ρ M
def aCons (q : QE) (r : QA) : QA := fun ρ M Q => q ρ M fun x ρ1 M1 => r ρ1 M1 fun xs ρ2 M2 => Q (x.val :: xs) ρ2 M2
def aConsB (q : QB) (r : QA) : QA := fun ρ M Q => q ρ M fun x ρ1 M1 => r ρ1 M1 fun xs ρ2 M2 => Q (x :: xs) ρ2 M2
variable {es : List Expr} {qr : QA}
theorem qa_nil : PA X [] (liA z aNil) := pa_w pa_nil fun σ H Q ⟨S, M, ρ, Q0, sim, h, post⟩ => post [] H ⟨[], ρ, M, S, h, .refl, sim, .nil⟩
theorem qa_cons (ha : PE X e (liE z ea)) (hr : PA X es (liA z qr)) (hs : starEach (e :: es) X.env = (false, eval e X.env) :: starEach es X.env := by rfl) : PA X (e :: es) (liA z (aCons ea qr)) :=
  pa_w (pa_cons ha hr hs) fun σ H Q ⟨S, M, ρ, Q0, sim, h, post⟩ => ⟨S, M, ρ, _, sim, h, fun v H1 ⟨r, ρ1, M1, S1, q1, st1, sim1, res1⟩ => by
    obtain ⟨S2, sim2, st2, rp⟩ := sim1.freeze res1
    exact ⟨S2, M1, ρ1, _, sim2, q1, fun vs H3 ⟨ds, ρ3, M3, S3, q3, st3, sim3, rp3⟩ => post _ H3 ⟨_, ρ3, M3, S3, q3, (st1.trans st2).trans st3, sim3, .cons (Rp.ext st3.same _ _ rp) rp3⟩⟩⟩
theorem qab_nil : PA X [] (liAB z aNil) := pa_w pa_nil fun σ H Q ⟨S, M, ρ, Q0, sim, h, post⟩ => post [] H ⟨[], ρ, M, S, h, .refl, sim, .nil⟩
theorem qab_cons (ha : PE X e (liB z qa)) (hr : PA X es (liAB z qr)) (hs : starEach (e :: es) X.env = (false, eval e X.env) :: starEach es X.env := by rfl) : PA X (e :: es) (liAB z (aConsB qa qr)) :=
  pa_w (pa_cons ha hr hs) fun σ H Q ⟨S, M, ρ, Q0, sim, h, post⟩ => ⟨S, M, ρ, _, sim, h, fun v H1 ⟨r, ρ1, M1, S1, q1, st1, sim1, rb⟩ =>
    ⟨S1, M1, ρ1, _, sim1, q1, fun vs H3 ⟨ds, ρ3, M3, S3, q3, st3, sim3, rp3⟩ => post _ H3 ⟨_, ρ3, M3, S3, q3, st1.trans st3, sim3, .cons (rb.step st3) rp3⟩⟩⟩
def eTup (q : QA) : QE := fun ρ M Q => q ρ M fun ds ρ' M' => ds.length ≤ 16777216 ∧ Q (.va (.tup ds)) ρ' M'
def eLst (q : QA) : QE := fun ρ M Q => q ρ M fun ds ρ' M' => ds.length ≤ 16777216 ∧ Q (.ow (.lst ds)) ρ' M'
theorem line_eq {n : Nat} (h : n ≤ 16777216) : n ≤ sizeLine := by rw [sizeLine_eq]; exact h
theorem qe_tup {k} (h : PA X es (liA z qr)) : PE X (.Tuple es k pos) (liE z (eTup qr)) :=
  pe_w (pe_tup h) fun σ H Q ⟨S, M, ρ, Q0, sim, h, post⟩ => ⟨S, M, ρ, _, sim, h, fun vs H1 ⟨ds, ρ1, M1, S1, ⟨hl, q1⟩, st1, sim1, rp⟩ =>
    ⟨by rw [rp.length]; exact line_eq hl, fun p hp => by
      obtain ⟨sim2, st2⟩ := sim1.alloc (o := .tup vs) hp
      exact post _ _ ⟨_, ρ1, M1, _, q1, st1.trans st2, sim2, Rp.tup (.of upd_same) (RpA.ext st2.same _ _ rp)⟩⟩⟩
theorem qe_lst (h : PA X es (liA z qr)) : PE X (.List es pos) (liE z (eLst qr)) :=
  pe_w (pe_lst h) fun σ H Q ⟨S, M, ρ, Q0, sim, h, post⟩ => ⟨S, M, ρ, _, sim, h, fun vs H1 ⟨ds, ρ1, M1, S1, ⟨hl, q1⟩, st1, sim1, rp⟩ =>
    ⟨by rw [rp.length]; exact line_eq hl, fun p hp => by
      obtain ⟨sim2, st2, res⟩ := sim1.fresh hp rp
      exact post _ _ ⟨_, ρ1, M1, _, q1, st1.trans st2, sim2, res⟩⟩⟩
end
end PL
namespace PL
open PySem PySem.Spec PyProof.Rows L2

/-! ### statements -/
section
variable {X : Cx} {z : Z} {st : Stmt} {rest sts body : List Stmt} {t u : QS} {e c : Expr} {pos : Pos} {q : QE} {qt : QT}
def sNext : QS := fun D ρ M => D.nx ρ M
def sSeq (t u : QS) : QS := fun D ρ M => t { D with nx := u D } ρ M
def sBreak : QS := fun D ρ M => D.bk ρ M
def sCont : QS := fun D ρ M => D.ct ρ M
def sDrop (q : QE) : QS := fun D ρ M => q ρ M fun _ ρ' M' => D.nx ρ' M'
def sRet (q : QE) : QS := fun D ρ M => q ρ M fun r _ M' => D.rt r M'
def sRetN : QS := fun D _ M => D.rt (.va .non) M
def sIf (c : QT) (t u : QS) : QS := fun D ρ M => c ρ M fun b ρ1 M1 => if b = true then t D ρ1 M1 else u D ρ1 M1
def sAsg (i : Nat) (q : QE) : QS := fun D ρ M => q ρ M fun r ρ' M' => D.nx (ρ'.set i r) M'
theorem qs_nil : PSs X [] (liS z sNext) := pss_w pss_nil fun D σ H ⟨S, M, ρ, D0, sim, h, nx, _⟩ => nx ρ M S σ H h (.refl _) sim
theorem liS_seq {D : Ends} {σ : St} {H : Hp} (h : liS z (sSeq t u) D σ H) : tSeq (liS z t) (liS z u) D σ H := by
  obtain ⟨S, M, ρ, D0, sim, h, nx, bk, ct, rt⟩ := h
  exact ⟨S, M, ρ, { D0 with nx := u D0 }, sim, h, fun ρ' M' S' σ' H' q e sim' => ⟨S', M', ρ', D0, sim', q, fun ρ2 M2 S2 σ2 H2 q2 e2 s2 => nx ρ2 M2 S2 σ2 H2 q2 (e.trans e2) s2,
    fun ρ2 M2 S2 σ2 H2 q2 e2 s2 => bk ρ2 M2 S2 σ2 H2 q2 (e.trans e2) s2, fun ρ2 M2 S2 σ2 H2 q2 e2 s2 => ct ρ2 M2 S2 σ2 H2 q2 (e.trans e2) s2, rt⟩, bk, ct, rt⟩
theorem qs_cons (h1 : PS X st (liS z t)) (h2 : PSs X rest (liS z u)) : PSs X (st :: rest) (liS z (sSeq t u)) := pss_w (pss_cons h1 h2) fun _ _ _ h => liS_seq h
theorem qs_end (h1 : PS X st (liS z t)) : PSs X [st] (liS z t) := pss_one h1
theorem qs_pass : PS X (.Pass pos) (liS z sNext) := ps_w ps_pass fun D σ H ⟨S, M, ρ, D0, sim, h, nx, _⟩ => nx ρ M S σ H h (.refl _) sim
theorem qs_doc {x j pos'} : PS X (.Expr (.Constant (.str x) j pos) pos') (liS z sNext) := ps_w ps_doc fun D σ H ⟨S, M, ρ, D0, sim, h, nx, _⟩ => nx ρ M S σ H h (.refl _) sim
theorem qs_break : PS X (.Break pos) (liS z sBreak) := ps_w ps_break fun D σ H ⟨S, M, ρ, D0, sim, h, _, bk, _⟩ => bk ρ M S σ H h (.refl _) sim
theorem qs_continue : PS X (.Continue pos) (liS z sCont) := ps_w ps_continue fun D σ H ⟨S, M, ρ, D0, sim, h, _, _, ct, _⟩ => ct ρ M S σ H h (.refl _) sim
theorem qs_expr (he : PE X e (liE z q)) (hs : swapsWith e none pos.line X.env = pure false := by rfl) : PS X (.Expr e pos) (liS z (sDrop q)) :=
  ps_w (ps_expr he hs) fun D σ H ⟨S, M, ρ, D0, sim, h, nx, _⟩ => ⟨S, M, ρ, _, sim, h, fun v H' ⟨r, ρ', M', S', q, st, sim', _⟩ => nx ρ' M' S' σ H' q st.same sim'⟩
theorem qs_ret (he : PE X e (liE z q)) : PS X (.Return (some e) pos) (liS z (sRet q)) :=
  ps_w (ps_ret he) fun D σ H ⟨S, M, ρ, D0, sim, h, _, _, _, rt⟩ => ⟨S, M, ρ, _, sim, h, fun v H' ⟨r, ρ', M', S', q, st, sim', res⟩ => rt r M' S' v H' q sim'.toCore res.f⟩
theorem qs_retN : PS X (.Return none pos) (liS z sRetN) := ps_w ps_retN fun D σ H ⟨S, M, ρ, D0, sim, h, _, _, _, rt⟩ => rt _ M S .non H h sim.toCore .non
theorem qs_if {a b : List Stmt} (hc : PT X c (liT z qt)) (ha : PSs X a (liS z t)) (hb : PSs X b (liS z u)) : PS X (.If c a b pos) (liS z (sIf qt t u)) :=
  ps_w (ps_if hc ha hb) fun D σ H ⟨S, M, ρ, D0, sim, h, nx, bk, ct, rt⟩ => ⟨S, M, ρ, _, sim, h, fun k H' ⟨ρ', M', S', q, st, sim'⟩ => by
    have go : ∀ w : QS, w D0 ρ' M' → liS z w D σ H' := fun w hw => ⟨S', M', ρ', D0, sim', hw, fun ρ2 M2 S2 σ2 H2 q2 e2 s2 => nx ρ2 M2 S2 σ2 H2 q2 (st.same.trans e2) s2,
      fun ρ2 M2 S2 σ2 H2 q2 e2 s2 => bk ρ2 M2 S2 σ2 H2 q2 (st.same.trans e2) s2, fun ρ2 M2 S2 σ2 H2 q2 e2 s2 => ct ρ2 M2 S2 σ2 H2 q2 (st.same.trans e2) s2, rt⟩
    cases k with
    | true => exact iteT (go t (by simpa using q))
    | false => exact iteF (go u (by simpa using q))⟩
theorem asg_lift {i : Nat} {D : Ends} {σ : St} {H : Hp} (h : liS z (sAsg i q) D σ H) : tAsg (liE z q) (gName i) D σ H := by
  obtain ⟨S, M, ρ, D0, sim, h, nx, _⟩ := h
  exact ⟨S, M, ρ, _, sim, h, fun v H' ⟨r, ρ', M', S', q, st, sim', res⟩ => nx _ M' S' _ H' q st.same (sim'.put res)⟩
theorem qs_set {i : Nat} {x : Str} {pos' : Pos} (hN : X.N.Nodup) (hi : X.N[i]? = some x) (hx : Loc X.env.scope x) (he : PE X e (liE z q)) (hs : swapsWith e (some (.Name x pos')) pos.line X.env = pure false := by rfl)
    (hf : X.fn x = true ∨ X.env.scope.names.lookup x = some .local := by first | exact .inl rfl | exact .inr rfl | assumption) : PS X (.Assign [.Name x pos'] e pos) (liS z (sAsg i q)) :=
  ps_w (ps_set hN hi hx he hs hf) fun _ _ _ h => asg_lift h
def sPar (i j : Nat) (qr : QA) : QS := fun D ρ M => qr ρ M fun ds ρ' M' => match ds with
  | [a, b] => D.nx ((ρ'.set i (.va a)).set j (.va b)) M'
  | _ => False
theorem qs_par {i j : Nat} {x y : Str} {a b : Expr} {qr : QA} {px py pt : Pos} {kt k2 pt2} (hc : X.calm = true) (hN : X.N.Nodup) (hi : X.N[i]? = some x) (hj : X.N[j]? = some y) (hij : i ≠ j)
    (hx : X.env.scope.names.lookup x = some .local) (hy : X.env.scope.names.lookup y = some .local) (ha : PA X [a, b] (liA z qr))
    (hw : swappedStores [.Tuple [.Name x px, .Name y py] kt pt] (.Tuple [a, b] k2 pt2) X.env = pure (some [x, y]))
    (hs : swapsWithSole [.Tuple [.Name x px, .Name y py] kt pt] (.Tuple [a, b] k2 pt2) pos.line X.env = pure false := by rfl) :
    PS X (.Assign [.Tuple [.Name x px, .Name y py] kt pt] (.Tuple [a, b] k2 pt2) pos) (liS z (sPar i j qr)) :=
  ps_w (ps_par hc hN hi hj hij hx hy ha hw hs) fun D σ H ⟨S, M, ρ, D0, sim, h, nx, _⟩ => ⟨S, M, ρ, _, sim, h, fun vs H' ⟨ds, ρ', M', S', q, st, sim', rp⟩ => by
    dsimp only at q
    split at q
    · cases rp with
      | cons r1 rr =>
        cases rr with
        | cons r2 rr =>
          cases rr
          exact ⟨_, _, rfl, nx _ M' S' _ H' q st.same ((sim'.put (r := .va _) r1).put (r := .va _) r2)⟩
    · exact q.elim⟩
/-- name op= e -/
def sAug (i : Nat) (od : OD) (qb : QB) : QS := fun D ρ M => match ρ[i]? with
  | some (.va d) => qb ρ M fun d2 ρ' M' => od d d2 fun r => D.nx (ρ'.set i r) M'
  | _ => False
theorem qs_aug {i : Nat} {x : Str} {op : Operator} {od : OD} {qb : QB} {pos' : Pos} (hN : X.N.Nodup) (hi : X.N[i]? = some x) (hx : Loc X.env.scope x) (he : PE X e (liB z qb)) (ho : OpB X z (inplaceOp op) od)
    (hf : X.fn x = true ∨ X.env.scope.names.lookup x = some .local := by first | exact .inl rfl | exact .inr rfl | assumption) : PS X (.AugAssign (.Name x pos') op e pos) (liS z (sAug i od qb)) := by
  refine ⟨fun pins s σ H D I ⟨S, M, ρ, D0, sim, h, nx, _⟩ => ?_⟩
  unfold sAug at h
  split at h
  · rename_i d e1
    obtain ⟨v, e2, rv⟩ := sim.va i d e1
    obtain ⟨m, hn, hl⟩ := I.loc
    have vis : Vis X.env.scope x := by rcases hx with k | k; exact .inl k; exact .inr (.inl k)
    obtain ⟨u, r, l⟩ := hl i x v hi e2 vis
    refine wpAny_AugAssign_Name ?_
    have go : wpAny (model X.prog X.w) X.A (eval e X.env) (fun w s₂ => wpAny (model X.prog X.w) X.A (inplaceOp op u w) (fun r s₃ => wpAny (model X.prog X.w) X.A (storeName X.env x r) (fun _ => SP X pins D .next) X.xe s₃) X.xe s₂) X.xe s := by
      refine thn (he.run pins s σ H _ I ⟨S, M, ρ, _, sim, h, fun _ _ p => p⟩) fun w s1 ⟨y, H1, I1, r1, ⟨d2, ρ1, M1, S1, q1, st1, sim1, b1⟩⟩ => ?_
      refine thn (ho pins s1 σ H1 S1 M1 ρ1 v y u w d d2 _ I1 sim1 (.inl (Rp.ext st1.same _ _ rv)) b1 r r1 q1) fun zz s2 ⟨zv, H2, I2, r2, ⟨r3, ρ3, M3, S3, ⟨e3, e4, q3⟩, st3, sim3, res3⟩⟩ => ?_
      subst e3 e4
      exact store_ok I2 hN hi hx r2 (fun s3 I3 => ⟨_, H2, I3, nx _ _ S3 _ H2 q3 (st1.same.trans st3.same) (sim3.put res3)⟩) hf
    rcases l with ⟨hk, hm⟩ | ⟨hk, c, hc, hcell⟩
    · exact wpAny_loadName_local I.ok.kind hk hn hm go
    · rcases hk with hk | hk
      · exact wpAny_loadName_cell I.ok.kind hk hc hcell go
      · rcases hx with k | k
        · have : X.env.scope.names.lookup x = some .free := hk
          rw [k] at this; cases this
        · have : X.env.scope.names.lookup x = some .free := hk
          rw [k] at this; cases this
  · exact h.elim

/-! ### while -/
def sWhile (c : QT) (tb : QS) : QS := fun D ρ M => ∃ I : Nat → Ev → Mu → Prop, (∃ m, I m ρ M) ∧ ∀ m ρ M, I m ρ M → c ρ M fun b ρ1 M1 =>
  if b = true then tb { nx := fun ρ' M' => ∃ m', m' < m ∧ I m' ρ' M', ct := fun ρ' M' => ∃ m', m' < m ∧ I m' ρ' M', bk := D.nx, rt := D.rt } ρ1 M1 else D.nx ρ1 M1
theorem qs_while (hp : PassesOwn (model X.prog X.w) X.A X.env X.xe) (hc : PT X c (liT z qt)) (hb : PSs X body (liS z t)) : PS X (.While c body [] pos) (liS z (sWhile qt t)) :=
  ps_w (ps_while hp hc hb) fun D σ H ⟨S, M, ρ, D0, sim, ⟨I, ⟨m0, w0⟩, turn⟩, nx, bk, ct, rt⟩ => by
    refine ⟨fun m σ' H' => ∃ S' M' ρ', Same S S' ∧ Sim z S' M' ρ' σ' H' ∧ I m ρ' M', ⟨m0, S, M, ρ, .refl _, sim, w0⟩, ?_⟩
    rintro m σ1 H1 ⟨S1, M1, ρ1, e1, sim1, w1⟩
    refine ⟨S1, M1, ρ1, _, sim1, turn m ρ1 M1 w1, fun k H2 ⟨ρ2, M2, S2, q2, st2, sim2⟩ => ?_⟩
    have e2 := e1.trans st2.same
    cases k with
    | true =>
      have q2' := (show t _ ρ2 M2 by simpa using q2)
      refine iteT ⟨fun σ' H' => ∃ m', m' < m ∧ ∃ S' M' ρ', Same S S' ∧ Sim z S' M' ρ' σ' H' ∧ I m' ρ' M', fun σ' H' h => h, S2, M2, ρ2, _, sim2, q2', ?_, ?_, ?_, rt⟩
      · rintro ρ3 M3 S3 σ3 H3 ⟨m', hm, w3⟩ e3 sim3
        exact ⟨m', hm, S3, M3, ρ3, e2.trans e3, sim3, w3⟩
      · intro ρ3 M3 S3 σ3 H3 w3 e3 sim3
        exact nx ρ3 M3 S3 σ3 H3 w3 (e2.trans e3) sim3
      · rintro ρ3 M3 S3 σ3 H3 ⟨m', hm, w3⟩ e3 sim3
        exact ⟨m', hm, S3, M3, ρ3, e2.trans e3, sim3, w3⟩
    | false => exact iteF (nx ρ2 M2 S2 _ H2 (by simpa using q2) e2 sim2)
end

/-! ### what is walked -/
/-- an iterator yields these data, whatever comes to be known meanwhile -/
structure Ylds (z : Z) (J : It) (S1 : Hp) (ds : List D) : Prop where
  go : ∀ i H S, Same S1 S → Same S H → i < ds.length → J.go i H
  stop : ∀ i H S, Same S1 S → Same S H → ds.length ≤ i → J.stop i H
  yld : ∀ i H S x H' d, Same S1 S → Same S H → ds[i]? = some d → J.yld i H x H' → ∃ S', Same S S' ∧ Same H H' ∧ Same S' H' ∧ (∀ b, S' b ≠ none → S b ≠ none ∨ H b = none) ∧ Rp z.K S' x d
def liI (z : Z) (q : QA) : TI := fun σ H R => ∃ S M ρ Q0, Sim z S M ρ σ H ∧ q ρ M Q0 ∧ ∀ J H', (∃ ds ρ' M' S', Q0 ds ρ' M' ∧ Step S M H S' M' H' ∧ Sim z S' M' ρ' σ H' ∧ Ylds z J S' ds) → R J H'
theorem pi_w {X : Cx} {tg e : Expr} {t t' : TI} (h : PI X tg e t) (w : ∀ σ H R, t' σ H R → t σ H R) : PI X tg e t' := ⟨fun pins s σ H R I hq => h.run pins s σ H R I (w σ H R hq)⟩
section
variable {X : Cx} {z : Z} {tg e a b c : Expr} {pos p : Pos} {q : QE} {qr : QA}
/-- a list or a tuple -/
theorem pi_seq {l : Expr} {tl : TE} (hl : PE X l tl) : PI X tg l (fun σ H R => tl σ H fun x H1 => ∃ a, x = .ref a ∧ (((∃ xs, SqL X.K H1 a xs) ∧ R (Itl X.K a) H1) ∨ ((∃ xs, SqT X.K H1 a xs) ∧ R (Itt X.K a) H1))) := by
  refine ⟨fun pins s σ H R I h => ?_⟩
  refine thn (hl.run pins s σ H _ I h) fun v s1 ⟨x, H1, I1, r1, q1⟩ => ?_
  obtain ⟨a, e, ⟨⟨xs, hq⟩, q⟩ | ⟨⟨xs, hq⟩, q⟩⟩ := q1
  · subst e
    cases r1
    obtain ⟨its, rv, p, hz⟩ := I1.list hq
    exact wpAny_pyIter_list p.isList (pi_one (tk := s1.toks) I1 _ (turn_list a _) ⟨_, Heap.get?_push_size _ rfl, rfl, rfl⟩ q)
  · subst e
    cases r1
    obtain ⟨its, rv, p, hz⟩ := I1.tuple hq
    exact wpAny_pyIter_tuple (show s1.heap.IsTuple a its.toArray from p) (pi_one (tk := s1.toks) I1 _ (turn_tuple a _) ⟨_, Heap.get?_push_size _ rfl, rfl, rfl⟩ q)
def iSeq (q : QE) : QA := fun ρ M Q => q ρ M fun r ρ' M' => match r.val with
  | .lst ds => Q ds ρ' M'
  | .tup ds => Q ds ρ' M'
  | _ => False
theorem ylds_list {S1 : Hp} {a : Addr} {xs : List V} {ds : List D} (h : SqL z.K S1 a xs) (r : RpA z.K S1 xs ds) (hinj : ∀ H ys, SqL z.K H a xs → SqL z.K H a ys → xs = ys) : Ylds z (Itl z.K a) S1 ds := by
  refine ⟨fun i H S e1 e2 hi => ?_, fun i H S e1 e2 hi => ⟨xs, (e1.trans e2).seq h, by rw [r.length]; exact hi⟩, fun i H S x H' d e1 e2 ed y => ?_⟩
  · have hl := r.length
    exact ⟨xs, xs[i], (e1.trans e2).seq h, List.getElem?_eq_getElem (by omega)⟩
  · obtain ⟨rfl, y⟩ := y
    have ex := y xs ((e1.trans e2).seq h)
    obtain ⟨v, h1, h2⟩ := r.get ed
    rw [ex] at h1
    cases h1
    exact ⟨S, .refl _, .refl _, e2, fun b q => .inl q, Rp.ext e1 _ _ h2⟩
theorem ylds_listS {S1 : Hp} {a : Addr} {xs : List V} {ds : List D} (h : S1 a = some (.lst xs)) (r : RpA z.K S1 xs ds) : Ylds z (Itl z.K a) S1 ds := by
  refine ⟨fun i H S e1 e2 hi => ?_, fun i H S e1 e2 hi => ⟨xs, .of ((e1.trans e2) _ _ h), by rw [r.length]; exact hi⟩, fun i H S x H' d e1 e2 ed y => ?_⟩
  · have hl := r.length
    exact ⟨xs, xs[i], .of ((e1.trans e2) _ _ h), List.getElem?_eq_getElem (by omega)⟩
  · obtain ⟨rfl, y⟩ := y
    have ex := y xs (.of ((e1.trans e2) _ _ h))
    obtain ⟨v, h1, h2⟩ := r.get ed
    rw [ex] at h1
    cases h1
    exact ⟨S, .refl _, .refl _, e2, fun b q => .inl q, Rp.ext e1 _ _ h2⟩
theorem ylds_tup {S1 : Hp} {a : Addr} {xs : List V} {ds : List D} (h : SqT z.K S1 a xs) (r : RpA z.K S1 xs ds) : Ylds z (Itt z.K a) S1 ds := by
  refine ⟨fun i H S e1 e2 hi => ?_, fun i H S e1 e2 hi => ⟨xs, same_seqT (e1.trans e2) h, by rw [r.length]; exact hi⟩, fun i H S x H' d e1 e2 ed y => ?_⟩
  · have hl := r.length
    exact ⟨xs, xs[i], same_seqT (e1.trans e2) h, List.getElem?_eq_getElem (by omega)⟩
  · obtain ⟨rfl, y⟩ := y
    have ex := y xs (same_seqT (e1.trans e2) h)
    obtain ⟨v, h1, h2⟩ := r.get ed
    rw [ex] at h1
    cases h1
    exact ⟨S, .refl _, .refl _, e2, fun b q => .inl q, Rp.ext e1 _ _ h2⟩
theorem qi_seq (hK : X.K = z.K := by first | assumption | rfl) (h : PE X e (liE z q)) : PI X tg e (liI z (iSeq q)) :=
  pi_w (pi_seq h) fun σ H R ⟨S, M, ρ, Q0, sim, h, post⟩ => ⟨S, M, ρ, _, sim, h, fun v H1 ⟨r, ρ1, M1, S1, q1, st1, sim1, res1⟩ => by
    obtain ⟨S2, sim2, st2, rp⟩ := sim1.freeze res1
    dsimp only at q1
    split at q1
    · rename_i ds e
      rw [e] at rp
      cases rp with
      | lst h1 h2 => exact ⟨_, rfl, .inl ⟨⟨_, .of (sim2.sub _ _ h1)⟩, post _ H1 ⟨ds, ρ1, M1, S2, q1, st1.trans st2, sim2, by rw [hK]; exact ylds_listS h1 h2⟩⟩⟩
    · rename_i ds e
      rw [e] at rp
      cases rp with
      | tup h1 h2 => exact ⟨_, rfl, .inr ⟨⟨_, by rw [hK]; exact same_seqT sim2.sub h1⟩, post _ H1 ⟨ds, ρ1, M1, S2, q1, st1.trans st2, sim2, by rw [hK]; exact ylds_tup h1 h2⟩⟩⟩
    · exact q1.elim⟩
/-- lo, lo + 1, .. below hi -/
def rangeL (lo hi : Int) : List D := (List.range (hi - lo).toNat).map fun (k : Nat) => .int (lo + (k : Int))
theorem rangeL_len {lo hi : Int} : (rangeL lo hi).length = (hi - lo).toNat := by unfold rangeL; rw [List.length_map, List.length_range]
theorem rangeL_get {lo hi : Int} {i : Nat} {d : D} (h : (rangeL lo hi)[i]? = some d) : d = .int (lo + (i : Int)) ∧ i < (hi - lo).toNat := by
  unfold rangeL at h
  rw [List.getElem?_map] at h
  cases e : (List.range (hi - lo).toNat)[i]? with
  | none => rw [e] at h; cases h
  | some k =>
    rw [e] at h
    obtain ⟨h1, h2⟩ := List.getElem?_eq_some_iff.mp e
    rw [List.getElem_range] at h2
    subst h2
    cases h
    exact ⟨rfl, by rw [List.length_range] at h1; exact h1⟩
def iR1 (qr : QA) : QA := fun ρ M Q => qr ρ M fun ds ρ' M' => match ds with
  | [.int j] => (-4611686018427387904 ≤ j ∧ j < 4611686018427387904) ∧ Q (rangeL 0 j) ρ' M'
  | _ => False
def iR2 (qr : QA) : QA := fun ρ M Q => qr ρ M fun ds ρ' M' => match ds with
  | [.int i, .int j] => (-4611686018427387904 ≤ i ∧ i < 4611686018427387904 ∧ -4611686018427387904 ≤ j ∧ j < 4611686018427387904) ∧ Q (rangeL i j) ρ' M'
  | _ => False
theorem ylds_range {S1 : Hp} {lo hi : Int} : Ylds z (Itr lo (hi - lo).toNat) S1 (rangeL lo hi) := by
  refine ⟨fun i H S e1 e2 h => by rw [rangeL_len] at h; exact h, fun i H S e1 e2 h => by rw [rangeL_len] at h; exact h, fun i H S x H' d e1 e2 ed y => ?_⟩
  obtain ⟨rfl, rfl⟩ := y
  obtain ⟨rfl, _⟩ := rangeL_get ed
  exact ⟨S, .refl _, .refl _, e2, fun b q => .inl q, .int _⟩
theorem p62 : ((2 : Int) ^ 62) = 4611686018427387904 := by decide
theorem qi_range1 (hg : Gl X "range") (hm : X.mg "range" = none) (ha : PA X [a] (liA z qr)) (hs : starEach [a] X.env = [(false, eval a X.env)] := by rfl) : PI X tg (.Call (.Name "range" p) [a] [] pos) (liI z (iR1 qr)) :=
  pi_w (pi_range1 hg hm ha hs) fun σ H R ⟨S, M, ρ, Q0, sim, h, post⟩ => ⟨S, M, ρ, _, sim, h, fun vs H1 ⟨ds, ρ1, M1, S1, q1, st1, sim1, rp⟩ => by
    dsimp only at q1
    split at q1
    · cases rp with
      | cons r1 rr =>
        cases rr
        cases r1
        obtain ⟨⟨b1, b2⟩, q⟩ := q1
        refine ⟨_, rfl, by rw [p62]; exact b1, by rw [p62]; exact b2, post _ H1 ⟨_, ρ1, M1, S1, q, st1, sim1, ?_⟩⟩
        have y := ylds_range (z := z) (S1 := S1) (lo := 0) (hi := ‹Int›)
        rw [Int.sub_zero] at y
        exact y
    · exact q1.elim⟩
theorem qi_range2 (hg : Gl X "range") (hm : X.mg "range" = none) (ha : PA X [a, b] (liA z qr)) (hs : starEach [a, b] X.env = [(false, eval a X.env), (false, eval b X.env)] := by rfl) (hs2 : starEach [b] X.env = [(false, eval b X.env)] := by rfl) :
    PI X tg (.Call (.Name "range" p) [a, b] [] pos) (liI z (iR2 qr)) :=
  pi_w (pi_range2 hg hm ha hs hs2) fun σ H R ⟨S, M, ρ, Q0, sim, h, post⟩ => ⟨S, M, ρ, _, sim, h, fun vs H1 ⟨ds, ρ1, M1, S1, q1, st1, sim1, rp⟩ => by
    dsimp only at q1
    split at q1
    · cases rp with
      | cons r1 rr =>
        cases rr with
        | cons r2 rr =>
          cases rr
          cases r1
          cases r2
          obtain ⟨⟨b1, b2, b3, b4⟩, q⟩ := q1
          exact ⟨_, _, rfl, ⟨by rw [p62]; exact b1, by rw [p62]; exact b2, by rw [p62]; exact b3, by rw [p62]; exact b4⟩, post _ H1 ⟨_, ρ1, M1, S1, q, st1, sim1, ylds_range⟩⟩
    · exact q1.elim⟩
end

/-! ### targets -/
abbrev QG := D → Ev → (Ev → Prop) → Prop
abbrev QGs := List D → Ev → (Ev → Prop) → Prop
/-- as: the slots that may change -/
def liG (z : Z) (as : List Nat) (q : QG) : TG := fun v σ H Q => ∃ S M ρ d Q0, Sim z S M ρ σ H ∧ Rp z.K S v d ∧ q d ρ Q0 ∧ ∀ ρ' σ', Q0 ρ' → Sim z S M ρ' σ' H → (∀ j, j ∉ as → σ'[j]? = σ[j]?) → Q σ' H
def liGs (z : Z) (as : List Nat) (q : QGs) : TGs := fun vs σ H Q => ∃ S M ρ ds Q0, Sim z S M ρ σ H ∧ RpA z.K S vs ds ∧ q ds ρ Q0 ∧ ∀ ρ' σ', Q0 ρ' → Sim z S M ρ' σ' H → (∀ j, j ∉ as → σ'[j]? = σ[j]?) → Q σ' H
theorem pg_w {X : Cx} {e : Expr} {t t' : TG} (h : PG X e t) (w : ∀ v σ H Q, t' v σ H Q → t v σ H Q) : PG X e t' := ⟨fun pins s σ H v u Q I r hq => h.run pins s σ H v u Q I r (w v σ H Q hq)⟩
theorem pgs_w {X : Cx} {e : List Expr} {t t' : TGs} (h : PGs X e t) (w : ∀ v σ H Q, t' v σ H Q → t v σ H Q) : PGs X e t' := ⟨fun pins s σ H v u Q I r hq => h.run pins s σ H v u Q I r (w v σ H Q hq)⟩
def gN (i : Nat) : QG := fun d ρ Q => Q (ρ.set i (.va d))
def gsNil : QGs := fun ds ρ Q => match ds with
  | [] => Q ρ
  | _ => False
def gsCons (g : QG) (gs : QGs) : QGs := fun ds ρ Q => match ds with
  | d :: r => g d ρ fun ρ' => gs r ρ' Q
  | [] => False
def gT (n : Nat) (gs : QGs) : QG := fun d ρ Q => match d with
  | .tup ds => ds.length = n ∧ gs ds ρ Q
  | _ => False
section
variable {X : Cx} {z : Z} {pos : Pos} {e : Expr} {es : List Expr} {g : QG} {gs : QGs} {as bs : List Nat}
theorem qg_name {i : Nat} {x : Str} (hN : X.N.Nodup) (hi : X.N[i]? = some x) (hx : Loc X.env.scope x) (hf : X.fn x = true ∨ X.env.scope.names.lookup x = some .local := by first | exact .inl rfl | exact .inr rfl | assumption) : PG X (.Name x pos) (liG z [i] (gN i)) :=
  pg_w (pg_name hN hi hx hf) fun v σ H Q ⟨S, M, ρ, d, Q0, sim, r, h, post⟩ => post _ _ h (sim.put (r := .va d) r) fun j hj => List.getElem?_set_ne fun e => hj (by simp [e])
theorem qgs_nil : PGs X [] (liGs z [] gsNil) := pgs_w pgs_nil fun vs σ H Q ⟨S, M, ρ, ds, Q0, sim, r, h, post⟩ => by
  unfold gsNil at h
  split at h
  · cases r; exact ⟨rfl, post _ _ h sim fun _ _ => rfl⟩
  · exact h.elim
theorem qgs_cons (h1 : PG X e (liG z as g)) (h2 : PGs X es (liGs z bs gs)) (hs : (assignEach (e :: es) X.env).map (·.2) = assign e X.env :: (assignEach es X.env).map (·.2) := by rfl) : PGs X (e :: es) (liGs z (as ++ bs) (gsCons g gs)) :=
  pgs_w (pgs_cons h1 h2 hs) fun vs σ H Q ⟨S, M, ρ, ds, Q0, sim, r, h, post⟩ => by
    unfold gsCons at h
    split at h
    · cases r with
      | cons r1 r2 => exact ⟨_, _, rfl, S, M, ρ, _, _, sim, r1, h, fun ρ' σ' q sim' k1 => ⟨S, M, ρ', _, Q0, sim', r2, q, fun ρ2 σ2 q2 sim2 k2 => post ρ2 σ2 q2 sim2 fun j hj => (k2 j fun hm => hj (List.mem_append_right _ hm)).trans (k1 j fun hm => hj (List.mem_append_left _ hm))⟩⟩
    · exact h.elim
theorem qg_tup {k n : Nat} (hc : X.calm = true) (h : PGs X es (liGs z as gs)) (hK : X.K = z.K := by first | assumption | rfl) (hn : (assignEach es X.env).length = n := by rfl) (hst : (assignEach es X.env).findIdx? (·.1) = none := by rfl) : PG X (.Tuple es k pos) (liG z as (gT n gs)) :=
  pg_w (pg_tup hc h hn hst) fun v σ H Q ⟨S, M, ρ, d, Q0, sim, r, h, post⟩ => by
    unfold gT at h
    split at h
    · cases r with
      | tup r1 r2 => exact ⟨_, _, rfl, by rw [hK]; exact same_seqT sim.sub r1, by rw [r2.length]; exact h.1, S, M, ρ, _, Q0, sim, r2, h.2, post⟩
    · exact h.elim
/-- target = value -/
def sTgt (q : QE) (g : QG) : QS := fun D ρ M => q ρ M fun r ρ' M' => g r.val ρ' fun ρ2 => D.nx ρ2 M'
theorem qs_asg {tg e : Expr} {q : QE} (he : PE X e (liE z q)) (hg : PG X tg (liG z as g)) (hs : swapsWithSole [tg] e pos.line X.env = pure false := by rfl) (hw : swappedStores [tg] e X.env = pure none := by rfl)
    (h1 : (assignEach [tg] X.env).map (·.2) = [assign tg X.env] := by rfl) : PS X (.Assign [tg] e pos) (liS z (sTgt q g)) :=
  ps_w (ps_asg he hg hs hw h1) fun D σ H ⟨S, M, ρ, D0, sim, h, nx, _⟩ => ⟨S, M, ρ, _, sim, h, fun v H' ⟨r, ρ', M', S', q, st, sim', res⟩ => by
    obtain ⟨S2, sim2, st2, rp⟩ := sim'.freeze res
    exact ⟨S2, M', ρ', _, _, sim2, rp, q, fun ρ2 σ2 q2 sim3 _ => nx ρ2 M' S2 σ2 H' q2 (st.trans st2).same sim3⟩⟩

/-! ### for -/
def sFor (qi : QA) (g : QG) (tb : QS) : QS := fun D ρ M => qi ρ M fun ds ρ1 M1 => ∃ I : Nat → Ev → Mu → Prop, I 0 ρ1 M1 ∧
  (∀ i d ρ M, ds[i]? = some d → I i ρ M → g d ρ fun ρ2 => tb { nx := I (i + 1), ct := I (i + 1), bk := D.nx, rt := D.rt } ρ2 M) ∧ (∀ ρ M, I ds.length ρ M → D.nx ρ M)
theorem qs_for {tg iter : Expr} {body : List Stmt} {qi : QA} {tb : QS} (hp : PassesOwn (model X.prog X.w) X.A X.env X.xe) (hc : X.calm = true) (hi : PI X tg iter (liI z qi)) (hg : PG X tg (liG z as g)) (hb : PSs X body (liS z tb))
    (hs : ∀ x, foldedSetIterable iter X.env x = pure x := by intro _; rfl) : PS X (.For tg iter body [] pos) (liS z (sFor qi g tb)) :=
  ps_w (ps_for hp hc hi hg hb hs) fun D σ H ⟨S, M, ρ, D0, sim, h, nx, bk, ct, rt⟩ => ⟨S, M, ρ, _, sim, h, fun J H1 ⟨ds, ρ1, M1, S1, ⟨I, w0, turn, fin⟩, st1, sim1, y⟩ => by
    refine ⟨fun i m σ' H' => m = ds.length - i ∧ i ≤ ds.length ∧ ∃ S' M' ρ', Same S1 S' ∧ Sim z S' M' ρ' σ' H' ∧ I i ρ' M', ⟨ds.length, by simp, Nat.zero_le _, S1, M1, ρ1, .refl _, sim1, w0⟩, ?_⟩
    rintro i m σ2 H2 ⟨rfl, hi, S2, M2, ρ2, e2, sim2, w2⟩
    by_cases hlt : i < ds.length
    · refine .inr ⟨y.go i H2 S2 e2 sim2.sub hlt, fun σ' H' => i + 1 ≤ ds.length ∧ ∃ S' M' ρ', Same S1 S' ∧ Sim z S' M' ρ' σ' H' ∧ I (i + 1) ρ' M', fun σ' H' h => ⟨ds.length - (i + 1), by omega, rfl, h.1, h.2⟩, fun x H3 hy => ?_⟩
      have ed : ds[i]? = some ds[i] := List.getElem?_eq_getElem hlt
      obtain ⟨S3, a1, a2, a3, a4, rp⟩ := y.yld i H2 S2 x H3 _ e2 sim2.sub ed hy
      have sim3 := sim2.grow a1 a2 a3 a4
      refine ⟨S3, M2, ρ2, _, _, sim3, rp, turn i _ ρ2 M2 ed w2, fun ρ4 σ4 q4 sim4 _ => ?_⟩
      have e3 := e2.trans a1
      exact ⟨S3, M2, ρ4, _, sim4, q4, fun ρ5 M5 S5 σ5 H5 q5 e5 sim5 => ⟨hlt, S5, M5, ρ5, e3.trans e5, sim5, q5⟩,
        fun ρ5 M5 S5 σ5 H5 q5 e5 sim5 => nx ρ5 M5 S5 σ5 H5 q5 ((st1.same.trans e3).trans e5) sim5, fun ρ5 M5 S5 σ5 H5 q5 e5 sim5 => ⟨hlt, S5, M5, ρ5, e3.trans e5, sim5, q5⟩, rt⟩
    · have e : i = ds.length := by omega
      subst e
      exact .inl ⟨y.stop _ H2 S2 e2 sim2.sub (Nat.le_refl _), nx ρ2 M2 S2 σ2 H2 (fin ρ2 M2 w2) (st1.same.trans e2) sim2⟩⟩
end

/-! ### calls of the program's defs -/
/-- a promise: the arguments' data, the objects known by address; the wanted end; the wanted exception (its class's name, its fields) -/
abbrev PSp := List D → Mu → (Sl → Mu → Prop) → (Str → List D → Mu → Prop) → Prop
abbrev zOf (K : Fg) (H S : Hp) (M : Mu) : Z := ⟨K, H, S, M, fun _ => False⟩
/-- .. of a def that raises nothing -/
def liP (K : Fg) (p : PSp) : Sp := fun vs H Q _ => ∃ S M ds Q0, Core (zOf K H S M) S M H ∧ RpA K S vs ds ∧ p ds M Q0 (fun _ _ _ => False) ∧
  ∀ v H' r M' S', Q0 r M' → Core (zOf K H S M) S' M' H' → ResF (zOf K H S M) S' M' H' v r → Q v H'
def eCall (p : PSp) (qr : QA) : QE := fun ρ M Q => qr ρ M fun ds ρ1 M1 => p ds M1 (fun r M2 => Q r ρ1 M2) fun _ _ _ => False
section
variable {X : Cx} {z : Z}
theorem Sim.core0 {S : Hp} {M : Mu} {ρ : Ev} {σ : St} {H : Hp} (h : Sim z S M ρ σ H) : Core (zOf z.K H S M) S M H := ⟨.refl, h.sub, fun b q => .inl q, h.mu, h.mnd, fun _ r => r.elim⟩
theorem Sim.after {S S' : Hp} {M M' : Mu} {ρ : Ev} {σ : St} {H H' : Hp} (h : Sim z S M ρ σ H) (c : Core (zOf z.K H S M) S' M' H') : Sim z S' M' ρ σ H' := by
  have hs : ∀ {a : Addr}, S a = none → H a ≠ none → S' a = none := fun {a} e n => by
    cases q : S' a with
    | none => rfl
    | some o =>
      rcases c.frS a (by rw [q]; simp) with w | w
      · exact absurd e w
      · exact absurd w n
  refine ⟨⟨h.step.trans c.step, c.sub, fun b q => ?_, c.mu, c.mnd, fun b hb => ?_⟩, h.len, fun i d e => ?_, fun i o e => ?_, h.sep⟩
  · rcases c.frS b q with w | w
    · exact h.frS b w
    · exact .inr (h.toCore.h0 w)
  · obtain ⟨r1, r2, r3⟩ := h.rsv b hb
    refine ⟨hs r1 r2, c.step.dom b r2, fun p hp e => ?_⟩
    rcases c.step.mnew p hp with ⟨q, hq, e2⟩ | e2
    · exact r3 q hq (e2.trans e)
    · exact r2 (e ▸ e2)
  · obtain ⟨v, a, b⟩ := h.va i d e
    exact ⟨v, a, Rp.ext c.step.same _ _ b⟩
  · obtain ⟨a, h1, h2, h3, h4, h5⟩ := h.ow i o e
    obtain ⟨u, hu⟩ := h4.at
    have k : H' a = H a := (c.step.keep a u hu h5).trans hu.symm
    refine ⟨a, h1, hs h2 (by rw [hu]; simp), h3, h4.ext c.step.same k, fun p hp e => ?_⟩
    rcases c.step.mnew p hp with ⟨q, hq, e2⟩ | e2
    · exact h5 q hq (e2.trans e)
    · have e3 : H p.1 = none := e2
      rw [e, hu] at e3; cases e3
theorem Sim.afterR {S S' : Hp} {M M' : Mu} {ρ : Ev} {σ : St} {H H' : Hp} {v : V} {r : Sl} (h : Sim z S M ρ σ H) (res : ResF (zOf z.K H S M) S' M' H' v r) : ResE z S' M' ρ σ H' v r := by
  cases r with
  | un => exact res
  | va d => exact res
  | ow o =>
    obtain ⟨a, h1, h2, h3, h4, h5⟩ := res
    have h3' : H a = none := h3.1
    refine ⟨a, h1, h2, h.toCore.nw h3', h4, h5, fun i o' e q => ?_⟩
    obtain ⟨b, k1, _, _, k4, _⟩ := h.ow i o' e
    rw [q] at k1
    cases k1
    obtain ⟨u, hu⟩ := k4.at
    rw [h3'] at hu; cases hu
variable {CX : CXT} {k : Nat} {f : Addr} {fd : FuncData} {ps : List Str} {p : PSp} {x : Str} {pp pos : Pos} {e : Expr} {es : List Expr} {qr : QA}
theorem call_lift {σ : St} {H : Hp} {Q : VK} (h : liE z (eCall p qr) σ H Q) : liA z qr σ H fun vs H1 => liP z.K p (vs ++ []) H1 Q E0 := by
  obtain ⟨S, M, ρ, Q0, sim, h, post⟩ := h
  refine ⟨S, M, ρ, _, sim, h, fun vs H1 ⟨ds, ρ1, M1, S1, q1, st1, sim1, rp⟩ => ⟨S1, M1, ds, _, sim1.core0, by rw [List.append_nil]; exact rp, q1, fun v H2 r M2 S2 q2 c res => ?_⟩⟩
  exact post v H2 ⟨r, ρ1, M2, S2, q2, st1.trans c.step, sim1.after c, sim1.afterR res⟩
/-- f(e, ..): no exception is let out -/
theorem qe_call (F : FnOk X.prog X.w X.K X.mg X.base CX k f fd ps (liP X.K p)) (hr : Room k X.A) (hg : Gl X x) (hm : X.mg x = some (.ref f)) (hk : PySem.W.keepIn X.K (.ref f) = true) (hb : Binds X.K fd ps []) (hx : Passes CX X E0)
    (ha : PA X (e :: es) (liA z qr)) (hK : X.K = z.K := by first | assumption | rfl) (hdb : (x == ("__debug__" : Str)) = false := by decide) (he : starEach (e :: es) X.env = (false, eval e X.env) :: starEach es X.env := by rfl) (hpl : (backTo pos (starEach es X.env)).any (·.1) = false := by rfl) :
    PE X (.Call (.Name x pp) (e :: es) [] pos) (liE z (eCall p qr)) := by
  refine pe_w (pe_call F hr hg hm hk hb .nil hx ha hdb he hpl) fun σ H Q h => ?_
  have h' := call_lift h
  unfold tCall
  rw [hK]
  exact h'
end
end PL
namespace PL
open PySem PySem.Spec PyProof.Rows L2

/-! ### arithmetic on data -/
def dI2 (C : Int → Int → Prop) (f : Int → Int → D) : OD := fun a b Q => match a, b with
  | .int i, .int j => C i j ∧ Q (.va (f i j))
  | _, _ => False
abbrev CT : Int → Int → Prop := fun _ _ => True
/-- a factor is small, or both are not too great -/
def CMulP (i j : Int) : Prop := (-18446744073709551616 < i ∧ i < 18446744073709551616) ∨ (-18446744073709551616 < j ∧ j < 18446744073709551616)
/-- a divisor below 2 ^ 100 -/
def CDivP (_ j : Int) : Prop := 0 < j ∧ j < 1267650600228229401496703205376
def CModP (_ j : Int) : Prop := 0 < j
def CPowP (i j : Int) : Prop := 0 ≤ j ∧ j ≤ 1000 ∧ (-1000000 < i ∧ i < 1000000)
def dAdd : OD := fun a b Q => match a, b with
  | .int i, .int j => Q (.va (.int (i + j)))
  | .str x, .str y => x.length + y.length ≤ 16777216 ∧ Q (.va (.str (x ++ y)))
  | .lst xs, .lst ys => xs.length + ys.length ≤ 16777216 ∧ Q (.ow (.lst (xs ++ ys)))
  | .tup xs, .tup ys => xs.length + ys.length ≤ 16777216 ∧ Q (.va (.tup (xs ++ ys)))
  | _, _ => False
abbrev dSub : OD := dI2 CT fun i j => .int (i - j)
abbrev dMul : OD := dI2 CMulP fun i j => .int (i * j)
abbrev dDiv : OD := dI2 CDivP fun i j => .int (i / j)
abbrev dMod : OD := dI2 CModP fun i j => .int (i % j)
abbrev dPow : OD := dI2 CPowP fun i j => .int (i ^ j.toNat)
abbrev dLt : OD := dI2 CT fun i j => .bl (decide (i < j))
abbrev dLe : OD := dI2 CT fun i j => .bl (decide (i ≤ j))
abbrev dGt : OD := dI2 CT fun i j => .bl (decide (j < i))
abbrev dGe : OD := dI2 CT fun i j => .bl (decide (j ≤ i))
section
variable {X : Cx} {z : Z} {S : Hp} {M : Mu} {H : Hp}
theorem Rb.int {v : V} {i : Int} (h : Rb z.K S M H v (.int i)) : v = .int i := by
  rcases h with h | ⟨_, _, _, _, e, _⟩
  · cases h; rfl
  · cases e
theorem Rb.bl {v : V} {i : Bool} (h : Rb z.K S M H v (.bl i)) : v = .bl i := by
  rcases h with h | ⟨_, _, _, _, e, _⟩
  · cases h; rfl
  · cases e
theorem Rb.str {v : V} {i : Str} (h : Rb z.K S M H v (.str i)) : v = .str i := by
  rcases h with h | ⟨_, _, _, _, e, _⟩
  · cases h; rfl
  · cases e
theorem Rb.ty {v : V} {i : String} (h : Rb z.K S M H v (.ty i)) : v = .ty i := by
  rcases h with h | ⟨_, _, _, _, e, _⟩
  · cases h; rfl
  · cases e
theorem Rb.non {v : V} (h : Rb z.K S M H v .non) : v = .non := by
  rcases h with h | ⟨_, _, _, _, e, _⟩
  · cases h; rfl
  · cases e
theorem Rb.ref {v : V} {a : Addr} (h : Rb z.K S M H v (.ref a)) : v = .ref a := by
  rcases h with h | ⟨_, _, _, _, e, _⟩
  · cases h; rfl
  · cases e
theorem Rb.tup {v : V} {ds : List D} (h : Rb z.K S M H v (.tup ds)) : ∃ a xs, v = .ref a ∧ SqT z.K S a xs ∧ RpA z.K S xs ds := by
  rcases h with h | ⟨_, _, _, _, e, _⟩
  · cases h with | tup a b => exact ⟨_, _, rfl, a, b⟩
  · cases e
theorem Rb.lst {v : V} {ds : List D} (hs : Same S H) (h : Rb z.K S M H v (.lst ds)) : ∃ a xs, v = .ref a ∧ H a = some (.lst xs) ∧ RpA z.K S xs ds := by
  rcases h with h | ⟨a, xs, ds', e1, e, e2, e3, _⟩
  · cases h with | lst a b => exact ⟨_, _, rfl, hs _ _ a, b⟩
  · cases e; exact ⟨a, xs, e1, e2, e3⟩
theorem ob_i2 {f : Value → Value → Sem Value} {C C' : Int → Int → Prop} {g : Int → Int → V} {g' : Int → Int → D} (h : OpR X f (rI C g)) (hC : ∀ i j, C' i j → C i j) (hg : ∀ S i j, Rp z.K S (g i j) (g' i j)) : OpB X z f (dI2 C' g') :=
  opB_of h fun σ H S M ρ x y d1 d2 Q0 sim b1 b2 q => by
    unfold dI2 at q
    split at q
    · exact ⟨_, _, b1.int, b2.int, hC _ _ q.1, poE_va sim (hg _ _ _) q.2⟩
    · exact q.elim
theorem ob_i20 {f : Value → Value → Sem Value} {g : Int → Int → V} {g' : Int → Int → D} (h : OpR X f (rI0 g)) (hg : ∀ S i j, Rp z.K S (g i j) (g' i j)) : OpB X z f (dI2 CT g') :=
  opB_of h fun σ H S M ρ x y d1 d2 Q0 sim b1 b2 q => by
    unfold dI2 at q
    split at q
    · exact ⟨_, _, b1.int, b2.int, poE_va sim (hg _ _ _) q.2⟩
    · exact q.elim
theorem p64 : ((2 : Int) ^ 64) = 18446744073709551616 := by decide
theorem cmul_ok {i j : Int} (h : CMulP i j) : CMul i j := by
  unfold CMul
  rw [p64]
  exact h
theorem cdiv_ok {i j : Int} (h : CDivP i j) : CDivW i j := by
  refine wide_div (b := 100) h.1 ?_ (by decide) (by decide)
  have h1 := h.1
  have h2 := h.2
  have e : (2 : Nat) ^ 100 = 1267650600228229401496703205376 := by decide
  rw [e]
  omega
theorem cpow_ok {i j : Int} (h : CPowP i j) : CPow i j := by
  obtain ⟨h1, h2, h3, h4⟩ := h
  exact ⟨h1, by omega, by omega⟩
theorem ob_sub : OpB X z (binaryOp .Sub) dSub := ob_i20 op_sub fun _ _ _ => .int _
theorem ob_mul : OpB X z (binaryOp .Mult) dMul := ob_i2 op_mul (fun _ _ => cmul_ok) fun _ _ _ => .int _
theorem ob_div : OpB X z (binaryOp .FloorDiv) dDiv := ob_i2 op_fdivW (fun _ _ => cdiv_ok) fun _ _ _ => .int _
theorem ob_mod : OpB X z (binaryOp .Mod) dMod := ob_i2 op_mod (fun _ _ h => h) fun _ _ _ => .int _
theorem ob_pow : OpB X z (binaryOp .Pow) dPow := ob_i2 op_pow (fun _ _ => cpow_ok) fun _ _ _ => .int _
theorem ob_lt : OpB X z (compareOp .Lt) dLt := ob_i20 op_lt fun _ _ _ => .bl _
theorem ob_le : OpB X z (compareOp .LtE) dLe := ob_i20 op_le fun _ _ _ => .bl _
theorem ob_gt : OpB X z (compareOp .Gt) dGt := ob_i20 op_gt fun _ _ _ => .bl _
theorem ob_ge : OpB X z (compareOp .GtE) dGe := ob_i20 op_ge fun _ _ _ => .bl _
abbrev dAddI : OD := dI2 CT fun i j => .int (i + j)
theorem ib_add : OpB X z (inplaceOp .Add) dAddI := ob_i20 iop_add fun _ _ _ => .int _
theorem ib_sub : OpB X z (inplaceOp .Sub) dSub := ob_i20 iop_sub fun _ _ _ => .int _
theorem ib_mul : OpB X z (inplaceOp .Mult) dMul := ob_i2 iop_mul (fun _ _ => cmul_ok) fun _ _ _ => .int _
def CDivS (_ j : Int) : Prop := 0 < j ∧ j < 1073741824
abbrev dDivS : OD := dI2 CDivS fun i j => .int (i / j)
theorem ib_div : OpB X z (inplaceOp .FloorDiv) dDivS := ob_i2 iop_fdiv (fun _ _ h => h) fun _ _ _ => .int _
theorem ib_mod : OpB X z (inplaceOp .Mod) dMod := ob_i2 iop_mod (fun _ _ h => h) fun _ _ _ => .int _
/-- a new list of one's own, as a result -/
theorem poE_ow {ρ : Ev} {σ : St} {Q0 : Sl → Prop} {p : Addr} {xs : List V} {ds : List D} (sim : Sim z S M ρ σ H) (hp : H p = none) (r : RpA z.K S xs ds) (q : Q0 (.ow (.lst ds))) : PoE z S M σ H (fun r ρ' M' => ρ' = ρ ∧ M' = M ∧ Q0 r) (.ref p) (upd H p (.lst xs)) := by
  obtain ⟨a, b, c⟩ := sim.fresh hp r
  exact ⟨_, ρ, M, S, ⟨rfl, rfl, q⟩, b, a, c⟩
theorem poE_tup {ρ : Ev} {σ : St} {Q0 : Sl → Prop} {p : Addr} {xs : List V} {ds : List D} (sim : Sim z S M ρ σ H) (hp : H p = none) (r : RpA z.K S xs ds) (q : Q0 (.va (.tup ds))) : PoE z S M σ H (fun r ρ' M' => ρ' = ρ ∧ M' = M ∧ Q0 r) (.ref p) (upd H p (.tup xs)) := by
  obtain ⟨a, b⟩ := sim.alloc (o := .tup xs) hp
  exact ⟨_, ρ, M, _, ⟨rfl, rfl, q⟩, b, a, Rp.tup (.of upd_same) (RpA.ext b.same _ _ r)⟩
theorem ob_add (hK : X.K = z.K := by first | assumption | rfl) : OpB X z (binaryOp .Add) dAdd := by
  intro pins s σ H S M ρ x y u w d1 d2 Q0 I sim b1 b2 r1 r2 q
  unfold dAdd at q
  split at q
  · exact op_add pins s σ H x y u w _ I r1 r2 ⟨_, _, b1.int, b2.int, poE_va sim (.int _) q⟩
  · exact op_add_str pins s σ H x y u w _ I r1 r2 ⟨_, _, b1.str, b2.str, line_eq q.1, poE_va sim (.str _) q.2⟩
  · obtain ⟨a, xs, e1, h1, k1⟩ := b1.lst sim.sub
    obtain ⟨b, ys, e2, h2, k2⟩ := b2.lst sim.sub
    exact op_cat pins s σ H x y u w _ I r1 r2 ⟨a, b, xs, ys, e1, e2, h1, h2, by rw [k1.length, k2.length]; exact line_eq q.1, fun p hp => poE_ow sim hp (k1.append k2) q.2⟩
  · obtain ⟨a, xs, e1, h1, k1⟩ := b1.tup
    obtain ⟨b, ys, e2, h2, k2⟩ := b2.tup
    refine op_catA pins s σ H x y u w _ I r1 r2 ⟨a, b, xs, ys, e1, e2, by rw [hK]; exact same_seqT sim.sub h1, by rw [hK]; exact same_seqT sim.sub h2, by rw [k1.length, k2.length]; exact line_eq q.1, fun e => ?_, fun n e => ?_, fun n1 n2 p hp => poE_tup sim hp (k1.append k2) q.2⟩
    · subst e
      have z1 := k1.length
      cases k1
      exact poE_va sim (.tup h2 k2) (by simpa using q.2)
    · subst e
      cases k2
      exact poE_va sim (.tup h1 k1) (by simpa using q.2)
  · exact q.elim
theorem ub_neg : UnB X z (unaryOp .USub) (fun d Q => match d with | .int i => Q (.va (.int (-i))) | _ => False) := by
  intro pins s σ H S M ρ x u d Q0 I sim b r q
  split at q
  · exact un_neg pins s σ H x u _ I r ⟨_, b.int, poE_va sim (.int _) q⟩
  · exact q.elim

/-! ### == -/
mutual
def toPy : D → PyData
  | .non => .none
  | .bl b => .bool b
  | .int i => .int i
  | .str x => .str x
  | .tup xs => .tuple (toPyA xs)
  | .lst xs => .list (toPyA xs)
  | .ref _ => .dict []
  | .ty _ => .dict []
  | .set _ _ => .dict []
  | .dic _ _ => .dict []
  | .obj _ _ _ => .dict []
def toPyA : List D → List PyData
  | [] => []
  | d :: ds => toPy d :: toPyA ds
end
mutual
/-- data without addresses and types -/
def isPure : D → Bool
  | .tup xs => isPureA xs
  | .lst xs => isPureA xs
  | .ref _ => false
  | .ty _ => false
  | .set _ _ => false
  | .dic _ _ => false
  | .obj _ _ _ => false
  | _ => true
def isPureA : List D → Bool
  | [] => true
  | d :: ds => isPure d && isPureA ds
end
mutual
theorem Rp.dp {K : Fg} {S H : Hp} (e : Same S H) : ∀ (d : D) (v : V), isPure d = true → Rp K S v d → Dp K H v (toPy d)
  | .non, _, _, h => by cases h; exact .non
  | .bl b, _, _, h => by cases h; exact .bl b
  | .int i, _, _, h => by cases h; exact .int i
  | .str x, _, _, h => by cases h; exact .str x
  | .ty n, _, p, h => by simp [isPure] at p
  | .set f n, _, p, h => by simp [isPure] at p
  | .dic ks ds, _, p, h => by simp [isPure] at p
  | .obj c fs ds, _, p, h => by simp [isPure] at p
  | .ref a, _, p, h => by simp [isPure] at p
  | .lst ds, _, p, h => by cases h with | lst a b => exact .lst (.of (e _ _ a)) (RpA.dp e ds _ (by simpa [isPure] using p) b)
  | .tup ds, _, p, h => by cases h with | tup a b => exact .tup (same_seqT e a) (RpA.dp e ds _ (by simpa [isPure] using p) b)
theorem RpA.dp {K : Fg} {S H : Hp} (e : Same S H) : ∀ (ds : List D) (vs : List V), isPureA ds = true → RpA K S vs ds → DpAll K H vs (toPyA ds)
  | [], _, _, h => by cases h; exact .nil
  | d :: ds, _, p, h => by
    simp only [isPureA, Bool.and_eq_true] at p
    cases h with | cons a b => exact .cons (Rp.dp e d _ p.1 a) (RpA.dp e ds _ p.2 b)
end
theorem Rb.dp (e : Same S H) {v : V} {d : D} (p : isPure d = true) (h : Rb z.K S M H v d) : Dp z.K H v (toPy d) := by
  rcases h with h | ⟨a, xs, ds, rfl, rfl, h1, h2, _⟩
  · exact Rp.dp e d v p h
  · exact .lst (.of h1) (RpA.dp e ds xs (by simpa [isPure] using p) h2)
/-- may be compared: no address, nested at most 64 deep -/
def cmpOk (d : D) : Bool := isPure d && SeqAt.shaped (toPy d)
def deq (a b : D) : Bool := PyData.eqv (toPy a) (toPy b)
def dEq : OD := fun a b Q => (cmpOk a = true ∧ cmpOk b = true) ∧ Q (.va (.bl (deq a b)))
def dNe : OD := fun a b Q => (cmpOk a = true ∧ cmpOk b = true) ∧ Q (.va (.bl (!deq a b)))
theorem ob_eq (hu : X.A.units + 64 < cLine) (hK : X.K = z.K := by first | assumption | rfl) : OpB X z (compareOp .Eq) dEq :=
  opB_of (op_eqD hu) fun σ H S M ρ x y d1 d2 Q0 sim b1 b2 q => by
    obtain ⟨⟨p1, p2⟩, q⟩ := q
    unfold cmpOk at p1 p2
    rw [Bool.and_eq_true] at p1 p2
    exact ⟨_, _, by rw [hK]; exact b1.dp sim.sub p1.1, by rw [hK]; exact b2.dp sim.sub p2.1, p1.2, p2.2, poE_va sim (.bl _) q⟩
theorem ob_ne (hu : X.A.units + 64 < cLine) (hK : X.K = z.K := by first | assumption | rfl) : OpB X z (compareOp .NotEq) dNe :=
  opB_of (op_neD hu) fun σ H S M ρ x y d1 d2 Q0 sim b1 b2 q => by
    obtain ⟨⟨p1, p2⟩, q⟩ := q
    unfold cmpOk at p1 p2
    rw [Bool.and_eq_true] at p1 p2
    exact ⟨_, _, by rw [hK]; exact b1.dp sim.sub p1.1, by rw [hK]; exact b2.dp sim.sub p2.1, p1.2, p2.2, poE_va sim (.bl _) q⟩
/-- == of ints alone -/
abbrev dEqI : OD := dI2 CT fun i j => .bl (decide (i = j))
abbrev dNeI : OD := dI2 CT fun i j => .bl (!decide (i = j))
theorem ob_eqI : OpB X z (compareOp .Eq) dEqI := opB_of op_eq fun σ H S M ρ x y d1 d2 Q0 sim b1 b2 q => by
  unfold dEqI dI2 at q
  split at q
  · rw [b1.int, b2.int]
    refine ⟨rfl, ?_⟩
    rename_i i j
    have e : decide (V.int i = V.int j) = decide (i = j) := by simp
    rw [e]
    exact poE_va sim (.bl _) q.2
  · exact q.elim
theorem ob_neI : OpB X z (compareOp .NotEq) dNeI := opB_of op_ne fun σ H S M ρ x y d1 d2 Q0 sim b1 b2 q => by
  unfold dNeI dI2 at q
  split at q
  · rw [b1.int, b2.int]
    refine ⟨rfl, ?_⟩
    rename_i i j
    have e : decide (V.int i = V.int j) = decide (i = j) := by simp
    rw [e]
    exact poE_va sim (.bl _) q.2
  · exact q.elim
/-- == of texts alone -/
def dEqS : OD := fun a b Q => match a, b with
  | .str x, .str y => Q (.va (.bl (decide (x = y))))
  | _, _ => False
theorem ob_eqS : OpB X z (compareOp .Eq) dEqS := opB_of op_eq fun σ H S M ρ x y d1 d2 Q0 sim b1 b2 q => by
  unfold dEqS at q
  split at q
  · rw [b1.str, b2.str]
    refine ⟨rfl, ?_⟩
    rename_i i j
    have e : decide (V.str i = V.str j) = decide (i = j) := by simp
    rw [e]
    exact poE_va sim (.bl _) q
  · exact q.elim
def dNeS : OD := fun a b Q => match a, b with
  | .str x, .str y => Q (.va (.bl (!decide (x = y))))
  | _, _ => False
theorem ob_neS : OpB X z (compareOp .NotEq) dNeS := opB_of op_ne fun σ H S M ρ x y d1 d2 Q0 sim b1 b2 q => by
  unfold dNeS at q
  split at q
  · rw [b1.str, b2.str]
    refine ⟨rfl, ?_⟩
    rename_i i j
    have e : decide (V.str i = V.str j) = decide (i = j) := by simp
    rw [e]
    exact poE_va sim (.bl _) q
  · exact q.elim
def isNon : D → Bool
  | .non => true
  | _ => false
theorem Rb.isNon {v : V} {d : D} (h : Rb z.K S M H v d) : decide (v = .non) = PL.isNon d := by
  rcases h with h | ⟨_, _, _, rfl, rfl, _⟩
  · cases h <;> rfl
  · rfl
/-- is None -/
def dIsN : OD := fun a b Q => match b with
  | .non => Q (.va (.bl (isNon a)))
  | _ => False
def dNotN : OD := fun a b Q => match b with
  | .non => Q (.va (.bl (!isNon a)))
  | _ => False
theorem ob_isN : OpB X z (compareOp .Is) dIsN := opB_of op_isN fun σ H S M ρ x y d1 d2 Q0 sim b1 b2 q => by
  unfold dIsN at q
  split at q
  · exact ⟨b2.non, by rw [b1.isNon]; exact poE_va sim (.bl _) q⟩
  · exact q.elim
theorem ob_notN : OpB X z (compareOp .IsNot) dNotN := opB_of op_notN fun σ H S M ρ x y d1 d2 Q0 sim b1 b2 q => by
  unfold dNotN at q
  split at q
  · exact ⟨b2.non, by rw [b1.isNon]; exact poE_va sim (.bl _) q⟩
  · exact q.elim

/-! ### in -/
def dIn (neg : Bool) : OD := fun a b Q => match b with
  | .lst ds => (cmpOk a = true ∧ cmpOk (.lst ds) = true) ∧ Q (.va (.bl (if neg then !(ds.any fun x => deq x a) else ds.any fun x => deq x a)))
  | .tup ds => (cmpOk a = true ∧ cmpOk (.tup ds) = true) ∧ Q (.va (.bl (if neg then !(ds.any fun x => deq x a) else ds.any fun x => deq x a)))
  | _ => False
theorem toPyA_any {p : PyData → Bool} : ∀ ds : List D, (toPyA ds).any p = ds.any fun x => p (toPy x)
  | [] => rfl
  | d :: ds => by rw [toPyA, List.any_cons, List.any_cons, toPyA_any ds]
theorem ob_in (hu : X.A.units + 65 < cLine) (hK : X.K = z.K := by first | assumption | rfl) : OpB X z (compareOp .In) (dIn false) := by
  intro pins s σ H S M ρ x y u w d1 d2 Q0 I sim b1 b2 r1 r2 q
  unfold dIn at q
  split at q
  · rename_i ds
    obtain ⟨⟨p1, p2⟩, q⟩ := q
    unfold cmpOk at p1 p2
    rw [Bool.and_eq_true] at p1 p2
    have k1 : Dp X.K H x (toPy d1) := by rw [hK]; exact b1.dp sim.sub p1.1
    have k2 : Dp X.K H y (toPy (.lst ds)) := by rw [hK]; exact b2.dp sim.sub p2.1
    obtain ⟨as, q1⟩ := Dp.reads I _ _ _ k1 r1
    obtain ⟨bs, q2⟩ := Dp.reads I _ _ _ k2 r2
    rw [toPy] at q2 p2
    refine SeqAt.in_list_reads q2 q1 (SeqAt.canLay_of_shaped p2.2) (SeqAt.canLay_of_shaped p1.2) (room_in_shaped p1.2 hu) ⟨.bl _, H, I, rfl, ?_⟩
    have e := toPyA_any (p := fun zz => PyData.eqv zz (toPy d1)) ds
    rw [e]
    exact poE_va sim (.bl _) q
  · rename_i ds
    obtain ⟨⟨p1, p2⟩, q⟩ := q
    unfold cmpOk at p1 p2
    rw [Bool.and_eq_true] at p1 p2
    have k1 : Dp X.K H x (toPy d1) := by rw [hK]; exact b1.dp sim.sub p1.1
    have k2 : Dp X.K H y (toPy (.tup ds)) := by rw [hK]; exact b2.dp sim.sub p2.1
    obtain ⟨as, q1⟩ := Dp.reads I _ _ _ k1 r1
    obtain ⟨bs, q2⟩ := Dp.reads I _ _ _ k2 r2
    rw [toPy] at q2 p2
    refine SeqAt.in_tuple_reads q2 q1 (SeqAt.canLay_of_shaped p2.2) (SeqAt.canLay_of_shaped p1.2) (room_in_shaped p1.2 hu) ⟨.bl _, H, I, rfl, ?_⟩
    have e := toPyA_any (p := fun zz => PyData.eqv zz (toPy d1)) ds
    rw [e]
    exact poE_va sim (.bl _) q
  · exact q.elim
theorem ob_notIn (hu : X.A.units + 65 < cLine) (hK : X.K = z.K := by first | assumption | rfl) : OpB X z (compareOp .NotIn) (dIn true) := by
  intro pins s σ H S M ρ x y u w d1 d2 Q0 I sim b1 b2 r1 r2 q
  unfold dIn at q
  split at q
  · rename_i ds
    obtain ⟨⟨p1, p2⟩, q⟩ := q
    unfold cmpOk at p1 p2
    rw [Bool.and_eq_true] at p1 p2
    have k1 : Dp X.K H x (toPy d1) := by rw [hK]; exact b1.dp sim.sub p1.1
    have k2 : Dp X.K H y (toPy (.lst ds)) := by rw [hK]; exact b2.dp sim.sub p2.1
    obtain ⟨as, q1⟩ := Dp.reads I _ _ _ k1 r1
    obtain ⟨bs, q2⟩ := Dp.reads I _ _ _ k2 r2
    rw [toPy] at q2 p2
    refine SeqAt.notIn_list_reads q2 q1 (SeqAt.canLay_of_shaped p2.2) (SeqAt.canLay_of_shaped p1.2) (room_in_shaped p1.2 hu) ⟨.bl _, H, I, rfl, ?_⟩
    have e := toPyA_any (p := fun zz => PyData.eqv zz (toPy d1)) ds
    rw [e]
    exact poE_va sim (.bl _) q
  · rename_i ds
    obtain ⟨⟨p1, p2⟩, q⟩ := q
    unfold cmpOk at p1 p2
    rw [Bool.and_eq_true] at p1 p2
    have k1 : Dp X.K H x (toPy d1) := by rw [hK]; exact b1.dp sim.sub p1.1
    have k2 : Dp X.K H y (toPy (.tup ds)) := by rw [hK]; exact b2.dp sim.sub p2.1
    obtain ⟨as, q1⟩ := Dp.reads I _ _ _ k1 r1
    obtain ⟨bs, q2⟩ := Dp.reads I _ _ _ k2 r2
    rw [toPy] at q2 p2
    refine SeqAt.notIn_tuple_reads q2 q1 (SeqAt.canLay_of_shaped p2.2) (SeqAt.canLay_of_shaped p1.2) (room_in_shaped p1.2 hu) ⟨.bl _, H, I, rfl, ?_⟩
    have e := toPyA_any (p := fun zz => PyData.eqv zz (toPy d1)) ds
    rw [e]
    exact poE_va sim (.bl _) q
  · exact q.elim
end
end PL
namespace PL
open PySem PySem.Spec PyProof.Rows L2

/-! ### items, slices -/
def dIx : OD := fun a b Q => match a, b with
  | .lst ds, .int i => (match atI ds i with | some d => Q (.va d) | none => False)
  | .tup ds, .int i => (match atI ds i with | some d => Q (.va d) | none => False)
  | .str x, .int i => x.length ≤ 16777216 ∧ (match atI x.cps.toList i with | some c => Q (.va (.str ⟨#[c]⟩)) | none => False)
  | _, _ => False
section
variable {X : Cx} {z : Z} {S : Hp} {M : Mu} {H : Hp} {a b e : Expr} {pos : Pos} {qa qb : QB}
theorem atI_rp {K : Fg} {xs : List V} {ds : List D} {i : Int} {d : D} (r : RpA K S xs ds) (h : atI ds i = some d) : ∃ v, atI xs i = some v ∧ Rp K S v d := by
  unfold atI at h ⊢
  rw [r.length]
  cases e : ixN ds.length i with
  | none => rw [e] at h; cases h
  | some j =>
    rw [e] at h
    exact r.get (show ds[j]? = some d from h)
theorem qe_ix (ha : PE X a (liB z qa)) (hb : PE X b (liB z qb)) (hs : PlainIx b := by exact fun _ _ => rfl) (hK : X.K = z.K := by first | assumption | rfl) : PE X (.Subscript a b pos) (liE z (eBin dIx qa qb)) := by
  refine ⟨fun pins s σ H Q I h => ?_⟩
  refine Subscript_ (binT ha hb I (bin_lift h) fun v u s2 x y H2 I2 rx ry ⟨S, M, ρ, d1, d2, Q0, sim, b1, b2, o, post⟩ => ?_)
  refine thn (ix_seq a b pins s2 σ H2 x y v u (PoE z S M σ H2 fun r ρ' M' => ρ' = ρ ∧ M' = M ∧ Q0 r) I2 rx ry ?_ (hs _ _)) fun w s3 ⟨y, H3, I3, r3, p3⟩ => ⟨y, H3, I3, r3, post _ _ p3⟩
  unfold dIx at o
  split at o
  · split at o
    · rename_i e
      obtain ⟨p, xs, e1, h1, k1⟩ := b1.lst sim.sub
      obtain ⟨v, e2, rv⟩ := atI_rp k1 e
      exact .inl ⟨p, xs, _, v, e1, b2.int, .of h1, e2, poE_va sim rv o⟩
    · exact o.elim
  · split at o
    · rename_i e
      obtain ⟨p, xs, e1, h1, k1⟩ := b1.tup
      obtain ⟨v, e2, rv⟩ := atI_rp k1 e
      exact .inr (.inl ⟨p, xs, _, v, e1, b2.int, by rw [hK]; exact same_seqT sim.sub h1, e2, poE_va sim rv o⟩)
    · exact o.elim
  · obtain ⟨hl, o⟩ := o
    split at o
    · rename_i e
      exact .inr (.inr ⟨_, _, _, b1.str, b2.int, line_eq hl, e, poE_va sim (.str _) o⟩)
    · exact o.elim
  · exact o.elim

abbrev QO := Ev → Mu → (Option Int → Ev → Mu → Prop) → Prop
def oNone : QO := fun ρ M Q => Q none ρ M
def oSome (q : QB) : QO := fun ρ M Q => q ρ M fun d ρ' M' => match d with | .int i => Q (some i) ρ' M' | _ => False
def liO (z : Z) (q : QO) : TO := fun σ H Q => ∃ S M ρ Q0, Sim z S M ρ σ H ∧ q ρ M Q0 ∧ ∀ o H', (∃ ρ' M' S', Q0 o ρ' M' ∧ Step S M H S' M' H' ∧ Sim z S' M' ρ' σ H') → Q o H'
theorem po_w {X : Cx} {e : Option Expr} {t t' : TO} (h : PO X e t) (w : ∀ σ H Q, t' σ H Q → t σ H Q) : PO X e t' := ⟨fun pins s σ H Q I hq => h.run pins s σ H Q I (w σ H Q hq)⟩
theorem qo_none : PO X none (liO z oNone) := po_w po_none fun σ H Q ⟨S, M, ρ, Q0, sim, h, post⟩ => post none H ⟨ρ, M, S, h, .refl, sim⟩
theorem qo_some (h : PE X e (liB z qa)) : PO X (some e) (liO z (oSome qa)) := po_w (po_some h) fun σ H Q ⟨S, M, ρ, Q0, sim, h, post⟩ =>
  ⟨S, M, ρ, _, sim, h, fun v H' ⟨d, ρ', M', S', q, st, sim', rb⟩ => by
    dsimp only at q
    split at q
    · exact ⟨_, rb.int, post _ H' ⟨ρ', M', S', q, st, sim'⟩⟩
    · exact q.elim⟩
/-- the items of xs[lo:hi] -/
def cutL {α : Type} (xs : List α) (lo hi : Option Int) : List α := (xs.drop (HT.sIx xs.length 0 lo)).take (HT.sIx xs.length xs.length hi - HT.sIx xs.length 0 lo)
theorem cutL_rp {K : Fg} {xs : List V} {ds : List D} {lo hi : Option Int} (r : RpA K S xs ds) : RpA K S (cutV xs lo hi) (cutL ds lo hi) := by
  unfold cutV cutL
  rw [r.length]
  exact (r.drop _).take _
def eSl (qa : QB) (ql qh : QO) : QE := fun ρ M Q => qa ρ M fun d ρ1 M1 => ql ρ1 M1 fun lo ρ2 M2 => qh ρ2 M2 fun hi ρ3 M3 => match d with
  | .lst ds => Q (.ow (.lst (cutL ds lo hi))) ρ3 M3
  | .tup ds => Q (.va (.tup (cutL ds lo hi))) ρ3 M3
  | .str x => x.length ≤ 16777216 ∧ Q (.va (.str (cutS x lo hi))) ρ3 M3
  | _ => False
theorem cutL_whole {α : Type} {xs : List α} {lo hi : Option Int} (h : HT.sIx xs.length 0 lo = 0 ∧ HT.sIx xs.length xs.length hi = xs.length) : cutL xs lo hi = xs := by
  unfold cutL
  rw [h.1, h.2]
  simp
theorem qe_slice {lo hi : Option Expr} {ql qh : QO} {p2 : Pos} (ha : PE X a (liB z qa)) (hl : PO X lo (liO z ql)) (hu : PO X hi (liO z qh)) (hK : X.K = z.K := by first | assumption | rfl) : PE X (.Subscript a (.Slice lo hi none p2) pos) (liE z (eSl qa ql qh)) := by
  have hr : SlR X (fun x l h H Q => rSlL X.K x l h H Q ∨ rSlA X.K x l h H Q ∨ rSlS x l h H Q) := sl_list.or (sl_tupA.or sl_str)
  refine pe_w (pe_slice hr ha hl hu) fun σ H Q ⟨S, M, ρ, Q0, sim, h, post⟩ => ⟨S, M, ρ, _, sim, h, fun v H1 ⟨d, ρ1, M1, S1, q1, st1, sim1, rb⟩ => ⟨S1, M1, ρ1, _, sim1, q1, fun l H2 ⟨ρ2, M2, S2, q2, st2, sim2⟩ => ⟨S2, M2, ρ2, _, sim2, q2, fun u H3 ⟨ρ3, M3, S3, q3, st3, sim3⟩ => ?_⟩⟩⟩
  have rb3 := (rb.step st2).step st3
  have st := (st1.trans st2).trans st3
  have fin : ∀ {v : V} {H' : Hp} {r0 : Sl}, Q0 r0 ρ3 M3 → PoE z S3 M3 σ H3 (fun r ρ' M' => ρ' = ρ3 ∧ M' = M3 ∧ r = r0) v H' → Q v H' := fun {v H' r0} q ⟨r, ρ4, M4, S4, ⟨e1, e2, e3⟩, st4, sim4, res4⟩ => by
    subst e1 e2 e3
    exact post v H' ⟨_, _, _, S4, q, st.trans st4, sim4, res4⟩
  split at q3
  · obtain ⟨p, xs, e1, h1, k1⟩ := rb3.lst sim3.sub
    exact .inl ⟨p, xs, e1, .of h1, fun p' hp => fin q3 (poE_ow sim3 hp (cutL_rp k1) rfl)⟩
  · obtain ⟨p, xs, e1, h1, k1⟩ := rb3.tup
    refine .inr (.inl ⟨p, xs, e1, by rw [hK]; exact same_seqT sim3.sub h1, fun w => ?_, fun w p' hp => fin q3 (poE_tup sim3 hp (cutL_rp k1) rfl)⟩)
    rw [k1.length] at w
    rw [cutL_whole w] at q3
    exact fin q3 (poE_va sim3 (.tup h1 k1) rfl)
  · exact .inr (.inr ⟨_, rb3.str, line_eq q3.1, fin q3.2 (poE_va sim3 (.str _) rfl)⟩)
  · exact q3.elim
theorem cutL_from {α : Type} (xs : List α) (k : Nat) : cutL xs (some (k : Int)) none = xs.drop k := by
  unfold cutL
  rw [HT.sIx_nat, HT.sIx_none]
  by_cases h : k ≤ xs.length
  · rw [Nat.min_eq_left h, ← List.length_drop, List.take_length]
  · rw [Nat.min_eq_right (by omega)]
    rw [List.drop_of_length_le (by omega : xs.length ≤ xs.length), List.drop_of_length_le (by omega : xs.length ≤ k)]
    simp
theorem cutL_upto {α : Type} (xs : List α) (k : Nat) : cutL xs none (some (k : Int)) = xs.take k := by
  unfold cutL
  rw [HT.sIx_nat, HT.sIx_none]
  simp only [List.drop_zero, Nat.sub_zero]
  by_cases h : k ≤ xs.length
  · rw [Nat.min_eq_left h]
  · rw [Nat.min_eq_right (by omega), List.take_of_length_le (Nat.le_refl _), List.take_of_length_le (by omega)]

/-! ### built-in functions -/
abbrev CD := List D → (Sl → Prop) → Prop
def CallB (X : Cx) (z : Z) (f : Value) (cd : CD) : Prop :=
  ∀ (pins : List (Addr × Obj)) (s : Shared) (σ : St) (H S : Hp) (M : Mu) (ρ : Ev) (xs : List V) (us : List Value) (ds : List D) (Q0 : Sl → Prop), Inv X pins σ H s → Sim z S M ρ σ H → RbA z.K S M H xs ds → Vals xs us → cd ds Q0 →
    wpAny (model X.prog X.w) X.A (call f us) (EP X pins σ (PoE z S M σ H fun r ρ' M' => ρ' = ρ ∧ M' = M ∧ Q0 r)) X.xe s
def eB (cd : CD) (qr : QA) : QE := fun ρ M Q => qr ρ M fun ds ρ1 M1 => cd ds fun r => Q r ρ1 M1
variable {x : Str} {p : Pos} {es : List Expr} {qr : QA} {cd : CD} {bid T : String}
theorem callB_lift {σ : St} {Q : VK} (h : liE z (eB cd qr) σ H Q) : liAB z qr σ H fun vs H1 => ∃ S M ρ ds Q0, Sim z S M ρ σ H1 ∧ RbA z.K S M H1 vs ds ∧ cd ds Q0 ∧ ∀ v H', PoE z S M σ H1 (fun r ρ' M' => ρ' = ρ ∧ M' = M ∧ Q0 r) v H' → Q v H' := by
  obtain ⟨S, M, ρ, Q0, sim, h, post⟩ := h
  refine ⟨S, M, ρ, _, sim, h, fun vs H1 ⟨ds, ρ1, M1, S1, q1, st1, sim1, rb⟩ => ⟨S1, M1, ρ1, ds, _, sim1, rb, q1, fun v H' ⟨r, ρ', M', S', ⟨e1, e2, q⟩, st, sim', res⟩ => post v H' ⟨r, ρ', M', S', ?_, st1.trans st, sim', res⟩⟩⟩
  subst e1 e2
  exact q
theorem qe_callB (hc : CallB X z (.builtin bid) cd) (hg : Gl X x) (hm : X.mg x = none) (hv : bootBuiltins x = some (.builtin bid)) (ha : PA X (e :: es) (liAB z qr)) (hn : x ≠ "__name__" := by decide) (hdb : (x == ("__debug__" : Str)) = false := by decide)
    (he : starEach (e :: es) X.env = (false, eval e X.env) :: starEach es X.env := by rfl) (hpl : (backTo pos (starEach es X.env)).any (·.1) = false := by rfl) : PE X (.Call (.Name x p) (e :: es) [] pos) (liE z (eB cd qr)) := by
  refine ⟨fun pins s σ H Q I h => ?_⟩
  refine wpAny_Call_Name_kw (ld_blt I hg hm hv ?_ hn hdb)
  refine PyProof.Rows.callWith_builtin1 (thn (ha.run pos pins s σ H _ I (callB_lift h)) fun us s1 ⟨vs, H1, I1, r1, ⟨S, M, ρ, ds, Q0, sim, rb, c, post⟩⟩ => ?_) he hpl
  exact thn (hc pins s1 σ H1 S M ρ vs us ds Q0 I1 sim rb r1 c) fun w s3 ⟨y, H3, I3, r3, p3⟩ => ⟨y, H3, I3, r3, post _ _ p3⟩
theorem qe_callTy (hc : CallB X z (.type T) cd) (hg : Gl X x) (hm : X.mg x = none) (hv : bootBuiltins x = some (.type T)) (ha : PA X (e :: es) (liAB z qr)) (hn : x ≠ "__name__" := by decide) (hdb : (x == ("__debug__" : Str)) = false := by decide)
    (he : starEach (e :: es) X.env = (false, eval e X.env) :: starEach es X.env := by rfl) (hpl : (backTo pos (starEach es X.env)).any (·.1) = false := by rfl) : PE X (.Call (.Name x p) (e :: es) [] pos) (liE z (eB cd qr)) := by
  refine ⟨fun pins s σ H Q I h => ?_⟩
  refine wpAny_Call_Name_kw (ld_blt I hg hm hv ?_ hn hdb)
  refine PyProof.Rows.callWith_type1 (thn (ha.run pos pins s σ H _ I (callB_lift h)) fun us s1 ⟨vs, H1, I1, r1, ⟨S, M, ρ, ds, Q0, sim, rb, c, post⟩⟩ => ?_) he hpl
  exact thn (hc pins s1 σ H1 S M ρ vs us ds Q0 I1 sim rb r1 c) fun w s3 ⟨y, H3, I3, r3, p3⟩ => ⟨y, H3, I3, r3, post _ _ p3⟩
/-- a name that the module has imported: gcd, lcm -/
theorem qe_callF (hc : CallB X z (.builtin bid) cd) (hg : Gl X x) (hm : X.mg x = some (.builtin bid)) (ha : PA X (e :: es) (liAB z qr)) (hdb : (x == ("__debug__" : Str)) = false := by decide)
    (he : starEach (e :: es) X.env = (false, eval e X.env) :: starEach es X.env := by rfl) (hpl : (backTo pos (starEach es X.env)).any (·.1) = false := by rfl) : PE X (.Call (.Name x p) (e :: es) [] pos) (liE z (eB cd qr)) := by
  refine ⟨fun pins s σ H Q I h => ?_⟩
  refine wpAny_Call_Name_kw (ld_glob I hg hm ?_ hdb)
  refine PyProof.Rows.callWith_builtin1 (thn (ha.run pos pins s σ H _ I (callB_lift h)) fun us s1 ⟨vs, H1, I1, r1, ⟨S, M, ρ, ds, Q0, sim, rb, c, post⟩⟩ => ?_) he hpl
  exact thn (hc pins s1 σ H1 S M ρ vs us ds Q0 I1 sim rb r1 c) fun w s3 ⟨y, H3, I3, r3, p3⟩ => ⟨y, H3, I3, r3, post _ _ p3⟩
theorem callB_of {f : Value} {r : List V → Hp → VK → Prop} (h : CallR X f r)
    (k : ∀ (σ : St) (H S : Hp) (M : Mu) (ρ : Ev) (xs : List V) (ds : List D) (Q0 : Sl → Prop), Sim z S M ρ σ H → RbA z.K S M H xs ds → cd ds Q0 → r xs H (PoE z S M σ H fun r ρ' M' => ρ' = ρ ∧ M' = M ∧ Q0 r)) : CallB X z f cd :=
  fun pins s σ H S M ρ xs us ds Q0 I sim rb rv q => h pins s σ H xs us _ I rv (k σ H S M ρ xs ds Q0 sim rb q)
/-- len -/
def cLen : CD := fun ds Q => match ds with
  | [.lst xs] => Q (.va (.int xs.length))
  | [.tup xs] => Q (.va (.int xs.length))
  | [.str x] => x.length ≤ 16777216 ∧ Q (.va (.int x.length))
  | _ => False
theorem cb_len (hK : X.K = z.K := by first | assumption | rfl) : CallB X z (.builtin "len") cLen := callB_of call_len fun σ H S M ρ xs ds Q0 sim rb q => by
  unfold cLen at q
  split at q
  · cases rb with
    | cons r1 rr =>
      cases rr
      obtain ⟨a, xs, rfl, h1, k1⟩ := r1.lst sim.sub
      exact ⟨_, xs.length, rfl, .inl ⟨xs, .of h1, rfl⟩, by rw [k1.length]; exact poE_va sim (.int _) q⟩
  · cases rb with
    | cons r1 rr =>
      cases rr
      obtain ⟨a, xs, rfl, h1, k1⟩ := r1.tup
      exact ⟨_, xs.length, rfl, .inr ⟨xs, by rw [hK]; exact same_seqT sim.sub h1, rfl⟩, by rw [k1.length]; exact poE_va sim (.int _) q⟩
  · cases rb with
    | cons r1 rr =>
      cases rr
      obtain rfl := r1.str
      exact ⟨_, _, rfl, ⟨line_eq q.1, rfl⟩, poE_va sim (.int _) q.2⟩
  · exact q.elim
/-- int -/
def cInt : CD := fun ds Q => match ds with
  | [.int i] => Q (.va (.int i))
  | [.bl b] => Q (.va (.int (if b then 1 else 0)))
  | _ => False
theorem cb_int : CallB X z (.type "int") cInt := callB_of call_int1 fun σ H S M ρ xs ds Q0 sim rb q => by
  unfold cInt at q
  split at q
  · cases rb with | cons r1 rr => cases rr; exact .inl ⟨_, by rw [r1.int], poE_va sim (.int _) q⟩
  · cases rb with | cons r1 rr => cases rr; exact .inr ⟨_, by rw [r1.bl], poE_va sim (.int _) q⟩
  · exact q.elim
def cAbs : CD := fun ds Q => match ds with
  | [.int i] => Q (.va (.int (if i < 0 then -i else i)))
  | _ => False
theorem cb_abs : CallB X z (.builtin "abs") cAbs := callB_of call_abs fun σ H S M ρ xs ds Q0 sim rb q => by
  unfold cAbs at q
  split at q
  · cases rb with | cons r1 rr => cases rr; exact ⟨_, by rw [r1.int], poE_va sim (.int _) q⟩
  · exact q.elim
def cMax2 : CD := fun ds Q => match ds with
  | [.int i, .int j] => Q (.va (.int (if j > i then j else i)))
  | _ => False
theorem cb_max2 (hc : X.calm = true) : CallB X z (.builtin "max") cMax2 := callB_of (call_max2 hc) fun σ H S M ρ xs ds Q0 sim rb q => by
  unfold cMax2 at q
  split at q
  · cases rb with | cons r1 rr => cases rr with | cons r2 rr => cases rr; exact ⟨_, _, by rw [r1.int, r2.int], poE_va sim (.int _) q⟩
  · exact q.elim
def cMin2 : CD := fun ds Q => match ds with
  | [.int i, .int j] => Q (.va (.int (if j < i then j else i)))
  | _ => False
theorem cb_min2 (hc : X.calm = true) : CallB X z (.builtin "min") cMin2 := callB_of (call_min2 hc) fun σ H S M ρ xs ds Q0 sim rb q => by
  unfold cMin2 at q
  split at q
  · cases rb with | cons r1 rr => cases rr with | cons r2 rr => cases rr; exact ⟨_, _, by rw [r1.int, r2.int], poE_va sim (.int _) q⟩
  · exact q.elim
/-- divmod -/
def cDivmod : CD := fun ds Q => match ds with
  | [.int i, .int j] => CDivS i j ∧ Q (.va (.tup [.int (i / j), .int (i % j)]))
  | _ => False
theorem cb_divmod : CallB X z (.builtin "divmod") cDivmod := callB_of call_divmod fun σ H S M ρ xs ds Q0 sim rb q => by
  unfold cDivmod at q
  split at q
  · cases rb with
    | cons r1 rr =>
      cases rr with
      | cons r2 rr =>
        cases rr
        exact ⟨_, _, by rw [r1.int, r2.int], q.1, fun p hp => poE_tup sim hp (.cons (.int _) (.cons (.int _) .nil)) q.2⟩
  · exact q.elim
/-- list, tuple of a list or a tuple -/
def cList : CD := fun ds Q => match ds with
  | [.lst xs] => Q (.ow (.lst xs))
  | [.tup xs] => Q (.ow (.lst xs))
  | _ => False
theorem cb_list (hK : X.K = z.K := by first | assumption | rfl) : CallB X z (.type "list") cList := callB_of call_list_of fun σ H S M ρ xs ds Q0 sim rb q => by
  unfold cList at q
  split at q
  · cases rb with
    | cons r1 rr =>
      cases rr
      obtain ⟨a, xs, rfl, h1, k1⟩ := r1.lst sim.sub
      exact ⟨a, xs, rfl, .inl (.of h1), fun p hp => poE_ow sim hp k1 q⟩
  · cases rb with
    | cons r1 rr =>
      cases rr
      obtain ⟨a, xs, rfl, h1, k1⟩ := r1.tup
      exact ⟨a, xs, rfl, .inr (by rw [hK]; exact same_seqT sim.sub h1), fun p hp => poE_ow sim hp k1 q⟩
  · exact q.elim
def cTuple : CD := fun ds Q => match ds with
  | [.lst xs] => Q (.va (.tup xs))
  | [.tup xs] => Q (.va (.tup xs))
  | _ => False
theorem cb_tuple (hK : X.K = z.K := by first | assumption | rfl) : CallB X z (.type "tuple") cTuple := callB_of call_tuple_of fun σ H S M ρ xs ds Q0 sim rb q => by
  unfold cTuple at q
  split at q
  · cases rb with
    | cons r1 rr =>
      cases rr
      obtain ⟨a, xs, rfl, h1, k1⟩ := r1.lst sim.sub
      exact ⟨a, xs, rfl, .inl ⟨.of h1, fun p hp => poE_tup sim hp k1 q⟩⟩
  · cases rb with
    | cons r1 rr =>
      cases rr
      obtain ⟨a, xs, rfl, h1, k1⟩ := r1.tup
      exact ⟨a, xs, rfl, .inr ⟨by rw [hK]; exact same_seqT sim.sub h1, poE_va sim (.tup h1 k1) q⟩⟩
  · exact q.elim
/-- lists of intsOf, of boolsOf -/
def intsOf : List D → Option (List Int)
  | [] => some []
  | .int i :: r => (intsOf r).map (i :: ·)
  | _ => none
theorem intsOf_map : ∀ ns : List Int, intsOf (ns.map D.int) = some ns
  | [] => rfl
  | n :: ns => by rw [List.map_cons, intsOf, intsOf_map ns]; rfl
theorem intsOf_eq : ∀ {ds : List D} {ns : List Int}, intsOf ds = some ns → ds = ns.map D.int
  | [], ns, h => by rw [intsOf] at h; cases h; rfl
  | .int i :: r, ns, h => by
    rw [intsOf] at h
    cases e : intsOf r with
    | none => rw [e] at h; cases h
    | some ms => rw [e] at h; cases h; rw [intsOf_eq e]; rfl
  | .non :: _, _, h => by cases h
  | .bl _ :: _, _, h => by cases h
  | .str _ :: _, _, h => by cases h
  | .tup _ :: _, _, h => by cases h
  | .lst _ :: _, _, h => by cases h
  | .ref _ :: _, _, h => by cases h
  | .ty _ :: _, _, h => by cases h
  | .set _ _ :: _, _, h => by cases h
  | .dic _ _ :: _, _, h => by cases h
  | .obj _ _ _ :: _, _, h => by cases h
def boolsOf : List D → Option (List Bool)
  | [] => some []
  | .bl i :: r => (boolsOf r).map (i :: ·)
  | _ => none
theorem boolsOf_map : ∀ ns : List Bool, boolsOf (ns.map D.bl) = some ns
  | [] => rfl
  | n :: ns => by rw [List.map_cons, boolsOf, boolsOf_map ns]; rfl
theorem boolsOf_eq : ∀ {ds : List D} {ns : List Bool}, boolsOf ds = some ns → ds = ns.map D.bl
  | [], ns, h => by rw [boolsOf] at h; cases h; rfl
  | .bl i :: r, ns, h => by
    rw [boolsOf] at h
    cases e : boolsOf r with
    | none => rw [e] at h; cases h
    | some ms => rw [e] at h; cases h; rw [boolsOf_eq e]; rfl
  | .non :: _, _, h => by cases h
  | .int _ :: _, _, h => by cases h
  | .str _ :: _, _, h => by cases h
  | .tup _ :: _, _, h => by cases h
  | .lst _ :: _, _, h => by cases h
  | .ref _ :: _, _, h => by cases h
  | .ty _ :: _, _, h => by cases h
  | .set _ _ :: _, _, h => by cases h
  | .dic _ _ :: _, _, h => by cases h
  | .obj _ _ _ :: _, _, h => by cases h
def cSum : CD := fun ds Q => match ds with
  | [.lst xs] => (match intsOf xs with | some ns => Q (.va (.int ns.sum)) | none => False)
  | _ => False
theorem cb_sum (hc : X.calm = true) : CallB X z (.builtin "sum") cSum := callB_of (cr_sum hc) fun σ H S M ρ xs ds Q0 sim rb q => by
  unfold cSum at q
  split at q
  · split at q
    · rename_i e
      cases rb with
      | cons r1 rr =>
        cases rr
        obtain ⟨a, xs, rfl, h1, k1⟩ := r1.lst sim.sub
        rw [intsOf_eq e] at k1
        rw [k1.intsV] at h1
        exact ⟨a, _, rfl, .of h1, poE_va sim (.int _) q⟩
    · exact q.elim
  · exact q.elim
def cMax : CD := fun ds Q => match ds with
  | [.lst xs] => (match intsOf xs with | some ns => 0 < ns.length ∧ ∀ m, m ∈ ns → (∀ y, y ∈ ns → y ≤ m) → Q (.va (.int m)) | none => False)
  | _ => False
theorem cb_max (hc : X.calm = true) : CallB X z (.builtin "max") cMax := callB_of (cr_max hc) fun σ H S M ρ xs ds Q0 sim rb q => by
  unfold cMax at q
  split at q
  · split at q
    · rename_i e
      cases rb with
      | cons r1 rr =>
        cases rr
        obtain ⟨a, xs, rfl, h1, k1⟩ := r1.lst sim.sub
        rw [intsOf_eq e] at k1
        rw [k1.intsV] at h1
        exact ⟨a, _, rfl, .of h1, q.1, fun m hm hl => poE_va sim (.int _) (q.2 m hm hl)⟩
    · exact q.elim
  · exact q.elim
def cMin : CD := fun ds Q => match ds with
  | [.lst xs] => (match intsOf xs with | some ns => 0 < ns.length ∧ ∀ m, m ∈ ns → (∀ y, y ∈ ns → m ≤ y) → Q (.va (.int m)) | none => False)
  | _ => False
theorem cb_min (hc : X.calm = true) : CallB X z (.builtin "min") cMin := callB_of (cr_min hc) fun σ H S M ρ xs ds Q0 sim rb q => by
  unfold cMin at q
  split at q
  · split at q
    · rename_i e
      cases rb with
      | cons r1 rr =>
        cases rr
        obtain ⟨a, xs, rfl, h1, k1⟩ := r1.lst sim.sub
        rw [intsOf_eq e] at k1
        rw [k1.intsV] at h1
        exact ⟨a, _, rfl, .of h1, q.1, fun m hm hl => poE_va sim (.int _) (q.2 m hm hl)⟩
    · exact q.elim
  · exact q.elim
def cAll : CD := fun ds Q => match ds with
  | [.lst xs] => (match boolsOf xs with | some bs => Q (.va (.bl (bs.all id))) | none => False)
  | _ => False
theorem cb_all (hc : X.calm = true) : CallB X z (.builtin "all") cAll := callB_of (cr_all hc) fun σ H S M ρ xs ds Q0 sim rb q => by
  unfold cAll at q
  split at q
  · split at q
    · rename_i e
      cases rb with
      | cons r1 rr =>
        cases rr
        obtain ⟨a, xs, rfl, h1, k1⟩ := r1.lst sim.sub
        rw [boolsOf_eq e] at k1
        rw [k1.blsV] at h1
        exact ⟨a, _, rfl, .of h1, poE_va sim (.bl _) q⟩
    · exact q.elim
  · exact q.elim
def cAny : CD := fun ds Q => match ds with
  | [.lst xs] => (match boolsOf xs with | some bs => Q (.va (.bl (bs.any id))) | none => False)
  | _ => False
theorem cb_any (hc : X.calm = true) : CallB X z (.builtin "any") cAny := callB_of (cr_any hc) fun σ H S M ρ xs ds Q0 sim rb q => by
  unfold cAny at q
  split at q
  · split at q
    · rename_i e
      cases rb with
      | cons r1 rr =>
        cases rr
        obtain ⟨a, xs, rfl, h1, k1⟩ := r1.lst sim.sub
        rw [boolsOf_eq e] at k1
        rw [k1.blsV] at h1
        exact ⟨a, _, rfl, .of h1, poE_va sim (.bl _) q⟩
    · exact q.elim
  · exact q.elim
/-- sorted of intsOf -/
def cSorted : CD := fun ds Q => match ds with
  | [.lst xs] => (match intsOf xs with | some ns => ∀ ms : List Int, ms.Perm ns → ms.Pairwise (· ≤ ·) → Q (.ow (.lst (ms.map D.int))) | none => False)
  | _ => False
theorem cb_sorted : CallB X z (.builtin "sorted") cSorted := callB_of cr_sortedI fun σ H S M ρ xs ds Q0 sim rb q => by
  unfold cSorted at q
  split at q
  · split at q
    · rename_i e
      cases rb with
      | cons r1 rr =>
        cases rr
        obtain ⟨a, xs, rfl, h1, k1⟩ := r1.lst sim.sub
        rw [intsOf_eq e] at k1
        rw [k1.intsV] at h1
        exact ⟨a, _, rfl, .of h1, fun ms p hp hs hn => poE_ow sim hn .ints (q ms hp hs)⟩
    · exact q.elim
  · exact q.elim
/-- gcd, lcm -/
def cGcd : CD := fun ds Q => match ds with
  | [.int i, .int j] => Q (.va (.int ((Nat.gcd i.natAbs j.natAbs : Nat) : Int)))
  | _ => False
theorem cb_gcd : CallB X z (.builtin "math.gcd") cGcd := callB_of cr_gcd fun σ H S M ρ xs ds Q0 sim rb q => by
  unfold cGcd at q
  split at q
  · cases rb with | cons r1 rr => cases rr with | cons r2 rr => cases rr; exact ⟨_, _, by rw [r1.int, r2.int], poE_va sim (.int _) q⟩
  · exact q.elim
theorem lcm_log {a b : Nat} (ha : a < 2 ^ 64) (hb : b < 2 ^ 64) : (Nat.lcm a b).log2 < bitsLine := by
  have h1 : Nat.lcm a b ≤ a * b := Nat.div_le_self _ _
  have h2 : a * b < 2 ^ 128 := by
    have : a * b ≤ (2 ^ 64 - 1) * (2 ^ 64 - 1) := Nat.mul_le_mul (by omega) (by omega)
    have e : (2 ^ 64 - 1) * (2 ^ 64 - 1) < (2 : Nat) ^ 128 := by decide
    omega
  have e : bitsLine = 134217728 := by decide
  by_cases h0 : Nat.lcm a b = 0
  · rw [h0, e, Nat.log2_zero]; decide
  · have h3 : (Nat.lcm a b).log2 < 128 := (Nat.log2_lt h0).mpr (by omega)
    rw [e]
    omega
def cLcm : CD := fun ds Q => match ds with
  | [.int i, .int j] => (-1000000000000000000 < i ∧ i < 1000000000000000000 ∧ -1000000000000000000 < j ∧ j < 1000000000000000000) ∧ Q (.va (.int ((Nat.lcm i.natAbs j.natAbs : Nat) : Int)))
  | _ => False
theorem cb_lcm : CallB X z (.builtin "math.lcm") cLcm := by
  intro pins s σ H S M ρ xs us ds Q0 I sim rb rv q
  unfold cLcm at q
  split at q
  · cases rb with
    | cons r1 rr =>
      cases rr with
      | cons r2 rr =>
        cases rr
        rw [r1.int, r2.int] at rv
        obtain ⟨t, u, rfl⟩ := Vals.int2 rv
        obtain ⟨⟨h1, h2, h3, h4⟩, q⟩ := q
        have e64 : (2 : Nat) ^ 64 = 18446744073709551616 := by decide
        refine PySem.W.mg_lcm (by rw [e64]; omega) (by rw [e64]; omega) ?_ ?_
        · rw [Nat.lcm_one_left]
          rw [Int.natAbs_natCast]
          exact lcm_log (by rw [e64]; omega) (by rw [e64]; omega)
        · rw [Nat.lcm_one_left]
          exact ⟨.int _, H, I.tok _, ⟨_, rfl⟩, poE_va sim (.int _) q⟩
  · exact q.elim
/-- list(range(a, b)) -/
def eRange (qa qb : QB) : QE := fun ρ M Q => qa ρ M fun d1 ρ1 M1 => qb ρ1 M1 fun d2 ρ2 M2 => match d1, d2 with
  | .int i, .int j => (-4611686018427387904 ≤ i ∧ i < 4611686018427387904 ∧ -4611686018427387904 ≤ j ∧ j < 4611686018427387904 ∧ j - i ≤ 16777216) ∧ Q (.ow (.lst (rangeL i j))) ρ2 M2
  | _, _ => False
theorem rgV_rp {K : Fg} {i j : Int} : RpA K S (rgV i j) (rangeL i j) := by
  have e1 : rgV i j = ((List.range (j - i).toNat).map fun (k : Nat) => i + (k : Int)).map V.int := by
    unfold rgV; rw [List.map_map]; rfl
  have e2 : rangeL i j = ((List.range (j - i).toNat).map fun (k : Nat) => i + (k : Int)).map D.int := by
    unfold rangeL; rw [List.map_map]; rfl
  rw [e1, e2]
  exact .ints
theorem qe_listRange2 {p1 p2 pos1 : Pos} (hc : X.calm = true) (hg : Gl X "list") (hm : X.mg "list" = none) (hg2 : Gl X "range") (hm2 : X.mg "range" = none) (ha : PE X a (liB z qa)) (hb : PE X b (liB z qb))
    (na : starEach [a, b] X.env = (false, eval a X.env) :: starEach [b] X.env := by rfl) (nb : starEach [b] X.env = (false, eval b X.env) :: starEach [] X.env := by rfl) (hp : (backTo pos1 (starEach [b] X.env)).any (·.1) = false := by rfl)
    (nc : starEach [.Call (.Name "range" p2) [a, b] [] pos1] X.env = (false, eval (.Call (.Name "range" p2) [a, b] [] pos1) X.env) :: starEach [] X.env := by rfl) :
    PE X (.Call (.Name "list" p1) [.Call (.Name "range" p2) [a, b] [] pos1] [] pos) (liE z (eRange qa qb)) :=
  pe_w (pe_listRg hc hg hm (prg_2 hg2 hm2 ha hb na nb hp) nc) fun σ H Q ⟨S, M, ρ, Q0, sim, h, post⟩ => ⟨S, M, ρ, _, sim, h, fun x H1 ⟨d1, ρ1, M1, S1, q1, st1, sim1, b1⟩ => ⟨S1, M1, ρ1, _, sim1, q1, fun y H2 ⟨d2, ρ2, M2, S2, q2, st2, sim2, b2⟩ => by
    dsimp only at q2
    split at q2
    · obtain ⟨⟨h1, h2, h3, h4, h5⟩, q⟩ := q2
      refine ⟨_, _, (b1.step st2).int, b2.int, ⟨by rw [p62]; exact h1, by rw [p62]; exact h2, by rw [p62]; exact h3, by rw [p62]; exact h4, by omega⟩, fun p hp => ?_⟩
      obtain ⟨a1, a2, a3⟩ := sim2.fresh hp rgV_rp
      exact post _ _ ⟨_, ρ2, M2, S2, q, (st1.trans st2).trans a2, a1, a3⟩
    · exact q2.elim⟩⟩

/-! ### isinstance -/
def tyOf : D → Option String
  | .non => some "NoneType"
  | .bl _ => some "bool"
  | .int _ => some "int"
  | .str _ => some "str"
  | .lst _ => some "list"
  | .tup _ => some "tuple"
  | _ => none
def isInst (d : D) (n : String) : Option Bool := (tyOf d).bind fun t => kitB t n
def eIsi (qa : QB) (n : String) : QE := fun ρ M Q => qa ρ M fun d ρ1 M1 => match isInst d n with
  | some b => Q (.va (.bl b)) ρ1 M1
  | none => False
theorem Rb.tyx {v : V} {d : D} {n : String} (sim : Same S H) (h : Rb z.K S M H v d) (e : tyOf d = some n) : TyX z.K H v (.type n) := by
  cases d with
  | non => rw [h.non]; cases e; exact .base .non
  | bl b => rw [h.bl]; cases e; exact .base (.bl b)
  | int i => rw [h.int]; cases e; exact .base (.int i)
  | str x => rw [h.str]; cases e; exact .base (.str x)
  | lst ds => obtain ⟨a, xs, rfl, h1, _⟩ := h.lst sim; cases e; exact .base (.lst h1)
  | tup ds =>
    obtain ⟨a, xs, rfl, h1, _⟩ := h.tup
    cases e
    rcases same_seqT sim h1 with (h | ⟨o, h⟩) | ⟨o, its, n, hk, hc, _⟩
    · exact .base (.tup h)
    · exact .fTuple h
    · exact .kTuple hk hc
  | ref a => cases e
  | ty n => cases e
  | set f n => cases e
  | dic ks ds => cases e
  | obj c fs ds => cases e
theorem qe_isi {n : Str} {N : String} {p3 : Pos} (hg : Gl X "isinstance") (hm : X.mg "isinstance" = none) (hg2 : Gl X n) (hm2 : X.mg n = none) (hv2 : bootBuiltins n = some (.type N)) (ha : PE X e (liB z qa)) (hK : X.K = z.K := by first | assumption | rfl) (hn : n ≠ "__name__" := by decide) (hd : (n == ("__debug__" : Str)) = false := by decide)
    (he : starEach [e, .Name n p3] X.env = (false, eval e X.env) :: starEach [.Name n p3] X.env := by rfl) (he2 : starEach [.Name n p3] X.env = (false, eval (.Name n p3) X.env) :: starEach [] X.env := by rfl) (hpl : (backTo pos (starEach [.Name n p3] X.env)).any (·.1) = false := by rfl) :
    PE X (.Call (.Name "isinstance" p) [e, .Name n p3] [] pos) (liE z (eIsi qa N)) := by
  have hn2 : PE X (.Name n p3) (tC (.ty N)) := pe_bltn hg2 hm2 hv2 rfl hn hd
  refine pe_w (pe_callB call_isi hg hm (by decide +kernel) (pa_cons ha (pa_cons hn2 pa_nil he2) he) (by decide) (by decide) he hpl) fun σ H Q ⟨S, M, ρ, Q0, sim, h, post⟩ => ⟨S, M, ρ, _, sim, h, fun v H1 ⟨d, ρ1, M1, S1, q1, st1, sim1, rb⟩ => ?_⟩
  replace q1 : (match isInst d N with | some b => Q0 (Sl.va (D.bl b)) ρ1 M1 | none => False) := q1
  split at q1
  · rename_i b eb
    unfold isInst at eb
    cases et : tyOf d with
    | none => rw [et] at eb; cases eb
    | some t =>
      rw [et] at eb
      exact ⟨v, .ty N, .type t, .type N, b, rfl, .ty N, by rw [hK]; exact rb.tyx sim1.sub et, kit_ty eb, post _ H1 ⟨_, ρ1, M1, S1, q1, st1, sim1, .bl b⟩⟩
  · exact q1.elim

/-! ### lists that are changed -/
def sApp (i : Nat) (q : QE) : QS := fun D ρ M => match ρ[i]? with
  | some (.ow (.lst _)) => q ρ M fun r ρ1 M1 => (match ρ1[i]? with
    | some (.ow (.lst ds)) => ds.length < 16777216 ∧ D.nx (ρ1.set i (.ow (.lst (ds ++ [r.val])))) M1
    | _ => False)
  | _ => False
variable {ea : QE}
theorem put_own {i : Nat} {ρ : Ev} {σ : St} {a : Addr} (ea : σ[i]? = some (some (.ref a))) : σ.set i (some (.ref a)) = σ := by
  obtain ⟨h1, h2⟩ := List.getElem?_eq_some_iff.mp ea
  rw [← h2, List.set_getElem_self]
theorem qs_append {i : Nat} {y : Str} {p1 apos cpos : Pos} (hN : X.N[i]? = some y) (hvis : Vis X.env.scope y) (he : PE X e (liE z ea)) (hd : (y == ("__debug__" : Str)) = false := by decide) (hcd : (y == ("__classdict__" : Str)) = false := by decide)
    (hbase : attributeBase (.Name y p1) "append" X.env (eval (.Name y p1) X.env) = eval (.Name y p1) X.env := by rfl)
    (hfew : ((backTo cpos (starEach [e] X.env)).all (fun x => !x.1) && (backToKw cpos (keywordEach [] X.env)).all (fun x => x.1.isSome) && decide ([e].length + ([] : List Keyword).length + (if ([] : List Keyword).isEmpty then 0 else 1) < 30)) = true := by rfl)
    (hline : (apos.endLine == cpos.line) = true := by rfl) (hst : starEach [e] X.env = (false, eval e X.env) :: starEach [] X.env := by rfl) (hplain : (backTo cpos (starEach [] X.env)).any (·.1) = false := by rfl)
    (hs : swapsWith (.Call (.Attribute (.Name y p1) "append" apos) [e] [] cpos) none pos.line X.env = pure false := by rfl) :
    PS X (.Expr (.Call (.Attribute (.Name y p1) "append" apos) [e] [] cpos) pos) (liS z (sApp i ea)) :=
  ps_w (ps_expr (pe_bm PySem.F.plainAttrs_list PySem.F.slot_list_append PySem.F.type_list_append mt_append (pe_var hN hvis hd hcd) (qa_cons he qa_nil hst) hbase hfew hline hst hplain) hs) fun D σ H ⟨S, M, ρ, D0, sim, h, nx, _⟩ => by
    unfold sApp at h
    split at h
    · rename_i ds0 e0
      obtain ⟨a, h1, _, _, ⟨xs0, h4, _⟩, _⟩ := sim.ow i _ e0
      have h' : aCons ea aNil ρ M (fun ds1 ρ1 M1 => match ds1 with
        | [d] => (match ρ1[i]? with | some (.ow (.lst ds)) => ds.length < 16777216 ∧ D0.nx (ρ1.set i (.ow (.lst (ds ++ [d])))) M1 | _ => False)
        | _ => False) := h
      refine ⟨_, h1, .inl ⟨rfl, xs0, .of h4⟩, S, M, ρ, _, sim, h', fun vs H1 ⟨ds1, ρ1, M1, S1, q1, st1, sim1, rp⟩ => ?_⟩
      dsimp only at q1
      split at q1
      · split at q1
        · rename_i ds e1
          obtain ⟨b, k1, _, _, ⟨xs, k4, k5⟩, _⟩ := sim1.ow i _ e1
          rw [h1] at k1
          cases k1
          cases rp with
          | cons r1 rr =>
            cases rr
            refine ⟨a, xs, _, rfl, rfl, k4, ?_, nx _ M1 S1 σ _ q1.2 st1.same (sim1.owSet e1 h1 (k5.append (.one r1)))⟩
            rw [k5.length, sizeLine_eq]
            exact q1.1
        · exact q1.elim
      · exact q1.elim
    · exact h.elim
def sExt (i : Nat) (q : QE) : QS := fun D ρ M => match ρ[i]? with
  | some (.ow (.lst _)) => q ρ M fun r ρ1 M1 => (match ρ1[i]?, r.val with
    | some (.ow (.lst ds)), .lst es => ds.length + es.length ≤ 16777216 ∧ D.nx (ρ1.set i (.ow (.lst (ds ++ es)))) M1
    | _, _ => False)
  | _ => False
theorem qs_extend {i : Nat} {y : Str} {p1 apos cpos : Pos} (hN : X.N[i]? = some y) (hvis : Vis X.env.scope y) (he : PE X e (liE z ea)) (hd : (y == ("__debug__" : Str)) = false := by decide) (hcd : (y == ("__classdict__" : Str)) = false := by decide)
    (hbase : attributeBase (.Name y p1) "extend" X.env (eval (.Name y p1) X.env) = eval (.Name y p1) X.env := by rfl)
    (hfew : ((backTo cpos (starEach [e] X.env)).all (fun x => !x.1) && (backToKw cpos (keywordEach [] X.env)).all (fun x => x.1.isSome) && decide ([e].length + ([] : List Keyword).length + (if ([] : List Keyword).isEmpty then 0 else 1) < 30)) = true := by rfl)
    (hline : (apos.endLine == cpos.line) = true := by rfl) (hst : starEach [e] X.env = (false, eval e X.env) :: starEach [] X.env := by rfl) (hplain : (backTo cpos (starEach [] X.env)).any (·.1) = false := by rfl)
    (hs : swapsWith (.Call (.Attribute (.Name y p1) "extend" apos) [e] [] cpos) none pos.line X.env = pure false := by rfl) :
    PS X (.Expr (.Call (.Attribute (.Name y p1) "extend" apos) [e] [] cpos) pos) (liS z (sExt i ea)) :=
  ps_w (ps_expr (pe_bm PySem.F.plainAttrs_list PySem.F.slot_list_extend PySem.F.type_list_extend mt_extend (pe_var hN hvis hd hcd) (qa_cons he qa_nil hst) hbase hfew hline hst hplain) hs) fun D σ H ⟨S, M, ρ, D0, sim, h, nx, _⟩ => by
    unfold sExt at h
    split at h
    · rename_i ds0 e0
      obtain ⟨a, h1, _, _, ⟨xs0, h4, _⟩, _⟩ := sim.ow i _ e0
      have h' : aCons ea aNil ρ M (fun ds1 ρ1 M1 => match ds1 with
        | [d] => (match ρ1[i]?, d with | some (.ow (.lst ds)), .lst es => ds.length + es.length ≤ 16777216 ∧ D0.nx (ρ1.set i (.ow (.lst (ds ++ es)))) M1 | _, _ => False)
        | _ => False) := h
      refine ⟨_, h1, .inl ⟨rfl, xs0, .of h4⟩, S, M, ρ, _, sim, h', fun vs H1 ⟨ds1, ρ1, M1, S1, q1, st1, sim1, rp⟩ => ?_⟩
      dsimp only at q1
      split at q1
      · split at q1
        · rename_i ds es e1
          obtain ⟨b, k1, _, _, ⟨xs, k4, k5⟩, _⟩ := sim1.ow i _ e1
          rw [h1] at k1
          cases k1
          cases rp with
          | cons r1 rr =>
            cases rr
            cases r1 with
            | lst w1 w2 =>
              refine ⟨a, _, xs, _, rfl, rfl, k4, sim1.sub _ _ w1, ?_, nx _ M1 S1 σ _ q1.2 st1.same (sim1.owSet e1 h1 (k5.append w2))⟩
              rw [k5.length, w2.length]
              exact line_eq q1.1
        · exact q1.elim
      · exact q1.elim
    · exact h.elim
def sPop (i : Nat) : QS := fun D ρ M => match ρ[i]? with
  | some (.ow (.lst ds)) => ds ≠ [] ∧ D.nx (ρ.set i (.ow (.lst ds.dropLast))) M
  | _ => False
theorem RpA.dropLast {K : Fg} {S : Hp} {vs : List V} {ds : List D} (h : RpA K S vs ds) : RpA K S vs.dropLast ds.dropLast := by
  rw [List.dropLast_eq_take, List.dropLast_eq_take, h.length]
  exact h.take _
theorem qs_pop {i : Nat} {y : Str} {p1 apos cpos : Pos} (hN : X.N[i]? = some y) (hvis : Vis X.env.scope y) (hd : (y == ("__debug__" : Str)) = false := by decide) (hcd : (y == ("__classdict__" : Str)) = false := by decide)
    (hbase : attributeBase (.Name y p1) "pop" X.env (eval (.Name y p1) X.env) = eval (.Name y p1) X.env := by rfl)
    (hline : (apos.endLine == cpos.line) = true := by rfl)
    (hs : swapsWith (.Call (.Attribute (.Name y p1) "pop" apos) [] [] cpos) none pos.line X.env = pure false := by rfl) :
    PS X (.Expr (.Call (.Attribute (.Name y p1) "pop" apos) [] [] cpos) pos) (liS z (sPop i)) :=
  ps_w (ps_expr (pe_bm0 PySem.F.plainAttrs_list PySem.F.slot_list_pop PySem.F.type_list_pop mt_pop (pe_var hN hvis hd hcd) hbase hline) hs) fun D σ H ⟨S, M, ρ, D0, sim, h, nx, _⟩ => by
    unfold sPop at h
    split at h
    · rename_i ds e0
      obtain ⟨a, h1, _, _, ⟨xs, h4, h5⟩, _⟩ := sim.ow i _ e0
      have hl := h5.length
      have hne : ds.length ≠ 0 := fun z => h.1 (List.length_eq_zero_iff.mp z)
      refine ⟨_, h1, .inl ⟨rfl, xs, .of h4⟩, a, xs, _, rfl, rfl, h4, List.getElem?_eq_getElem (by omega), nx _ M S σ _ h.2 (.refl _) (sim.owSet e0 h1 h5.dropLast)⟩
    · exact h.elim
/-- x[e] = e2 -/
def sSet (i : Nat) (q : QE) (qb : QB) : QS := fun D ρ M => q ρ M fun r ρ1 M1 => (match ρ1[i]? with
  | some (.ow (.lst _)) => qb ρ1 M1 fun d ρ2 M2 => (match ρ2[i]?, d with
    | some (.ow (.lst ds)), .int k => (match ixN ds.length k with | some j => D.nx (ρ2.set i (.ow (.lst (ds.set j r.val)))) M2 | none => False)
    | _, _ => False)
  | _ => False)
theorem qs_setItem {i : Nat} {y : Str} {b : Expr} {p1 p2 : Pos} (hN : X.N[i]? = some y) (hvis : Vis X.env.scope y) (he : PE X e (liE z ea)) (hb : PE X b (liB z qb)) (hd : (y == ("__debug__" : Str)) = false := by decide) (hcd : (y == ("__classdict__" : Str)) = false := by decide)
    (ha : ∀ v, assign (.Subscript (.Name y p1) b p2) X.env v = (do
      let ov ← holding [v] (eval (.Name y p1) X.env)
      let iv ← holding [v, ov] (eval b X.env)
      standAt p2
      holding [v, ov, iv] (setItem ov iv v)
      release [v, ov, iv] []) := by intro _; rfl)
    (hs : swapsWithSole [.Subscript (.Name y p1) b p2] e pos.line X.env = pure false := by rfl) (hw : swappedStores [.Subscript (.Name y p1) b p2] e X.env = pure none := by rfl)
    (h1 : (assignEach [.Subscript (.Name y p1) b p2] X.env).map (·.2) = [assign (.Subscript (.Name y p1) b p2) X.env] := by rfl) :
    PS X (.Assign [.Subscript (.Name y p1) b p2] e pos) (liS z (sSet i ea qb)) :=
  ps_w (ps_asg he (pg_sub (pe_var hN hvis hd hcd) hb set_list ha) hs hw h1) fun D σ H ⟨S, M, ρ, D0, sim, h, nx, _⟩ => ⟨S, M, ρ, _, sim, h, fun v H1 ⟨r, ρ1, M1, S1, q1, st1, sim1, res1⟩ => by
    obtain ⟨S1', sim1', st1', rp1⟩ := sim1.freeze res1
    dsimp only at q1
    split at q1
    · rename_i ds0 e0
      obtain ⟨a, h1, _, _, ⟨xs0, h4, _⟩, _⟩ := sim1'.ow i _ e0
      refine ⟨_, h1, S1', M1, ρ1, _, sim1', q1, fun y H2 ⟨d, ρ2, M2, S2, q2, st2, sim2, rb⟩ => ?_⟩
      dsimp only at q2
      split at q2
      · rename_i ds k e1
        split at q2
        · rename_i j ej
          obtain ⟨b, k1, _, _, ⟨xs, k4, k5⟩, _⟩ := sim2.ow i _ e1
          rw [h1] at k1
          cases k1
          exact ⟨a, xs, k, j, rfl, rb.int, k4, by rw [k5.length]; exact ej, nx _ M2 S2 σ _ q2 ((st1.trans st1').trans st2).same (sim2.owSet e1 h1 (k5.set (Rp.ext st2.same _ _ rp1)))⟩
        · exact q2.elim
      · exact q2.elim
    · exact q1.elim⟩
end
end PL
namespace PL
open PySem PySem.Spec PyProof.Rows L2

/-! ### comprehensions -/
def wipeE (ρ : Ev) : List Nat → Ev
  | [] => ρ
  | v :: vs => (wipeE ρ vs).set v .un
theorem wipe_at : ∀ {σ : St} {vs : List Nat} {j : Nat}, j ∉ vs → (wipe σ vs)[j]? = σ[j]?
  | _, [], _, _ => rfl
  | σ, v :: vs, j, h => by
    unfold wipe
    rw [List.getElem?_set_ne (fun e => h (by simp [e])), wipe_at (fun e => h (by simp [e]))]
theorem wipeE_at : ∀ {ρ : Ev} {vs : List Nat} {j : Nat}, j ∉ vs → (wipeE ρ vs)[j]? = ρ[j]?
  | _, [], _, _ => rfl
  | σ, v :: vs, j, h => by
    unfold wipeE
    rw [List.getElem?_set_ne (fun e => h (by simp [e])), wipeE_at (fun e => h (by simp [e]))]
theorem wipeE_in : ∀ {ρ : Ev} {vs : List Nat} {j : Nat} {x : Sl}, j ∈ vs → (wipeE ρ vs)[j]? = some x → x = .un
  | _, [], _, _, h, _ => by simp at h
  | ρ, v :: vs, j, x, h, e => by
    unfold wipeE at e
    rcases set_get e with ⟨_, e2, _⟩ | ⟨ne, e2⟩
    · exact e2.symm
    · rcases List.mem_cons.mp h with q | q
      · exact absurd q.symm ne
      · exact wipeE_in q e2
theorem wipe_in : ∀ {σ : St} {vs : List Nat} {j : Nat}, j ∈ vs → j < σ.length → (wipe σ vs)[j]? = some none
  | _, [], _, h, _ => by simp at h
  | σ, v :: vs, j, h, hl => by
    unfold wipe
    by_cases e : v = j
    · subst e
      rw [List.getElem?_set_self (by rw [wipe_length]; exact hl)]
    · rw [List.getElem?_set_ne e]
      rcases List.mem_cons.mp h with q | q
      · exact absurd q.symm e
      · exact wipe_in q hl
theorem wipeE_length (ρ : Ev) : ∀ vs : List Nat, (wipeE ρ vs).length = ρ.length
  | [] => rfl
  | v :: vs => by unfold wipeE; rw [List.length_set, wipeE_length ρ vs]
/-- slots that agree elsewhere are the same when wiped -/
theorem wipe_same {σ σ' : St} {vs : List Nat} (hl : σ'.length = σ.length) (h : ∀ j, j ∉ vs → σ'[j]? = σ[j]?) : wipe σ' vs = wipe σ vs := by
  refine List.ext_getElem? fun j => ?_
  by_cases hj : j ∈ vs
  · by_cases hlt : j < σ.length
    · rw [wipe_in hj hlt, wipe_in hj (by rw [hl]; exact hlt)]
    · rw [List.getElem?_eq_none (by rw [wipe_length, hl]; omega), List.getElem?_eq_none (by rw [wipe_length]; omega)]
  · rw [wipe_at hj, wipe_at hj, h j hj]
/-- no list of one's own stands in the slots -/
def notOw (ρ : Ev) (vs : List Nat) : Bool := vs.all fun i => match ρ[i]? with
  | some (.ow _) => false
  | _ => true
section
variable {z : Z} {S S' : Hp} {M M' : Mu} {ρ : Ev} {σ : St} {H H' : Hp}
theorem Sim.wiped (h : Sim z S M ρ σ H) (vs : List Nat) : Sim z S M (wipeE ρ vs) (wipe σ vs) H := by
  refine ⟨h.toCore, by rw [wipe_length, wipeE_length]; exact h.len, fun i d e => ?_, fun i o e => ?_, fun i j o o' a e1 e2 => ?_⟩
  · by_cases hi : i ∈ vs
    · cases wipeE_in hi e
    · rw [wipeE_at hi] at e
      rw [wipe_at hi]
      exact h.va i d e
  · by_cases hi : i ∈ vs
    · cases wipeE_in hi e
    · rw [wipeE_at hi] at e
      rw [wipe_at hi]
      exact h.ow i o e
  · by_cases hi : i ∈ vs
    · cases wipeE_in hi e1
    · by_cases hj : j ∈ vs
      · cases wipeE_in hj e2
      · rw [wipeE_at hi] at e1
        rw [wipeE_at hj] at e2
        rw [wipe_at hi, wipe_at hj]
        exact h.sep i j o o' a e1 e2
/-- behind a block: its own slots hold again what they held -/
theorem Sim.unwiped {vs : List Nat} {ρ2 : Ev} {σ2 : St} (h : Sim z S M ρ σ H) (hn : notOw ρ vs = true) (st : Step S M H S' M' H') (s2 : Sim z S' M' ρ2 σ2 H') (er : wipeE ρ2 vs = wipeE ρ vs) (es : wipe σ2 vs = wipe σ vs) : Sim z S' M' ρ σ H' := by
  have out : ∀ {i : Nat} {o : Ow}, ρ[i]? = some (.ow o) → i ∉ vs := fun {i o} e hi => by
    have := List.all_eq_true.mp hn i hi
    rw [e] at this
    cases this
  refine ⟨s2.toCore, h.len, fun i d e => ?_, fun i o e => ?_, h.sep⟩
  · obtain ⟨v, a, b⟩ := h.va i d e
    exact ⟨v, a, Rp.ext st.same _ _ b⟩
  · have hi := out e
    have e2 : ρ2[i]? = some (.ow o) := by
      have := congrArg (fun l => l[i]?) er
      simp only [wipeE_at hi] at this
      rw [this, e]
    have e3 : σ2[i]? = σ[i]? := by
      have := congrArg (fun l => l[i]?) es
      simp only [wipe_at hi] at this
      exact this
    rw [← e3]
    exact s2.ow i o e2
theorem Sim.hide {D : Addr} {acc : List PL.D} (h : Sim z S M ρ σ H) (r : ResE z S M ρ σ H (.ref D) (.ow (.lst acc))) : Sim { z with R := fun b => z.R b ∨ b = D } S M ρ σ H := by
  obtain ⟨a, e, h2, h3, ⟨xs, h4, _⟩, h5, h6⟩ := r
  cases e
  refine ⟨⟨h.step, h.sub, h.frS, h.mu, h.mnd, fun b hb => ?_⟩, h.len, h.va, fun i o e => ?_, h.sep⟩
  · rcases hb with hb | rfl
    · exact h.rsv b hb
    · exact ⟨h2, by rw [h4]; simp, h5⟩
  · obtain ⟨b, k1, k2, k3, k4, k5⟩ := h.ow i o e
    refine ⟨b, k1, k2, ⟨k3.1, fun w => ?_⟩, k4, k5⟩
    rcases w with w | w
    · exact k3.2 w
    · subst w
      exact h6 i o e k1
theorem Sim.show {R : Addr → Prop} (h : Sim { z with R := R } S M ρ σ H) (k : ∀ b, z.R b → R b) : Sim z S M ρ σ H :=
  ⟨⟨h.step, h.sub, h.frS, h.mu, h.mnd, fun b hb => h.rsv b (k b hb)⟩, h.len, h.va, fun i o e =>
    let ⟨a, h1, h2, h3, h4⟩ := h.ow i o e
    ⟨a, h1, h2, ⟨h3.1, fun w => h3.2 (k a w)⟩, h4⟩, h.sep⟩
/-- something that nothing is said of is changed -/
theorem Sim.poke {a : Addr} {o : HO} (h : Sim z S M ρ σ H) (hs : S a = none) (h0 : z.Nw a) (hm : ∀ p ∈ M, p.1 ≠ a) (hn : ∀ (i : Nat) o', ρ[i]? = some (.ow o') → σ[i]? ≠ some (some (.ref a))) : Sim z S M ρ σ (upd H a o) := by
  refine ⟨⟨⟨h.step.same, fun c u q n => ?_, h.step.mnew, fun c q => ?_⟩, fun c u q => ?_, h.frS, fun p hp => ?_, h.mnd, fun c hc => ?_⟩, h.len, h.va, fun i o' e => ?_, h.sep⟩
  · rw [upd_ne (fun w => by rw [w, h0.1] at q; cases q)]
    exact h.step.keep c u q n
  · by_cases w : c = a
    · subst w; rw [upd_same]; simp
    · rw [upd_ne w]; exact h.step.dom c q
  · rw [upd_ne (fun w => by rw [w, hs] at q; cases q)]
    exact h.sub c u q
  · obtain ⟨q, w⟩ := h.mu p hp
    exact ⟨q, w.ext (.refl _) (upd_ne (hm p hp))⟩
  · obtain ⟨r1, r2, r3⟩ := h.rsv c hc
    exact ⟨r1, by rw [upd_ne (fun e : c = a => h0.2 (by rw [← e]; exact hc))]; exact r2, r3⟩
  · obtain ⟨b, k1, k2, k3, k4, k5⟩ := h.ow i o' e
    exact ⟨b, k1, k2, k3, k4.ext (.refl _) (upd_ne fun w => hn i o' e (by rw [← w]; exact k1)), k5⟩
def eLc (qi : QA) (g : QG) (qt : QT) (qe : QE) (vs : List Nat) : QE := fun ρ M Q => qi ρ M fun ds ρ1 M1 => notOw ρ1 vs = true ∧ ∃ I : Nat → List D → Mu → Prop, I 0 [] M1 ∧
  (∀ i d acc M, ds[i]? = some d → I i acc M → g d (wipeE ρ1 vs) fun ρ2 => wipeE ρ2 vs = wipeE ρ1 vs ∧ qt ρ2 M fun b ρ3 M3 => ρ3 = ρ2 ∧
    (if b = true then qe ρ3 M3 fun r ρ4 M4 => ρ4 = ρ3 ∧ acc.length < 16777216 ∧ I (i + 1) (acc ++ [r.val]) M4 else I (i + 1) acc M3)) ∧
  (∀ acc M, I ds.length acc M → Q (.ow (.lst acc)) ρ1 M)
def tYes' : QT := fun ρ M Q => Q true ρ M
/-- for every call's entry with this written part -/
def anE (K : Fg) (q : QE) : TE := fun σ H Q => ∃ z : Z, K = z.K ∧ liE z q σ H Q
def anT (K : Fg) (q : QT) : TT := fun σ H Q => ∃ z : Z, K = z.K ∧ liT z q σ H Q
def anG (K : Fg) (as : List Nat) (q : QG) : TG := fun v σ H Q => ∃ z : Z, K = z.K ∧ liG z as q v σ H Q
end
section
variable {X : Cx} {z : Z}
theorem an_e {e : Expr} {q : QE} {K : Fg} (h : ∀ z : Z, K = z.K → PE X e (liE z q)) : PE X e (anE K q) := ⟨fun pins s σ H Q I ⟨z, e, w⟩ => (h z e).run pins s σ H Q I w⟩
theorem an_g {e : Expr} {q : QG} {as : List Nat} {K : Fg} (h : ∀ z : Z, K = z.K → PG X e (liG z as q)) : PG X e (anG K as q) := ⟨fun pins s σ H v u Q I r ⟨z, e, w⟩ => (h z e).run pins s σ H v u Q I r w⟩
theorem an_t0 {K : Fg} : PTs X [] (anT K tYes') := ⟨fun pins s σ H Q I ⟨z, e, S, M, ρ, Q0, sim, h, post⟩ => pts_nil.run pins s σ H Q I (post true H ⟨ρ, M, S, h, .refl, sim⟩)⟩
theorem an_t1 {c : Expr} {t : QT} {K : Fg} (h : ∀ z : Z, K = z.K → PT X c (liT z t)) : PTs X [c] (anT K t) := pts_one ⟨fun pins s σ H Q I ⟨z, e, w⟩ => (h z e).run pins s σ H Q I w⟩
theorem lc_lift {qi : QA} {g : QG} {qt : QT} {qe : QE} {vs as : List Nat} (hvs : ∀ j ∈ as, j ∈ vs) {σ : St} {H : Hp} {Q : VK} (h : liE z (eLc qi g qt qe vs) σ H Q) : tLc (liI z qi) (anG z.K as g) (anT z.K qt) (anE z.K qe) vs σ H Q := by
  obtain ⟨S, M, ρ, Q0, sim, h, post⟩ := h
  refine ⟨S, M, ρ, _, sim, h, fun J H1 ⟨ds, ρ1, M1, S1, ⟨hn, I, w0, turn, fin⟩, st1, sim1, y⟩ D hD => ?_⟩
  obtain ⟨simD, stD, resD⟩ := sim1.fresh (ds := []) hD .nil
  have hD0 : H D = none := by
    cases q : H D with
    | none => rfl
    | some o => exact absurd hD (st1.dom D (by rw [q]; simp))
  refine ⟨fun i m H' => m = ds.length - i ∧ i ≤ ds.length ∧ ∃ S' M' acc, Step S M H S' M' H' ∧ Same S1 S' ∧ Sim z S' M' ρ1 σ H' ∧ ResE z S' M' ρ1 σ H' (.ref D) (.ow (.lst acc)) ∧ I i acc M',
    ⟨ds.length, by simp, Nat.zero_le _, S1, M1, [], st1.trans stD, .refl _, simD, resD, w0⟩, ?_⟩
  rintro i m H2 ⟨rfl, hi, S2, M2, acc, st2, e2, sim2, res2, w2⟩
  by_cases hlt : i < ds.length
  · refine .inr ⟨y.go i H2 S2 e2 sim2.sub hlt, fun H' => i + 1 ≤ ds.length ∧ ∃ S' M' acc, Step S M H S' M' H' ∧ Same S1 S' ∧ Sim z S' M' ρ1 σ H' ∧ ResE z S' M' ρ1 σ H' (.ref D) (.ow (.lst acc)) ∧ I (i + 1) acc M',
      fun H' h => ⟨ds.length - (i + 1), by omega, rfl, h.1, h.2⟩, fun x H3 hy => ?_⟩
    have ed : ds[i]? = some ds[i] := List.getElem?_eq_getElem hlt
    obtain ⟨S3, a1, a2, a3, a4, rp⟩ := y.yld i H2 S2 x H3 _ e2 sim2.sub ed hy
    have sim3 := sim2.grow a1 a2 a3 a4
    have st3 : Step S2 M2 H2 S3 M2 H3 := .grow a1 a2
    obtain ⟨D', eD, n1, n2, ⟨xs, n3, n4⟩, n5, n6⟩ := id res2
    cases eD
    have res3 : ResE z S3 M2 ρ1 σ H3 (.ref D) (.ow (.lst acc)) := by
      refine ⟨D, rfl, ?_, n2, ⟨xs, a2 _ _ n3, RpA.ext a1 _ _ n4⟩, n5, n6⟩
      cases q : S3 D with
      | none => rfl
      | some o =>
        rcases a4 D (by rw [q]; simp) with e | e
        · exact absurd n1 e
        · rw [n3] at e; cases e
    have hid := sim3.hide res3
    have w3 := turn i _ acc M2 ed w2
    refine ⟨{ z with R := fun b => z.R b ∨ b = D }, rfl, S3, M2, wipeE ρ1 vs, _, _, hid.wiped vs, rp, w3, fun ρ4 σ4 ⟨er, q4⟩ sim4 k4 => ?_⟩
    have es : wipe σ4 vs = wipe σ vs := by
      have hl : σ4.length = σ.length := by
        have z1 := sim4.len
        have z2 := congrArg List.length er
        rw [wipeE_length, wipeE_length] at z2
        rw [z1, z2]
        exact sim3.len.symm
      refine wipe_same hl fun j hj => ?_
      rw [k4 j fun hm => hj (hvs j hm), wipe_at hj]
    -- back behind the block
    have back : ∀ {S6 : Hp} {M6 : Mu} {H6 : Hp}, Sim { z with R := fun b => z.R b ∨ b = D } S6 M6 ρ4 σ4 H6 → Step S3 M2 H3 S6 M6 H6 → Sim z S6 M6 ρ1 σ H6 ∧ Step S M H S6 M6 H6 ∧ Same S1 S6 ∧ ∃ xs, H6 D = some (.lst xs) ∧ RpA z.K S6 xs acc ∧ S6 D = none ∧ (∀ p ∈ M6, p.1 ≠ D) := by
      intro S6 M6 H6 s6 st6
      obtain ⟨r1, r2, r3⟩ := s6.rsv D (.inr rfl)
      have s6' := s6.show (fun b hb => .inl hb)
      exact ⟨sim3.unwiped hn st6 s6' er es, (st2.trans st3).trans st6, (e2.trans a1).trans st6.same, xs, st6.keep D _ (a2 _ _ n3) n5, RpA.ext (a1.trans st6.same) _ _ n4, r1, r3⟩
    refine ⟨es, { z with R := fun b => z.R b ∨ b = D }, rfl, S3, M2, ρ4, _, sim4, q4, fun b H5 ⟨ρ5, M5, S5, ⟨er5, q5⟩, st5, sim5⟩ => ?_⟩
    subst er5
    cases b with
    | false =>
      obtain ⟨k1, k2, k3, xs', k5, k6, k7, k8⟩ := back sim5 st5
      exact iteF ⟨hlt, S5, M5, acc, k2, k3, k1, ⟨D, rfl, k7, n2, ⟨xs', k5, k6⟩, k8, n6⟩, (by simpa using q5)⟩
    | true =>
      have q5' := (show qe _ M5 _ by simpa using q5)
      refine iteT ⟨{ z with R := fun b => z.R b ∨ b = D }, rfl, S5, M5, _, _, sim5, q5', fun v H6 ⟨r, ρ6, M6, S6, ⟨er6, hl6, q6⟩, st6, sim6, res6⟩ => ?_⟩
      subst er6
      obtain ⟨S7, sim7, st7, rp7⟩ := sim6.freeze res6
      obtain ⟨k1, k2, k3, xs', k5, k6, k7, k8⟩ := back sim7 ((st5.trans st6).trans st7)
      refine ⟨xs', k5, by rw [k6.length, sizeLine_eq]; exact hl6, hlt, S7, M6, acc ++ [r.val], ?_, k3, ?_, ?_, q6⟩
      · refine ⟨k2.same, fun c u q n => ?_, k2.mnew, fun c q => ?_⟩
        · rw [upd_ne (fun w => by rw [w, hD0] at q; cases q)]
          exact k2.keep c u q n
        · by_cases w : c = D
          · subst w; rw [upd_same]; simp
          · rw [upd_ne w]; exact k2.dom c q
      · exact k1.poke k7 n2 k8 n6
      · exact ⟨D, rfl, k7, n2, ⟨_, upd_same, k6.append (.one rp7)⟩, k8, n6⟩
  · have e : i = ds.length := by omega
    subst e
    exact .inl ⟨y.stop _ H2 S2 e2 sim2.sub (Nat.le_refl _), post _ H2 ⟨_, ρ1, M2, S2, fin acc M2 w2, st2, sim2, res2⟩⟩
theorem qe_lc {elt tg iter : Expr} {ifs : List Expr} {scope : Scope} {own : List (Str × Nat)} {pos : Pos} {qi : QA} {g : QG} {qt : QT} {qe : QE} {as : List Nat} (hc : X.calm = true) (hN : X.N.Nodup) (hi : PI X tg iter (liI z qi)) (ok : BlkOk X.N X.env.scope scope own)
    (hg : ∀ (s : Shared) (H : Hp) (C : Addr) (cl : List (Str × Addr)) (fp : List Addr) (z : Z), X.K = z.K → PG (X.blk s H scope (compEnvC scope cl C X.env) fp) tg (liG z as g))
    (ht : ∀ (s : Shared) (H : Hp) (C : Addr) (cl : List (Str × Addr)) (fp : List Addr), PTs (X.blk s H scope (compEnvC scope cl C X.env) fp) ifs (anT X.K qt))
    (he : ∀ (s : Shared) (H : Hp) (C : Addr) (cl : List (Str × Addr)) (fp : List Addr) (z : Z), X.K = z.K → PE (X.blk s H scope (compEnvC scope cl C X.env) fp) elt (liE z qe)) (hvs : ∀ j ∈ as, j ∈ own.map (·.2) := by decide) (hK : X.K = z.K := by first | assumption | rfl)
    (hs : ∀ x, foldedSetIterable iter X.env x = pure x := by intro _; rfl) : PE X (.ListComp elt [⟨tg, iter, ifs, 0⟩] scope pos) (liE z (eLc qi g qt qe (own.map (·.2)))) := by
  refine pe_w (pe_lc hc hN hi ok (fun s H C cl fp => an_g (K := X.K) (hg s H C cl fp)) ht (fun s H C cl fp => an_e (K := X.K) (he s H C cl fp)) hs) fun σ H Q h => ?_
  rw [hK]
  exact lc_lift hvs h
theorem qs_setLc {i : Nat} {y : Str} {py : Pos} {elt tg iter : Expr} {ifs : List Expr} {scope : Scope} {own : List (Str × Nat)} {pos spos : Pos} {qi : QA} {g : QG} {qt : QT} {qe : QE} {as : List Nat} (hc : X.calm = true) (hN : X.N.Nodup) (hy : X.N[i]? = some y) (hyl : X.env.scope.names.lookup y = some .local)
    (hsw : swapsWith (.ListComp elt [⟨tg, iter, ifs, 0⟩] scope pos) (some (.Name y py)) spos.line X.env = pure true) (hi : PI X tg iter (liI z qi)) (ok : BlkOk X.N X.env.scope scope own)
    (hg : ∀ (s : Shared) (H : Hp) (C : Addr) (cl : List (Str × Addr)) (fp : List Addr) (z : Z), X.K = z.K → PG (X.blk s H scope (compEnvC scope cl C X.env) fp) tg (liG z as g))
    (ht : ∀ (s : Shared) (H : Hp) (C : Addr) (cl : List (Str × Addr)) (fp : List Addr), PTs (X.blk s H scope (compEnvC scope cl C X.env) fp) ifs (anT X.K qt))
    (he : ∀ (s : Shared) (H : Hp) (C : Addr) (cl : List (Str × Addr)) (fp : List Addr) (z : Z), X.K = z.K → PE (X.blk s H scope (compEnvC scope cl C X.env) fp) elt (liE z qe)) (hvs : ∀ j ∈ as, j ∈ own.map (·.2) := by decide) (hK : X.K = z.K := by first | assumption | rfl)
    (hs : ∀ x, foldedSetIterable iter X.env x = pure x := by intro _; rfl) : PS X (.Assign [.Name y py] (.ListComp elt [⟨tg, iter, ifs, 0⟩] scope pos) spos) (liS z (sAsg i (eLc qi g qt qe (own.map (·.2))))) := by
  refine ps_w (ps_setLc (i := i) hc hN hy hyl hsw hi ok (fun s H C cl fp => an_g (K := X.K) (hg s H C cl fp)) ht (fun s H C cl fp => an_e (K := X.K) (he s H C cl fp)) hs) fun D σ H h => ?_
  obtain ⟨S, M, ρ, D0, sim, h, nx, _⟩ := h
  rw [hK]
  exact lc_lift hvs ⟨S, M, ρ, _, sim, h, fun v H' ⟨r, ρ', M', S', q, st, sim', res⟩ => nx _ M' S' _ H' q st.same (sim'.put res)⟩
end
end PL
namespace PL
open PySem PySem.Spec PyProof.Rows L2

/-! ### lists that are known by their address -/
def mput (M : Mu) (a : Addr) (o : MO) : Mu := M.map fun p => if p.1 = a then (a, o) else p
theorem mput_keys (M : Mu) (a : Addr) (o : MO) : (mput M a o).map (·.1) = M.map (·.1) := by
  unfold mput
  rw [List.map_map]
  refine List.map_congr_left fun p _ => ?_
  show (if p.1 = a then (a, o) else p).1 = p.1
  split
  · rename_i e; exact e.symm
  · rfl
theorem mem_mput {M : Mu} {a : Addr} {o : MO} {p : Addr × MO} (h : p ∈ mput M a o) : (p = (a, o) ∧ ∃ q ∈ M, q.1 = a) ∨ (p ∈ M ∧ p.1 ≠ a) := by
  obtain ⟨q, hq, e⟩ := List.mem_map.mp h
  by_cases hq2 : q.1 = a
  · rw [if_pos hq2] at e
    exact .inl ⟨e.symm, q, hq, hq2⟩
  · rw [if_neg hq2] at e
    subst e
    exact .inr ⟨hq, hq2⟩
section
variable {z : Z} {S S' : Hp} {M M' : Mu} {ρ : Ev} {σ : St} {H H' : Hp}
theorem lookup_mem {a : Addr} {o : MO} : ∀ {M : Mu}, M.lookup a = some o → (a, o) ∈ M
  | [], h => by cases h
  | (b, u) :: r, h => by
    rw [List.lookup_cons] at h
    cases e : a == b with
    | true =>
      rw [e] at h
      cases h
      rw [eq_of_beq e]
      exact List.mem_cons_self
    | false =>
      rw [e] at h
      exact List.mem_cons_of_mem _ (lookup_mem h)
theorem nodup_at {M : Mu} (hn : (M.map (·.1)).Nodup) {a : Addr} {o o' : MO} (h : (a, o) ∈ M) (h' : (a, o') ∈ M) : o = o' := by
  induction M with
  | nil => cases h
  | cons p M ih =>
    rw [List.map_cons, List.nodup_cons] at hn
    rcases List.mem_cons.mp h with e | h
    · rcases List.mem_cons.mp h' with e' | h'
      · rw [← e] at e'; cases e'; rfl
      · exact absurd (List.mem_map.mpr ⟨_, h', by rw [← e]⟩) hn.1
    · rcases List.mem_cons.mp h' with e' | h'
      · exact absurd (List.mem_map.mpr ⟨_, h, by rw [← e']⟩) hn.1
      · exact ih hn.2 h h'
/-- an object known by address is written -/
theorem Core.mset {a : Addr} {o o' : MO} {ho : HO} (h : Core z S M H) (hm : (a, o) ∈ M) (hk : MOk z.K S (upd H a ho) a o') : Core z S (mput M a o') (upd H a ho) := by
  have hs := (h.mu _ hm).1
  obtain ⟨u, hu⟩ := (h.mu _ hm).2.at
  refine ⟨⟨h.step.same, fun c w q n => ?_, fun p hp => ?_, fun c q => ?_⟩, fun c w q => ?_, h.frS, fun p hp => ?_, by rw [mput_keys]; exact h.mnd, fun c hc => ?_⟩
  · have k := h.step.keep c w q n
    rw [upd_ne (fun e => ?_)]
    · exact k
    · subst e
      rcases h.step.mnew _ hm with ⟨q', hq', e'⟩ | e'
      · exact n q' hq' e'
      · rw [show z.H0 c = none from e'] at q; cases q
  · rcases mem_mput hp with ⟨rfl, q, hq, e⟩ | ⟨hp, _⟩
    · have := h.step.mnew q hq
      rw [e] at this
      exact this
    · exact h.step.mnew p hp
  · by_cases e : c = a
    · subst e; rw [upd_same]; simp
    · rw [upd_ne e]; exact h.step.dom c q
  · rw [upd_ne (fun e => by rw [e, hs] at q; cases q)]
    exact h.sub c w q
  · rcases mem_mput hp with ⟨rfl, _⟩ | ⟨hp, ne⟩
    · exact ⟨hs, hk⟩
    · obtain ⟨k1, k2⟩ := h.mu p hp
      exact ⟨k1, k2.ext (.refl _) (upd_ne ne)⟩
  · obtain ⟨r1, r2, r3⟩ := h.rsv c hc
    refine ⟨r1, by rw [upd_ne (fun e : c = a => r3 _ hm e.symm)]; exact r2, fun p hp e => ?_⟩
    rcases mem_mput hp with ⟨rfl, q, hq, e2⟩ | ⟨hp, _⟩
    · exact r3 q hq (e2.trans e)
    · exact r3 p hp e
theorem Sim.mset {a : Addr} {o o' : MO} {ho : HO} (h : Sim z S M ρ σ H) (hm : (a, o) ∈ M) (hk : MOk z.K S (upd H a ho) a o') : Sim z S (mput M a o') ρ σ (upd H a ho) := by
  refine ⟨h.toCore.mset hm hk, h.len, h.va, fun i w e => ?_, h.sep⟩
  obtain ⟨b, h1, h2, h3, h4, h5⟩ := h.ow i w e
  refine ⟨b, h1, h2, h3, h4.ext (.refl _) (upd_ne fun e => h5 _ hm e.symm), fun p hp e => ?_⟩
  rcases mem_mput hp with ⟨rfl, q, hq, e2⟩ | ⟨hp, _⟩
  · exact h5 q hq (e2.trans e)
  · exact h5 p hp e
/-- .. is told otherwise, as it stands -/
theorem Core.mtell {a : Addr} {o o' : MO} (h : Core z S M H) (hm : (a, o) ∈ M) (hk : MOk z.K S H a o') : Core z S (mput M a o') H := by
  obtain ⟨u, hu⟩ := (h.mu _ hm).2.at
  have e : upd H a u = H := by
    funext b
    by_cases hb : b = a
    · subst hb; rw [upd_same, hu]
    · rw [upd_ne hb]
  have := h.mset (ho := u) hm (by rw [e]; exact hk)
  rw [e] at this
  exact this
end
/-- x[e], x a list that is known by its address -/
def eIxM (qa qb : QB) : QE := fun ρ M Q => qa ρ M fun d1 ρ1 M1 => qb ρ1 M1 fun d2 ρ2 M2 => match d1, d2 with
  | .ref a, .int i => (match M2.lookup a with
    | some (.lst ds) => (match atI ds i with | some d => Q (.va d) ρ2 M2 | none => False)
    | _ => False)
  | _, _ => False
def sSetM (q : QE) (qa qb : QB) : QS := fun D ρ M => q ρ M fun r ρ1 M1 => qa ρ1 M1 fun d1 ρ2 M2 => qb ρ2 M2 fun d2 ρ3 M3 => match d1, d2 with
  | .ref a, .int k => (match M3.lookup a with
    | some (.lst ds) => (match ixN ds.length k with | some j => D.nx ρ3 (mput M3 a (.lst (ds.set j r.val))) | none => False)
    | _ => False)
  | _, _ => False
section
variable {X : Cx} {z : Z} {a b e : Expr} {pos : Pos} {qa qb : QB} {ea : QE}
theorem qe_ixM (ha : PE X a (liB z qa)) (hb : PE X b (liB z qb)) (hs : PlainIx b := by exact fun _ _ => rfl) : PE X (.Subscript a b pos) (liE z (eIxM qa qb)) :=
  pe_w (pe_ix ix_list ha hb hs) fun σ H Q ⟨S, M, ρ, Q0, sim, h, post⟩ => ⟨S, M, ρ, _, sim, h, fun x H1 ⟨d1, ρ1, M1, S1, q1, st1, sim1, b1⟩ => ⟨S1, M1, ρ1, _, sim1, q1, fun y H2 ⟨d2, ρ2, M2, S2, q2, st2, sim2, b2⟩ => by
    dsimp only at q2
    split at q2
    · split at q2
      · rename_i ds em
        split at q2
        · rename_i d ed
          obtain ⟨_, xs, h1, h2⟩ := sim2.mu _ (lookup_mem em)
          obtain ⟨v, ev, rv⟩ := atI_rp h2 ed
          exact ⟨_, xs, _, v, (b1.step st2).ref, b2.int, .of h1, ev, post v H2 ⟨.va d, ρ2, M2, S2, q2, st1.trans st2, sim2, rv⟩⟩
        · exact q2.elim
      · exact q2.elim
    · exact q2.elim⟩⟩
theorem qs_setM {p2 : Pos} (he : PE X e (liE z ea)) (ha : PE X a (liB z qa)) (hb : PE X b (liB z qb))
    (hq : ∀ v, assign (.Subscript a b p2) X.env v = (do
      let ov ← holding [v] (eval a X.env)
      let iv ← holding [v, ov] (eval b X.env)
      standAt p2
      holding [v, ov, iv] (setItem ov iv v)
      release [v, ov, iv] []) := by intro _; rfl)
    (hs : swapsWithSole [.Subscript a b p2] e pos.line X.env = pure false := by rfl) (hw : swappedStores [.Subscript a b p2] e X.env = pure none := by rfl)
    (h1 : (assignEach [.Subscript a b p2] X.env).map (·.2) = [assign (.Subscript a b p2) X.env] := by rfl) : PS X (.Assign [.Subscript a b p2] e pos) (liS z (sSetM ea qa qb)) :=
  ps_w (ps_asg he (pg_sub ha hb set_list hq) hs hw h1) fun D σ H ⟨S, M, ρ, D0, sim, h, nx, _⟩ => ⟨S, M, ρ, _, sim, h, fun v H1 ⟨r, ρ1, M1, S1, q1, st1, sim1, res1⟩ => by
    obtain ⟨S1', sim1', st1', rp1⟩ := sim1.freeze res1
    refine ⟨S1', M1, ρ1, _, sim1', q1, fun x H2 ⟨d2, ρ2, M2, S2, q2, st2, sim2, b2⟩ => ⟨S2, M2, ρ2, _, sim2, q2, fun y H3 ⟨d3, ρ3, M3, S3, q3, st3, sim3, b3⟩ => ?_⟩⟩
    dsimp only at q3
    split at q3
    · split at q3
      · rename_i ds em
        split at q3
        · rename_i j ej
          obtain ⟨_, xs, h1, h2⟩ := sim3.mu _ (lookup_mem em)
          have rp3 := Rp.ext (st2.trans st3).same _ _ rp1
          exact ⟨_, xs, _, j, (b2.step st3).ref, b3.int, h1, by rw [h2.length]; exact ej, nx _ _ S3 σ _ q3 ((st1.trans st1').trans (st2.trans st3)).same (sim3.mset (lookup_mem em) ⟨_, upd_same, h2.set rp3⟩)⟩
        · exact q3.elim
      · exact q3.elim
    · exact q3.elim⟩
end

/-! ### a def keeps its promise -/
abbrev PF := fun (_ : Str) (_ : List D) (_ : Mu) => False
def stE (N : List Str) (ds : List D) : Ev := ds.map .va ++ List.replicate (N.length - ds.length) .un
theorem start_sim {K : Fg} {S : Hp} {M : Mu} {H : Hp} {vs : List V} {ds : List D} {N : List Str} {z : Z} (c : Core z S M H) (hK : z.K = K) (r : RpA K S vs ds) : Sim z S M (stE N ds) (L2.start N vs) H := by
  have hl := r.length
  have at1 : ∀ {i : Nat} {x : Sl}, (stE N ds)[i]? = some x → (∃ d, ds[i]? = some d ∧ x = .va d) ∨ x = .un := fun {i x} e => by
    unfold stE at e
    by_cases hi : i < ds.length
    · rw [List.getElem?_append_left (by simpa using hi), List.getElem?_map] at e
      cases q : ds[i]? with
      | none => rw [q] at e; cases e
      | some d => rw [q] at e; cases e; exact .inl ⟨d, rfl, rfl⟩
    · rw [List.getElem?_append_right (by simpa using hi), List.getElem?_replicate] at e
      split at e
      · cases e; exact .inr rfl
      · cases e
  refine ⟨c, ?_, fun i d e => ?_, fun i o e => ?_, fun i j o o' a e1 => ?_⟩
  · unfold stE L2.start
    simp only [List.length_append, List.length_map, List.length_replicate]
    rw [hl]
  · rcases at1 e with ⟨d', e1, e2⟩ | e2
    · cases e2
      obtain ⟨v, h1, h2⟩ := r.get e1
      refine ⟨v, ?_, by rw [hK]; exact h2⟩
      unfold L2.start
      have hi : i < vs.length := (List.getElem?_eq_some_iff.mp h1).1
      rw [List.getElem?_append_left (by simpa using hi), List.getElem?_map, h1]
      rfl
    · cases e2
  · rcases at1 e with ⟨d', e1, e2⟩ | e2 <;> cases e2
  · rcases at1 e1 with ⟨d', e1, e2⟩ | e2 <;> cases e2
theorem fn_P {P : Program} {w : World} {K : Fg} {mg : Str → Option Value} {base : Heap} {x qual : Str} {params : Arguments} {body : List Stmt} {scope : Scope} {dvs : List V} {kws : List (Str × V)} {f : Addr} {fd : FuncData} {N ps : List Str} {k : Nat} {p : PSp}
    (F : FunD K x qual params body scope dvs kws f fd) (Sc : FnScope N ps scope) (hl : ∀ ds M Q E, p ds M Q E → ds.length = ps.length)
    {q : QS} (hbody : ∀ (cdv : Value) (A : Around) (outer : List Env) (s : Shared) (H : Hp) (E : XK) (z : Z), K = z.K → Room k (A.deeper (envOfC qual scope s.heap.objs.size f cdv)) →
      PSs (cxOf CX0 P w K mg base N qual scope f cdv A outer s H E).nox body (liS z q))
    (hq : ∀ ds M Q0, p ds M Q0 PF → q { nx := fun _ M' => Q0 (.va .non) M', rt := Q0 } (stE N ds) M) : FnOk P w K mg base CX0 (k + 1) f fd ps (liP K p) := by
  refine F.ok Sc (fun vs H Q E ⟨S, M, ds, Q0, c, r, h, _⟩ => by rw [r.length]; exact hl _ _ _ _ h) fun cdv A outer s H vs Q E hr ⟨S, M, ds, Q0, c, r, h, post⟩ => ⟨_, (hbody cdv A outer s H E (zOf K H S M) rfl hr).nox, ?_⟩
  refine ⟨S, M, _, _, start_sim c rfl r, hq ds M Q0 h, fun ρ' M' S' σ' H' q e sim => ?_, fun _ _ _ _ _ q => q.elim, fun _ _ _ _ _ q => q.elim, fun r M' S' v H' q c' res => post v H' r M' S' q c' res⟩
  exact post .non H' _ M' S' q sim.toCore .non
/-! ### the law's tape -/
/-- one draw -/
def pDraw : PSp := fun ds M Q _ => match ds with
  | [.ref T, .int n] => ((T, MO.tape) ∈ M ∧ 1 ≤ n ∧ n < 1267650600228229401496703205376) ∧ ∀ r : Int, 0 ≤ r → r < n → Q (.va (.int r)) M
  | _ => False
theorem mput_mput (M : Mu) (a : Addr) (o o' : MO) : mput (mput M a o) a o' = mput M a o' := by
  unfold mput
  rw [List.map_map]
  refine List.map_congr_left fun p _ => ?_
  show (if (if p.1 = a then (a, o) else p).1 = a then (a, o') else (if p.1 = a then (a, o) else p)) = _
  by_cases h : p.1 = a
  · simp [h]
  · simp [h]
theorem mput_self {M : Mu} (hn : (M.map (·.1)).Nodup) {a : Addr} {o : MO} (h : (a, o) ∈ M) : mput M a o = M := by
  unfold mput
  conv => rhs; rw [← List.map_id M]
  refine List.map_congr_left fun p hp => ?_
  by_cases e : p.1 = a
  · rw [if_pos e]
    obtain ⟨b, o'⟩ := p
    have e' : b = a := e
    subst e'
    rw [nodup_at hn h hp]
    rfl
  · rw [if_neg e]; rfl
theorem lookup_mput {M : Mu} {a : Addr} {o : MO} (h : ∃ p ∈ M, p.1 = a) : (mput M a o).lookup a = some o := by
  induction M with
  | nil => obtain ⟨p, hp, _⟩ := h; cases hp
  | cons q M ih =>
    unfold mput
    rw [List.map_cons]
    by_cases e : q.1 = a
    · rw [if_pos e, List.lookup_cons]
      simp
    · rw [if_neg e]
      obtain ⟨p, hp, e2⟩ := h
      have hp' : p ∈ M := by
        rcases List.mem_cons.mp hp with rfl | hp
        · exact absurd e2 e
        · exact hp
      have := ih ⟨p, hp', e2⟩
      unfold mput at this
      obtain ⟨b, u⟩ := q
      rw [List.lookup_cons]
      have hb : (a == b) = false := beq_eq_false_iff_ne.mpr fun w => e w.symm
      rw [hb]
      exact this
theorem fn_draw {P : Program} {w : World} {K : Fg} {mg : Str → Option Value} {base : Heap} {x qual : Str} {params : Arguments} {body : List Stmt} {scope : Scope} {dvs : List V} {kws : List (Str × V)} {f : Addr} {fd : FuncData} {N ps : List Str} {k : Nat}
    (F : FunD K x qual params body scope dvs kws f fd) (Sc : FnScope N ps scope) (hps : ps.length = 2)
    {q : QS} (hbody : ∀ (cdv : Value) (A : Around) (outer : List Env) (s : Shared) (H : Hp) (E : XK) (z : Z), K = z.K → Room k (A.deeper (envOfC qual scope s.heap.objs.size f cdv)) →
      PSs (cxOf CX0 P w K mg base N qual scope f cdv A outer s H E).nox body (liS z q))
    (hq : ∀ (T : Addr) (n : Int) (M : Mu) (ns : List Int) (c x : Int) (Q0 : Sl → Mu → Prop), M.lookup T = some (.lst [.lst (ns.map D.int), .int c, .int x]) → 0 ≤ c → 0 ≤ x → 1 ≤ n → n < 1267650600228229401496703205376 →
      (∀ r c' x' : Int, 0 ≤ r → r < n → 0 ≤ c' → 0 ≤ x' → Q0 (.va (.int r)) (mput M T (.lst [.lst (ns.map D.int), .int c', .int x']))) → q { nx := fun _ M' => Q0 (.va .non) M', rt := Q0 } (stE N [.ref T, .int n]) M) :
    FnOk P w K mg base CX0 (k + 1) f fd ps (liP K pDraw) := by
  refine F.ok Sc (fun vs H Q E ⟨S, M, ds, Q0, c, r, h, _⟩ => ?_) fun cdv A outer s H vs Q E hr ⟨S, M, ds, Q0, c, r, h, post⟩ => ⟨_, (hbody cdv A outer s H E (zOf K H S M) rfl hr).nox, ?_⟩
  · rw [r.length, hps]
    unfold pDraw at h
    split at h
    · rfl
    · exact h.elim
  · unfold pDraw at h
    split at h
    · obtain ⟨⟨hm, h1, h2⟩, h3⟩ := h
      rename_i T n
      obtain ⟨cc, ns, kk, xx, e1, e2, e3, e4⟩ := (c.mu _ hm).2
      have hk : MOk K S H T (.lst [.lst (ns.map D.int), .int kk, .int xx]) := ⟨_, e1, .cons (.lst e2 .ints) (.cons (.int _) (.cons (.int _) .nil))⟩
      have c1 := c.mtell hm hk
      refine ⟨S, _, _, _, start_sim c1 rfl r, hq T n _ ns kk xx (fun r M' => (∃ i : Int, r = .va (.int i) ∧ 0 ≤ i ∧ i < n) ∧ ∃ c' x' : Int, 0 ≤ c' ∧ 0 ≤ x' ∧ M' = mput M T (.lst [.lst (ns.map D.int), .int c', .int x'])) (lookup_mput ⟨_, hm, rfl⟩) e3 e4 h1 h2 fun r c' x' r0 r1 c0 x0 => ⟨⟨r, rfl, r0, r1⟩, c', x', c0, x0, mput_mput _ _ _ _⟩,
        fun ρ' M' S' σ' H' q e sim => ?_, fun _ _ _ _ _ q => q.elim, fun _ _ _ _ _ q => q.elim, fun r M' S' v H' q c' res => ?_⟩
      · obtain ⟨⟨i, e, _⟩, _⟩ := q
        cases e
      · obtain ⟨⟨i, rfl, i0, i1⟩, c2, x2, c0, x0, rfl⟩ := q
        have hm2 : (T, MO.lst [.lst (ns.map D.int), .int c2, .int x2]) ∈ mput M T (.lst [.lst (ns.map D.int), .int c2, .int x2]) := lookup_mem (lookup_mput ⟨_, hm, rfl⟩)
        obtain ⟨xs, k1, k2⟩ := (c'.mu _ hm2).2
        have c3 := c'.mtell (o' := .tape) hm2 (by
          cases k2 with
          | cons a1 a2 =>
            cases a2 with
            | cons b1 b2 =>
              cases b2 with
              | cons d1 d2 =>
                cases d2
                cases b1
                cases d1
                cases a1 with
                | lst w1 w2 => exact ⟨_, ns, c2, x2, k1, by rw [w1, w2.intsV], c0, x0⟩)
        rw [mput_mput, mput_self c.mnd hm] at c3
        exact post v H' _ M S' (h3 i i0 i1) c3 res
    · exact h.elim

/-! ### the law -/
/-- script -> the tape -/
def spTape (K : Fg) : Sp := fun vs H Q _ => ∃ (a : Addr) (ns : List Int), vs = [.ref a] ∧ SqL K H a (ns.map V.int) ∧ ∀ (H' : Hp) (c p : Addr), Same H H' → H c = none → H p = none → p ≠ c → H' c = some (.lst (ns.map V.int)) → H' p = some (.lst [.ref c, .int 0, .int 0]) → Q (.ref p) H'
def spLaw (K : Fg) : Sp := fun vs H Q _ => ∃ (a : Addr) (ns : List Int), vs = [.ref a] ∧ SqL K H a (ns.map V.int) ∧ ∀ H', Q (.bl true) H'
theorem law_P {K : Fg} {N : List Str} {a : Addr} {H : Hp} {ns : List Int} {Q : VK} {q : QS} {t0 : TE} (hN : 2 ≤ N.length)
    (hS : SqL K H a (ns.map V.int)) (hQ : ∀ H', Q (.bl true) H')
    (h0 : ∀ Q' : VK, (∀ (H' : Hp) (c p : Addr), Same H H' → H c = none → H p = none → p ≠ c → H' c = some (.lst (ns.map V.int)) → H' p = some (.lst [.ref c, .int 0, .int 0]) → Q' (.ref p) H') → t0 (L2.start N [.ref a]) H Q')
    (hq : ∀ (T : Addr), q { nx := fun _ _ => False, rt := fun r _ => r = .va (.bl true) } ([Sl.un, .va (.ref T)] ++ List.replicate (N.length - 2) .un) [(T, .tape)]) :
    tSeq (tAsg t0 (gName 1)) (liS (zOf K H (fun _ => none) []) q) { nx := fun _ H' => Q .non H', rt := Q } (L2.start N [.ref a]) H := by
  refine h0 _ fun H' c p e nc np ne hc hp => ?_
  have hS1 : ∀ {b : Addr} {o : HO}, (if b = c then some (HO.lst (ns.map V.int)) else none) = some o → b = c ∧ o = .lst (ns.map V.int) := fun {b o} q => by
    by_cases hb : b = c
    · rw [if_pos hb] at q; cases q; exact ⟨hb, rfl⟩
    · rw [if_neg hb] at q; cases q
  refine ⟨fun b => if b = c then some (.lst (ns.map V.int)) else none, [(p, .tape)], _, _, ⟨⟨⟨fun _ _ q => (by cases q), fun b o q _ => e b o q, fun w hw => ?_, fun b q => ?_⟩, fun b o q => ?_, fun b q => ?_, fun w hw => ?_, by simp, fun _ r => r.elim⟩, ?_, fun i d q => ?_, fun i o q => ?_, fun i j o o' b q => ?_⟩, hq p, fun _ _ _ _ _ q => q.elim, fun _ _ _ _ _ q => q.elim, fun _ _ _ _ _ q => q.elim, fun r M' S' v H'' q c' res => ?_⟩
  · rw [List.mem_singleton.mp hw]; exact .inr np
  · cases k : H b with
    | none => exact absurd k q
    | some o => rw [e b o k]; simp
  · obtain ⟨rfl, rfl⟩ := hS1 q; exact hc
  · cases k : (if b = c then some (HO.lst (ns.map V.int)) else none) with
    | none => exact absurd k q
    | some o => obtain ⟨rfl, _⟩ := hS1 k; exact .inr nc
  · rw [List.mem_singleton.mp hw]
    exact ⟨if_neg ne, c, ns, 0, 0, hp, if_pos rfl, Int.le_refl _, Int.le_refl _⟩
  · unfold L2.start
    simp only [List.length_set, List.length_append, List.length_map, List.length_replicate, List.length_cons, List.length_nil]
    omega
  · match i with
    | 0 => cases q
    | 1 =>
      cases q
      refine ⟨.ref p, ?_, .ref p⟩
      rw [List.getElem?_set_self]
      unfold L2.start
      simp only [List.length_append, List.length_map, List.length_replicate, List.length_cons, List.length_nil]
      omega
    | i + 2 =>
      simp only [List.cons_append, List.nil_append, List.getElem?_cons_succ, List.getElem?_replicate] at q
      split at q <;> cases q
  · match i with
    | 0 => cases q
    | 1 => cases q
    | i + 2 =>
      simp only [List.cons_append, List.nil_append, List.getElem?_cons_succ, List.getElem?_replicate] at q
      split at q <;> cases q
  · match i with
    | 0 => cases q
    | 1 => cases q
    | i + 2 =>
      simp only [List.cons_append, List.nil_append, List.getElem?_cons_succ, List.getElem?_replicate] at q
      split at q <;> cases q
  · subst q
    cases res
    exact hQ H''
end PL
/-! the head's facts, with one more Bool of the written part -/
namespace PL
open PySem PySem.Spec PyProof.Rows L2 He
def obsE (fa : List Fa) (fn : List DefD) (ex : Fg → Bool) (K : Fg) : AlD := (((fa.all fun f => f.ok K) && fn.all fun d => d.ok K) && ex K, fn.map fun d => fnW K d.at_)
structure SaysE (fa : List Fa) (fn : List DefD) (ex : Fg → Bool) (K : Fg) : Prop where
  d : SaysD fa fn K
  x : ex K = true
theorem saysE_of {fa : List Fa} {fn : List DefD} {ex : Fg → Bool} {K : Fg} (h : obsE fa fn ex K = valD fn) : SaysE fa fn ex K := by
  unfold obsE valD at h
  have h1 := (Prod.mk.inj h).1
  have h2 := (Prod.mk.inj h).2
  obtain ⟨a, b⟩ := ba h1
  exact ⟨by unfold SaysD obsD valD; rw [a, h2], b⟩
def obsEG (n : Nat) (fa : List Fa) (fn : List DefD) (ex : Fg → Bool) (g : Addr → Option Obj) : AlD := obsE fa fn ex (frG g (asD g n))
def hookE (n : Nat) (fa : List Fa) (fn : List DefD) (ex : Fg → Bool) : PySem.W.Hook where
  α := AlD
  obs := fun s => obsEG n fa fn ex s.heap.get?
  val := fun _ => valD fn
  says := fun _ h => ∃ K : PySem.W.Frag, K.In h ∧ SaysE fa fn ex K
  of := fun _ _ e => ⟨_, frG_in, saysE_of e⟩
  keeps := fun _ _ _ ⟨K, hK, c⟩ k => ⟨K, PySem.W.Frag.In.keeps hK k, c⟩
theorem obsEG_eq {n : Nat} {fa : List Fa} {fn : List DefD} {ex : Fg → Bool} {g : Addr → Option Obj} {s : Shared} (h : ∀ a, g a = s.heap.get? a) : obsEG n fa fn ex g = (hookE n fa fn ex).obs s := by
  have e : g = s.heap.get? := funext h
  rw [e] <;> rfl
/-! ### tables of the module: tuples of data -/
mutual
def tabB (K : Fg) : Value → D → Bool
  | .none, .non => true
  | .bool b, .bl c => b == c
  | .int i _, .int j => decide (i = j)
  | .str x _, .str y => decide (x = y)
  | .ref a, .tup ds => (match K.lookup a with
    | some ⟨.type c, _, .seq its _, _⟩ => decide (c = "tuple") && (decide (its.size ≤ sizeLine) && tabA K its.toList ds)
    | _ => false)
  | _, _ => false
def tabA (K : Fg) : List Value → List D → Bool
  | [], [] => true
  | v :: vs, d :: ds => tabB K v d && tabA K vs ds
  | _, _ => false
end
section
variable {K : Fg}
mutual
theorem tabB_rp (S : Hp) : ∀ (d : D) (u : Value), tabB K u d = true → ∃ v, RelV v u ∧ Rp K S v d
  | .non, u, h => by cases u <;> first | exact ⟨.non, rfl, .non⟩ | (simp [tabB] at h)
  | .bl c, u, h => by
    cases u <;> first | (simp [tabB] at h; done) | skip
    rename_i b
    simp [tabB] at h
    subst h
    exact ⟨.bl _, rfl, .bl _⟩
  | .int j, u, h => by
    cases u <;> first | (simp [tabB] at h; done) | skip
    rename_i i t
    simp [tabB] at h
    subst h
    exact ⟨.int _, ⟨_, rfl⟩, .int _⟩
  | .str y, u, h => by
    cases u <;> first | (simp [tabB] at h; done) | skip
    rename_i i t
    simp [tabB] at h
    subst h
    exact ⟨.str _, ⟨_, rfl⟩, .str _⟩
  | .lst ds, u, h => by cases u <;> simp [tabB] at h
  | .ref a, u, h => by cases u <;> simp [tabB] at h
  | .ty n, u, h => by cases u <;> simp [tabB] at h
  | .set f n, u, h => by cases u <;> simp [tabB] at h
  | .dic ks ds, u, h => by cases u <;> simp [tabB] at h
  | .obj c fs ds, u, h => by cases u <;> simp [tabB] at h
  | .tup ds, u, h => by
    cases u <;> first | (simp [tabB] at h; done) | skip
    rename_i a
    rw [tabB] at h
    split at h
    · rename_i c dd its n sl q
      simp only [Bool.and_eq_true, decide_eq_true_eq] at h
      obtain ⟨h1, h2, h3⟩ := h
      obtain ⟨vs, r1, r2⟩ := tabA_rp S ds its.toList h3
      exact ⟨.ref a, rfl, .tup (.inr ⟨_, its, n, q, by rw [h1], rfl, h2, r1⟩) r2⟩
    · cases h
theorem tabA_rp (S : Hp) : ∀ (ds : List D) (us : List Value), tabA K us ds = true → ∃ vs, Vals vs us ∧ RpA K S vs ds
  | [], us, h => by
    cases us with
    | nil => exact ⟨[], .nil, .nil⟩
    | cons => simp [tabA] at h
  | d :: ds, us, h => by
    cases us with
    | nil => simp [tabA] at h
    | cons u us =>
      rw [tabA, Bool.and_eq_true] at h
      obtain ⟨v, a1, a2⟩ := tabB_rp S d u h.1
      obtain ⟨vs, b1, b2⟩ := tabA_rp S ds us h.2
      exact ⟨v :: vs, .cons a1 b1, .cons a2 b2⟩
end
theorem tabB_ok {a : Addr} {d : D} (h : tabB K (.ref a) d = true) (S : Hp) : Rp K S (.ref a) d := by
  obtain ⟨v, r, q⟩ := tabB_rp S d _ h
  cases v with
  | ref b => cases r; exact q
  | non => cases r
  | bl _ => cases r
  | int _ => obtain ⟨_, e⟩ := r; cases e
  | str _ => obtain ⟨_, e⟩ := r; cases e
  | byt _ => obtain ⟨_, e⟩ := r; cases e
  | flt _ => obtain ⟨_, e⟩ := r; cases e
  | ty _ => cases r
end
/-! ### data compared -/
theorem cmpOk_int {i : Int} : cmpOk (.int i) = true := by rfl
theorem cmpOk_bl {i : Bool} : cmpOk (.bl i) = true := by rfl
theorem cmpOk_non : cmpOk .non = true := by rfl
theorem deq_int {i j : Int} : deq (.int i) (.int j) = decide (i = j) := by
  show (i == j) = decide (i = j)
  rw [Bool.beq_eq_decide_eq]
theorem deq_bl {i j : Bool} : deq (.bl i) (.bl j) = decide (i = j) := by
  show (i == j) = decide (i = j)
  rw [Bool.beq_eq_decide_eq]
theorem deq_str {i j : Str} : deq (.str i) (.str j) = decide (i = j) := by
  show (i == j) = decide (i = j)
  rw [Bool.beq_eq_decide_eq]
theorem deq_refl {d : D} (h : cmpOk d = true) : deq d d = true := by
  unfold cmpOk at h
  rw [Bool.and_eq_true] at h
  exact SeqAt.eqv_refl _ (SeqAt.canLay_of_shaped h.2)
theorem isi_non_bool : isInst .non "bool" = some false := by show kitB "NoneType" "bool" = some false; decide +kernel
theorem isi_non_int : isInst .non "int" = some false := by show kitB "NoneType" "int" = some false; decide +kernel
theorem isi_non_str : isInst .non "str" = some false := by show kitB "NoneType" "str" = some false; decide +kernel
theorem isi_non_list : isInst .non "list" = some false := by show kitB "NoneType" "list" = some false; decide +kernel
theorem isi_non_tuple : isInst .non "tuple" = some false := by show kitB "NoneType" "tuple" = some false; decide +kernel
theorem isi_bl_bool {i : Bool} : isInst (.bl i) "bool" = some true := by show kitB "bool" "bool" = some true; decide +kernel
theorem isi_bl_int {i : Bool} : isInst (.bl i) "int" = some true := by show kitB "bool" "int" = some true; decide +kernel
theorem isi_bl_str {i : Bool} : isInst (.bl i) "str" = some false := by show kitB "bool" "str" = some false; decide +kernel
theorem isi_bl_list {i : Bool} : isInst (.bl i) "list" = some false := by show kitB "bool" "list" = some false; decide +kernel
theorem isi_bl_tuple {i : Bool} : isInst (.bl i) "tuple" = some false := by show kitB "bool" "tuple" = some false; decide +kernel
theorem isi_int_bool {i : Int} : isInst (.int i) "bool" = some false := by show kitB "int" "bool" = some false; decide +kernel
theorem isi_int_int {i : Int} : isInst (.int i) "int" = some true := by show kitB "int" "int" = some true; decide +kernel
theorem isi_int_str {i : Int} : isInst (.int i) "str" = some false := by show kitB "int" "str" = some false; decide +kernel
theorem isi_int_list {i : Int} : isInst (.int i) "list" = some false := by show kitB "int" "list" = some false; decide +kernel
theorem isi_int_tuple {i : Int} : isInst (.int i) "tuple" = some false := by show kitB "int" "tuple" = some false; decide +kernel
theorem isi_str_bool {i : Str} : isInst (.str i) "bool" = some false := by show kitB "str" "bool" = some false; decide +kernel
theorem isi_str_int {i : Str} : isInst (.str i) "int" = some false := by show kitB "str" "int" = some false; decide +kernel
theorem isi_str_str {i : Str} : isInst (.str i) "str" = some true := by show kitB "str" "str" = some true; decide +kernel
theorem isi_str_list {i : Str} : isInst (.str i) "list" = some false := by show kitB "str" "list" = some false; decide +kernel
theorem isi_str_tuple {i : Str} : isInst (.str i) "tuple" = some false := by show kitB "str" "tuple" = some false; decide +kernel
theorem isi_lst_bool {i : List D} : isInst (.lst i) "bool" = some false := by show kitB "list" "bool" = some false; decide +kernel
theorem isi_lst_int {i : List D} : isInst (.lst i) "int" = some false := by show kitB "list" "int" = some false; decide +kernel
theorem isi_lst_str {i : List D} : isInst (.lst i) "str" = some false := by show kitB "list" "str" = some false; decide +kernel
theorem isi_lst_list {i : List D} : isInst (.lst i) "list" = some true := by show kitB "list" "list" = some true; decide +kernel
theorem isi_lst_tuple {i : List D} : isInst (.lst i) "tuple" = some false := by show kitB "list" "tuple" = some false; decide +kernel
theorem isi_tup_bool {i : List D} : isInst (.tup i) "bool" = some false := by show kitB "tuple" "bool" = some false; decide +kernel
theorem isi_tup_int {i : List D} : isInst (.tup i) "int" = some false := by show kitB "tuple" "int" = some false; decide +kernel
theorem isi_tup_str {i : List D} : isInst (.tup i) "str" = some false := by show kitB "tuple" "str" = some false; decide +kernel
theorem isi_tup_list {i : List D} : isInst (.tup i) "list" = some false := by show kitB "tuple" "list" = some false; decide +kernel
theorem isi_tup_tuple {i : List D} : isInst (.tup i) "tuple" = some true := by show kitB "tuple" "tuple" = some true; decide +kernel
/-- may be compared: how deep -/
def Ck (n : Nat) (d : D) : Prop := isPure d = true ∧ (toPy d).canLay0 = true ∧ (toPy d).depth ≤ n
def CkA (n : Nat) (ds : List D) : Prop := isPureA ds = true ∧ PyData.canLayAll0 (toPyA ds) = true ∧ PyData.depthAll (toPyA ds) ≤ n
theorem cmpOk_iff {d : D} : cmpOk d = true ↔ Ck 64 d := by
  unfold cmpOk Ck SeqAt.shaped
  simp only [Bool.and_eq_true, decide_eq_true_eq]
theorem ckA_iff {n : Nat} : ∀ {ds : List D}, CkA n ds ↔ ∀ d ∈ ds, Ck n d
  | [] => ⟨fun _ _ h => (by simp at h), fun _ => ⟨rfl, rfl, Nat.zero_le _⟩⟩
  | d :: ds => by
    have ih := ckA_iff (n := n) (ds := ds)
    unfold CkA at ih ⊢
    unfold Ck at ih ⊢
    simp only [isPureA, toPyA, PyData.canLayAll0, PyData.depthAll, Bool.and_eq_true, Nat.max_le, List.mem_cons, forall_eq_or_imp]
    rw [← ih]
    constructor
    · rintro ⟨⟨a, b⟩, ⟨c, e⟩, f, g⟩; exact ⟨⟨a, c, f⟩, b, e, g⟩
    · rintro ⟨⟨a, c, f⟩, b, e, g⟩; exact ⟨⟨a, b⟩, ⟨c, e⟩, f, g⟩
theorem ck_lst {n : Nat} {ds : List D} : Ck (n + 1) (.lst ds) ↔ ∀ d ∈ ds, Ck n d := by
  rw [← ckA_iff]
  unfold Ck CkA
  simp only [isPure, toPy, PyData.canLay0, PyData.depth, Nat.add_le_add_iff_right]
theorem ck_tup {n : Nat} {ds : List D} : Ck (n + 1) (.tup ds) ↔ ∀ d ∈ ds, Ck n d := by
  rw [← ckA_iff]
  unfold Ck CkA
  simp only [isPure, toPy, PyData.canLay0, PyData.depth, Nat.add_le_add_iff_right]
theorem ck_int {n : Nat} {i : Int} : Ck n (.int i) := ⟨rfl, rfl, Nat.zero_le _⟩
theorem ck_bl {n : Nat} {i : Bool} : Ck n (.bl i) := ⟨rfl, rfl, Nat.zero_le _⟩
theorem ck_non {n : Nat} : Ck n .non := ⟨rfl, rfl, Nat.zero_le _⟩
theorem ck_str {n : Nat} {x : Str} (h : PyData.strOk x = true) : Ck n (.str x) := ⟨rfl, by simpa [toPy, PyData.canLay0] using h, by simp [toPy, PyData.depth]⟩
theorem Ck.mono {n m : Nat} {d : D} (h : Ck n d) (k : n ≤ m) : Ck m d := ⟨h.1, h.2.1, Nat.le_trans h.2.2 k⟩
theorem cmpOk_of {n : Nat} {d : D} (h : Ck n d) (k : n ≤ 64 := by decide) : cmpOk d = true := cmpOk_iff.mpr (h.mono k)
theorem ck_intsA {n : Nat} {ns : List Int} : ∀ d ∈ ns.map D.int, Ck n d := fun d h => by
  obtain ⟨i, _, rfl⟩ := List.mem_map.mp h
  exact ck_int
theorem cmpOk_ints {ns : List Int} : cmpOk (.lst (ns.map D.int)) = true := cmpOk_of (n := 1) (ck_lst.mpr ck_intsA)
theorem cmpOk_intsT {ns : List Int} : cmpOk (.tup (ns.map D.int)) = true := cmpOk_of (n := 1) (ck_tup.mpr ck_intsA)
def deqA : List D → List D → Bool
  | [], [] => true
  | x :: xs, y :: ys => deq x y && deqA xs ys
  | _, _ => false
theorem deqA_eq : ∀ xs ys : List D, PyData.eqvAll (toPyA xs) (toPyA ys) = deqA xs ys
  | [], [] => by simp [toPyA, PyData.eqvAll, deqA]
  | [], _ :: _ => by simp [toPyA, PyData.eqvAll, deqA]
  | _ :: _, [] => by simp [toPyA, PyData.eqvAll, deqA]
  | x :: xs, y :: ys => by simp [toPyA, PyData.eqvAll, deqA, deqA_eq xs ys, deq]
theorem deq_tup {xs ys : List D} : deq (.tup xs) (.tup ys) = deqA xs ys := by
  unfold deq
  rw [toPy, toPy, PyData.eqv, deqA_eq]
theorem deq_lst {xs ys : List D} : deq (.lst xs) (.lst ys) = deqA xs ys := by
  unfold deq
  rw [toPy, toPy, PyData.eqv, deqA_eq]
theorem deqA_nil : deqA [] [] = true := rfl
theorem deqA_cons {x y : D} {xs ys : List D} : deqA (x :: xs) (y :: ys) = (deq x y && deqA xs ys) := rfl
theorem deqA_ints : ∀ {ns ms : List Int}, deqA (ns.map D.int) (ms.map D.int) = decide (ns = ms)
  | [], [] => by simp [deqA]
  | [], _ :: _ => by simp [deqA]
  | _ :: _, [] => by simp [deqA]
  | n :: ns, m :: ms => by
    rw [List.map_cons, List.map_cons, deqA_cons, deqA_ints, deq_int]
    by_cases h : n = m <;> by_cases h2 : ns = ms <;> simp [h, h2]
theorem deq_ints {ns ms : List Int} : deq (.lst (ns.map D.int)) (.lst (ms.map D.int)) = decide (ns = ms) := by rw [deq_lst, deqA_ints]
theorem deq_intsT {ns ms : List Int} : deq (.tup (ns.map D.int)) (.tup (ms.map D.int)) = decide (ns = ms) := by rw [deq_tup, deqA_ints]
/-! ### readings opened -/
theorem get0 {a : Sl} {l : Ev} : (a :: l)[0]? = some a := rfl
theorem getS {a : Sl} {l : Ev} {n : Nat} : (a :: l)[n + 1]? = l[n]? := by simp
theorem atI0 {d : D} {ds : List D} : atI (d :: ds) 0 = some d := by
  unfold atI ixN
  rw [if_pos (Int.le_refl _), if_pos (by simp)]
  rfl
theorem atI_one {a d : D} {ds : List D} : atI (a :: d :: ds) 1 = some d := by
  unfold atI ixN
  rw [if_pos (by decide), if_pos (by simp only [List.length_cons]; omega)]
  rfl
theorem atI1 {a d : D} {ds : List D} : atI (a :: d :: ds) 1 = some d := atI_one
theorem atI2 {a b d : D} {ds : List D} : atI (a :: b :: d :: ds) 2 = some d := by
  unfold atI ixN
  rw [if_pos (by decide), if_pos (by simp only [List.length_cons]; omega)]
  rfl
theorem atI3 {a b c d : D} {ds : List D} : atI (a :: b :: c :: d :: ds) 3 = some d := by
  unfold atI ixN
  rw [if_pos (by decide), if_pos (by simp only [List.length_cons]; omega)]
  rfl
theorem atI4 {a b c e d : D} {ds : List D} : atI (a :: b :: c :: e :: d :: ds) 4 = some d := by
  unfold atI ixN
  rw [if_pos (by decide), if_pos (by simp only [List.length_cons]; omega)]
  rfl
theorem atI_nn {ds : List D} {i : Int} {d : D} (h0 : 0 ≤ i) (h : ds[i.toNat]? = some d) : atI ds i = some d := by
  unfold atI ixN
  have hl := (List.getElem?_eq_some_iff.mp h).1
  rw [if_pos h0, if_pos (by omega)]
  exact h
theorem isInst_bool {d : D} (h : cmpOk d = true) : isInst d "bool" = some (match d with | .bl _ => true | _ => false) := by
  cases d with
  | ref a => cases h
  | ty a => cases h
  | set f n => cases h
  | dic ks ds => cases h
  | obj c fs ds => cases h
  | non => exact isi_non_bool
  | bl b => exact isi_bl_bool
  | int b => exact isi_int_bool
  | str b => exact isi_str_bool
  | tup b => exact isi_tup_bool
  | lst b => exact isi_lst_bool
theorem isInst_int {d : D} (h : cmpOk d = true) : isInst d "int" = some (match d with | .bl _ => true | .int _ => true | _ => false) := by
  cases d with
  | ref a => cases h
  | ty a => cases h
  | set f n => cases h
  | dic ks ds => cases h
  | obj c fs ds => cases h
  | non => exact isi_non_int
  | bl b => exact isi_bl_int
  | int b => exact isi_int_int
  | str b => exact isi_str_int
  | tup b => exact isi_tup_int
  | lst b => exact isi_lst_int
theorem isInst_str {d : D} (h : cmpOk d = true) : isInst d "str" = some (match d with | .str _ => true | _ => false) := by
  cases d with
  | ref a => cases h
  | ty a => cases h
  | set f n => cases h
  | dic ks ds => cases h
  | obj c fs ds => cases h
  | non => exact isi_non_str
  | bl b => exact isi_bl_str
  | int b => exact isi_int_str
  | str b => exact isi_str_str
  | tup b => exact isi_tup_str
  | lst b => exact isi_lst_str
theorem isInst_tuple {d : D} (h : cmpOk d = true) : isInst d "tuple" = some (match d with | .tup _ => true | _ => false) := by
  cases d with
  | ref a => cases h
  | ty a => cases h
  | set f n => cases h
  | dic ks ds => cases h
  | obj c fs ds => cases h
  | non => exact isi_non_tuple
  | bl b => exact isi_bl_tuple
  | int b => exact isi_int_tuple
  | str b => exact isi_str_tuple
  | tup b => exact isi_tup_tuple
  | lst b => exact isi_lst_tuple
theorem isInst_list {d : D} (h : cmpOk d = true) : isInst d "list" = some (match d with | .lst _ => true | _ => false) := by
  cases d with
  | ref a => cases h
  | ty a => cases h
  | set f n => cases h
  | dic ks ds => cases h
  | obj c fs ds => cases h
  | non => exact isi_non_list
  | bl b => exact isi_bl_list
  | int b => exact isi_int_list
  | str b => exact isi_str_list
  | tup b => exact isi_tup_list
  | lst b => exact isi_lst_list
theorem ixN31 : ixN 3 1 = some 1 := rfl
theorem ixN32 : ixN 3 2 = some 2 := rfl
theorem sFor_i {qi : QA} {g : QG} {tb : QS} {D' : QK} {ρ : Ev} {M : Mu} (I : Nat → Ev → Mu → Prop) (ds : List D) (h : ∀ Q : List D → Ev → Mu → Prop, Q ds ρ M → qi ρ M Q) (h0 : I 0 ρ M)
    (hs : ∀ i d ρ M, ds[i]? = some d → I i ρ M → g d ρ fun ρ2 => tb { nx := I (i + 1), ct := I (i + 1), bk := D'.nx, rt := D'.rt } ρ2 M) (hn : ∀ ρ M, I ds.length ρ M → D'.nx ρ M) : sFor qi g tb D' ρ M := h _ ⟨I, h0, hs, hn⟩
theorem at_lit (P : D → Prop) {ds : List D} {r : Int} (h0 : 0 ≤ r) (h1 : r < ds.length) (h : ∀ d ∈ ds, P d) : ∃ d, atI ds r = some d ∧ P d := by
  have h2 : r.toNat < ds.length := by omega
  exact ⟨ds[r.toNat], atI_nn h0 (List.getElem?_eq_getElem h2), h _ (List.getElem_mem h2)⟩
/-- a whole number within bounds -/
def InB (a b : Int) (d : D) : Prop := ∃ v, d = .int v ∧ a ≤ v ∧ v ≤ b
theorem InB.mk {a b v : Int} (h1 : a ≤ v) (h2 : v ≤ b) : InB a b (.int v) := ⟨v, rfl, h1, h2⟩
theorem at_int (a b : Int) {ds : List D} {r : Int} (h0 : 0 ≤ r) (h1 : r < ds.length) (h : ∀ d ∈ ds, InB a b d) : ∃ v, atI ds r = some (.int v) ∧ a ≤ v ∧ v ≤ b := by
  obtain ⟨d, e, v, rfl, h2⟩ := at_lit (InB a b) h0 h1 h
  exact ⟨v, e, h2⟩
/-- a whole number of a list, with something known of it -/
theorem at_intP (P : Int → Prop) {ds : List D} {r : Int} (h0 : 0 ≤ r) (h1 : r < ds.length) (h : ∀ d ∈ ds, ∃ v, d = .int v ∧ P v) : ∃ v, atI ds r = some (.int v) ∧ P v := by
  obtain ⟨d, e, v, rfl, h2⟩ := at_lit (fun d => ∃ v, d = .int v ∧ P v) h0 h1 h
  exact ⟨v, e, h2⟩
theorem sSeq_i {t u : QS} {D' : QK} {ρ : Ev} {M : Mu} (h : ∀ N : Ev → Mu → Prop, (∀ ρ M, u D' ρ M → N ρ M) → t { D' with nx := N } ρ M) : sSeq t u D' ρ M := h _ fun _ _ h => h
end PL
namespace PL
open PySem PySem.Spec PyProof.Rows L2
/-- a comprehension that picks and maps, without effect -/
theorem eLc_fm {qi : QA} {g : QG} {qt : QT} {qe : QE} {vs : List Nat} {ρ : Ev} {M : Mu} {Q : Sl → Ev → Mu → Prop} (h : D → Option D) (ds : List D)
    (hq : ∀ Q : List D → Ev → Mu → Prop, Q ds ρ M → qi ρ M Q) (hv : notOw ρ vs = true) (hl : ds.length < 16777216)
    (hs : ∀ (i : Nat) (d : D) (acc : List D) (J : List D → Mu → Prop), ds[i]? = some d → acc.length < 16777216 → J (acc ++ (h d).toList) M → g d (wipeE ρ vs) fun ρ2 => wipeE ρ2 vs = wipeE ρ vs ∧ qt ρ2 M fun b ρ3 M3 => ρ3 = ρ2 ∧
      (if b = true then qe ρ3 M3 fun r ρ4 M4 => ρ4 = ρ3 ∧ acc.length < 16777216 ∧ J (acc ++ [r.val]) M4 else J acc M3))
    (hk : Q (.ow (.lst (ds.filterMap h))) ρ M) : eLc qi g qt qe vs ρ M Q := by
  refine hq _ ⟨hv, fun i acc M' => M' = M ∧ acc = (ds.take i).filterMap h ∧ i ≤ ds.length, ⟨rfl, rfl, Nat.zero_le _⟩, ?_, ?_⟩
  · rintro i d acc M' hd ⟨rfl, rfl, hi⟩
    have hlt : i < ds.length := by
      rcases Nat.lt_or_ge i ds.length with w | w
      · exact w
      · rw [List.getElem?_eq_none w] at hd; cases hd
    have ht : ds.take (i + 1) = ds.take i ++ [d] := by rw [List.take_add_one, hd]; rfl
    have hlen : ((ds.take i).filterMap h).length < 16777216 := by
      have h1 := List.length_filterMap_le h (ds.take i)
      rw [List.length_take] at h1
      omega
    refine hs i d _ (fun acc M2 => M2 = M' ∧ acc = (ds.take (i + 1)).filterMap h ∧ i + 1 ≤ ds.length) hd hlen ⟨rfl, ?_, by omega⟩
    rw [ht, List.filterMap_append]
    cases e : h d <;> simp [e]
  · rintro acc M' ⟨rfl, rfl, _⟩
    rw [List.take_length]
    exact hk
theorem rangeL_nil {lo hi : Int} (h : hi ≤ lo) : rangeL lo hi = [] := by
  unfold rangeL
  rw [show (hi - lo).toNat = 0 by omega]
  rfl
theorem rangeL_cons {lo hi : Int} (h : lo < hi) : rangeL lo hi = .int lo :: rangeL (lo + 1) hi := by
  unfold rangeL
  rw [show (hi - lo).toNat = (hi - (lo + 1)).toNat + 1 by omega, List.range_succ_eq_map, List.map_cons, List.map_map]
  congr 1
  · simp
  · refine List.map_congr_left fun k _ => ?_
    simp only [Function.comp]
    congr 1
    omega
/-- the whole numbers from lo that are less than hi -/
def rgI (lo hi : Int) : List Int := (List.range (hi - lo).toNat).map fun (k : Nat) => lo + (k : Int)
theorem rangeL_rgI (lo hi : Int) : rangeL lo hi = (rgI lo hi).map D.int := by
  unfold rangeL rgI
  rw [List.map_map]
  rfl
theorem rgI_len (lo hi : Int) : (rgI lo hi).length = (hi - lo).toNat := by unfold rgI; rw [List.length_map, List.length_range]
theorem rgI_mem {lo hi n : Int} : n ∈ rgI lo hi ↔ lo ≤ n ∧ n < hi := by
  unfold rgI
  rw [List.mem_map]
  constructor
  · rintro ⟨k, h, rfl⟩
    have := List.mem_range.mp h
    omega
  · intro h
    exact ⟨(n - lo).toNat, List.mem_range.mpr (by omega), by omega⟩
theorem rgI_get {lo hi : Int} {i : Nat} {n : Int} (h : (rgI lo hi)[i]? = some n) : n = lo + i ∧ i < (hi - lo).toNat := by
  unfold rgI at h
  rw [List.getElem?_map] at h
  cases e : (List.range (hi - lo).toNat)[i]? with
  | none => rw [e] at h; cases h
  | some k =>
    rw [e] at h
    have h : lo + (k : Int) = n := Option.some.inj h
    obtain ⟨h1, h2⟩ := List.getElem?_eq_some_iff.mp e
    rw [List.getElem_range] at h2
    rw [List.length_range] at h1
    omega
theorem rgI_nil {lo hi : Int} (h : hi ≤ lo) : rgI lo hi = [] := by
  unfold rgI
  rw [show (hi - lo).toNat = 0 by omega]
  rfl
theorem rgI_cons {lo hi : Int} (h : lo < hi) : rgI lo hi = lo :: rgI (lo + 1) hi := by
  unfold rgI
  rw [show (hi - lo).toNat = (hi - (lo + 1)).toNat + 1 by omega, List.range_succ_eq_map, List.map_cons, List.map_map]
  congr 1
  · simp
  · refine List.map_congr_left fun k _ => ?_
    simp only [Function.comp]
    omega
theorem rgI_filter {P : Int → Prop} [DecidablePred P] {lo hi a b : Int} (h : ∀ n, lo ≤ n → n < hi → (P n ↔ a ≤ n ∧ n < b)) (ha : lo ≤ a) (hb : b ≤ hi) : (rgI lo hi).filter (fun n => decide (P n)) = rgI a b := by
  generalize hk : (hi - lo).toNat = k
  induction k generalizing lo a with
  | zero =>
    rw [rgI_nil (show hi ≤ lo by omega), rgI_nil (show b ≤ a by omega)]
    rfl
  | succ k ih =>
    rw [rgI_cons (show lo < hi by omega), List.filter_cons]
    have hP := h lo (Int.le_refl _) (by omega)
    by_cases e : P lo
    · have := hP.mp e
      have ea : a = lo := by omega
      subst ea
      rw [if_pos (by simp [e]), rgI_cons (show a < b by omega)]
      congr 1
      refine ih (fun n h1 h2 => ?_) (Int.le_refl _) (by omega)
      rw [h n (by omega) h2]
      omega
    · rw [if_neg (by simp [e])]
      by_cases hl : a = lo
      · have hab : b ≤ a := by
          rcases Int.lt_or_le a b with w | w
          · exact absurd (hP.mpr (by omega)) e
          · exact w
        rw [ih (a := a + 1) (fun n h1 h2 => by rw [h n (by omega) h2]; omega) (by omega) (by omega), rgI_nil (show b ≤ a + 1 by omega), rgI_nil hab]
      · exact ih (fun n h1 h2 => h n (by omega) h2) (by omega) (by omega)
/-- what a comprehension over whole numbers picks, when it keeps the number -/
def pickI (P : Int → Prop) [DecidablePred P] : D → Option D
  | .int n => if P n then some (.int n) else none
  | _ => none
theorem pickI_map (P : Int → Prop) [DecidablePred P] : ∀ ns : List Int, (ns.map D.int).filterMap (pickI P) = (ns.filter fun n => decide (P n)).map D.int
  | [] => rfl
  | n :: ns => by
    rw [List.map_cons, List.filterMap_cons, List.filter_cons, pickI_map P ns]
    unfold pickI
    by_cases e : P n
    · simp [e]
    · simp [e]
theorem cmpOk_rangeL {a b : Int} : cmpOk (.lst (rangeL a b)) = true := by rw [rangeL_rgI]; exact cmpOk_ints
def chS (r : Sl) (A B : Prop) : Prop := match r with
  | .va (.bl true) => A
  | .va (.bl false) => B
  | _ => False
theorem chS_dec {p : Prop} [Decidable p] {A B : Prop} : chS (.va (.bl (decide p))) A B = (if p then A else B) := by
  by_cases h : p
  · rw [if_pos h, decide_eq_true h]; rfl
  · rw [if_neg h, decide_eq_false h]; rfl
theorem chS_true {A B : Prop} : chS (.va (.bl true)) A B = A := rfl
theorem chS_false {A B : Prop} : chS (.va (.bl false)) A B = B := rfl
theorem eChain_eq {od od' : OD} {qa qb qc : QB} : eChain od od' qa qb qc = fun ρ M Q => qa ρ M fun d1 ρ1 M1 => qb ρ1 M1 fun d2 ρ2 M2 => od d1 d2 fun r => chS r (qc ρ2 M2 fun d3 ρ3 M3 => od' d2 d3 fun r => Q r ρ3 M3) (Q (.va (.bl false)) ρ2 M2) := by
  rfl
theorem wipeE_nil {ρ : Ev} : wipeE ρ [] = ρ := rfl
theorem wipeE_cons {ρ : Ev} {v : Nat} {vs : List Nat} : wipeE ρ (v :: vs) = (wipeE ρ vs).set v .un := rfl
theorem pickI_t {P : Int → Prop} [DecidablePred P] {n : Int} (h : P n) : pickI P (.int n) = some (.int n) := if_pos h
theorem pickI_f {P : Int → Prop} [DecidablePred P] {n : Int} (h : ¬ P n) : pickI P (.int n) = none := if_neg h
/-- what a picking comprehension's turn asks -/
theorem pickI_J {P : Int → Prop} [DecidablePred P] {n : Int} {acc : List D} {J : List D → Mu → Prop} {M : Mu} (hl : acc.length < 16777216) (h : J (acc ++ (pickI P (.int n)).toList) M) : if P n then acc.length < 16777216 ∧ J (acc ++ [D.int n]) M else J acc M := by
  by_cases e : P n
  · rw [if_pos e]; rw [pickI_t e] at h; exact ⟨hl, h⟩
  · rw [if_neg e]; rw [pickI_f e] at h; simpa using h
end PL
namespace PL
open PySem PySem.Spec PyProof.Rows L2
/-! ### comparing literal data -/
def CkAl (n : Nat) (ds : List D) : Prop := ∀ d ∈ ds, Ck n d
theorem ckAl_nil {n : Nat} : CkAl n [] := fun _ h => (by cases h)
theorem ckAl_cons {n : Nat} {d : D} {ds : List D} : CkAl n (d :: ds) ↔ Ck n d ∧ CkAl n ds := by unfold CkAl; simp
theorem ckAl_ints {n : Nat} {ns : List Int} : CkAl n (ns.map D.int) := ck_intsA
theorem ckAl_rangeL {n : Nat} {a b : Int} : CkAl n (rangeL a b) := by rw [rangeL_rgI]; exact ck_intsA
theorem cmpOk_lstA {ds : List D} : cmpOk (.lst ds) = true ↔ CkAl 63 ds := cmpOk_iff.trans ck_lst
theorem cmpOk_tupA {ds : List D} : cmpOk (.tup ds) = true ↔ CkAl 63 ds := cmpOk_iff.trans ck_tup
theorem ckA_lst {n : Nat} {ds : List D} : Ck (n + 1) (.lst ds) ↔ CkAl n ds := ck_lst
theorem ckA_tup {n : Nat} {ds : List D} : Ck (n + 1) (.tup ds) ↔ CkAl n ds := ck_tup
theorem cmpOk_str {x : Str} : cmpOk (.str x) = true ↔ PyData.strOk x = true := by
  rw [cmpOk_iff]
  constructor
  · intro h
    have := h.2.1
    simpa [toPy, PyData.canLay0] using this
  · exact ck_str
theorem ck_strI {n : Nat} {x : Str} : Ck n (.str x) ↔ PyData.strOk x = true := ⟨fun h => by simpa [toPy, PyData.canLay0] using h.2.1, ck_str⟩
theorem decEq_self {α : Type} [DecidableEq α] (a : α) : decide (a = a) = true := decide_eq_true rfl
theorem chS_bl {b : Bool} {A B : Prop} : chS (.va (.bl b)) A B = (if b = true then A else B) := by cases b <;> rfl
theorem eAnd_eq {qa qb : QE} : eAnd qa qb = fun ρ M Q => qa ρ M fun r ρ1 M1 => chS r (qb ρ1 M1 Q) (Q (.va (.bl false)) ρ1 M1) := rfl
theorem eOr_eq {qa qb : QE} : eOr qa qb = fun ρ M Q => qa ρ M fun r ρ1 M1 => chS r (Q (.va (.bl true)) ρ1 M1) (qb ρ1 M1 Q) := by
  unfold eOr
  funext ρ M Q
  congr 1
  funext r ρ1 M1
  unfold chS
  split <;> first | rfl | (split <;> first | rfl | (rename_i a b c; cases b) | skip)
  all_goals first | rfl | contradiction | skip
/-- a statement that is never come to -/
def sNever : QS := fun _ _ _ => False
theorem qs_never {X : Cx} {z : Z} {s : Stmt} : PS X s (liS z sNever) := by
  constructor
  intro pins s2 σ H Q I h
  obtain ⟨_, _, _, _, _, h, _⟩ := h
  exact h.elim
/-- a comprehension that picks and maps, without effect -/
theorem eLc_fmj {qi : QA} {g : QG} {qt : QT} {qe : QE} {vs : List Nat} {ρ0 : Ev} {M0 : Mu} {Q : Sl → Ev → Mu → Prop} (h : D → Option D) (ds : List D) (ρ : Ev) (M : Mu)
    (hq : ∀ Q : List D → Ev → Mu → Prop, Q ds ρ M → qi ρ0 M0 Q) (hv : notOw ρ vs = true) (hl : ds.length < 16777216)
    (hs : ∀ (i : Nat) (d : D) (acc : List D) (J : List D → Mu → Prop), ds[i]? = some d → acc.length < 16777216 → J (acc ++ (h d).toList) M → g d (wipeE ρ vs) fun ρ2 => wipeE ρ2 vs = wipeE ρ vs ∧ qt ρ2 M fun b ρ3 M3 => ρ3 = ρ2 ∧
      (if b = true then qe ρ3 M3 fun r ρ4 M4 => ρ4 = ρ3 ∧ acc.length < 16777216 ∧ J (acc ++ [r.val]) M4 else J acc M3))
    (hk : Q (.ow (.lst (ds.filterMap h))) ρ M) : eLc qi g qt qe vs ρ0 M0 Q := by
  refine hq _ ⟨hv, fun i acc M' => M' = M ∧ acc = (ds.take i).filterMap h ∧ i ≤ ds.length, ⟨rfl, rfl, Nat.zero_le _⟩, ?_, ?_⟩
  · rintro i d acc M' hd ⟨rfl, rfl, hi⟩
    have hlt : i < ds.length := by
      rcases Nat.lt_or_ge i ds.length with w | w
      · exact w
      · rw [List.getElem?_eq_none w] at hd; cases hd
    have ht : ds.take (i + 1) = ds.take i ++ [d] := by rw [List.take_add_one, hd]; rfl
    have hlen : ((ds.take i).filterMap h).length < 16777216 := by
      have h1 := List.length_filterMap_le h (ds.take i)
      rw [List.length_take] at h1
      omega
    refine hs i d _ (fun acc M2 => M2 = M' ∧ acc = (ds.take (i + 1)).filterMap h ∧ i + 1 ≤ ds.length) hd hlen ⟨rfl, ?_, by omega⟩
    rw [ht, List.filterMap_append]
    cases e : h d <;> simp [e]
  · rintro acc M' ⟨rfl, rfl, _⟩
    rw [List.take_length]
    exact hk
theorem sFor_j {qi : QA} {g : QG} {tb : QS} {D' : QK} {ρ0 : Ev} {M0 : Mu} (I : Nat → Ev → Mu → Prop) (ds : List D) (ρ : Ev) (M : Mu) (h : ∀ Q : List D → Ev → Mu → Prop, Q ds ρ M → qi ρ0 M0 Q) (h0 : I 0 ρ M)
    (hs : ∀ i d ρ M, ds[i]? = some d → I i ρ M → g d ρ fun ρ2 => tb { nx := I (i + 1), ct := I (i + 1), bk := D'.nx, rt := D'.rt } ρ2 M) (hn : ∀ ρ M, I ds.length ρ M → D'.nx ρ M) : sFor qi g tb D' ρ0 M0 := h _ ⟨I, h0, hs, hn⟩
def mapI (f : Int → Int) : D → Option D
  | .int n => some (.int (f n))
  | _ => none
theorem mapI_map (f : Int → Int) : ∀ ns : List Int, (ns.map D.int).filterMap (mapI f) = (ns.map f).map D.int
  | [] => rfl
  | n :: ns => by
    rw [List.map_cons, List.filterMap_cons, List.map_cons, mapI_map f ns]
    rfl
theorem at_ints {ns : List Int} {i : Int} (h0 : 0 ≤ i) (h1 : i < ns.length) : ∃ v, ns[i.toNat]? = some v ∧ atI (ns.map D.int) i = some (.int v) := by
  have h2 : i.toNat < ns.length := by omega
  refine ⟨ns[i.toNat], List.getElem?_eq_getElem h2, atI_nn h0 ?_⟩
  rw [List.getElem?_map, List.getElem?_eq_getElem h2]
  rfl
theorem ints_get {ns : List Int} {i : Nat} {d : D} (h : (ns.map D.int)[i]? = some d) : ∃ v, d = .int v ∧ ns[i]? = some v := by
  rw [List.getElem?_map] at h
  cases e : ns[i]? with
  | none => rw [e] at h; cases h
  | some v => rw [e] at h; exact ⟨v, (Option.some.inj h).symm, rfl⟩
theorem rgI_getI {lo hi i : Int} (h0 : 0 ≤ i) (h1 : i < hi - lo) : atI ((rgI lo hi).map D.int) i = some (.int (lo + i)) := by
  obtain ⟨v, e, e2⟩ := at_ints (ns := rgI lo hi) h0 (by rw [rgI_len]; omega)
  have := (rgI_get e).1
  rw [e2]
  congr 2
  omega
theorem rgI_shift {f : Int} {l : Int} : (rgI 0 l).map (fun k => f + k) = rgI f (f + l) := by
  unfold rgI
  rw [List.map_map, show (f + l - f).toNat = (l - 0).toNat by omega]
  refine List.map_congr_left fun k _ => ?_
  simp only [Function.comp]
  omega
end PL
namespace PL
open PySem PySem.Spec PyProof.Rows L2
theorem intsOf_ints : ∀ ns : List Int, intsOf (ns.map D.int) = some ns
  | [] => rfl
  | n :: ns => by
    rw [List.map_cons]
    unfold intsOf
    rw [intsOf_ints ns]
    rfl
theorem boolsOf_bls : ∀ ns : List Bool, boolsOf (ns.map D.bl) = some ns
  | [] => rfl
  | n :: ns => by
    rw [List.map_cons]
    unfold boolsOf
    rw [boolsOf_bls ns]
    rfl
theorem plAnyI {a : Int} : ∀ ns : List Int, ((ns.map D.int).any fun x => deq x (.int a)) = decide (a ∈ ns)
  | [] => by simp
  | n :: ns => by
    rw [List.map_cons, List.any_cons, plAnyI ns, deq_int, Bool.eq_iff_iff]
    simp only [Bool.or_eq_true, decide_eq_true_eq, List.mem_cons]
    rw [show (n = a) = (a = n) from propext ⟨Eq.symm, Eq.symm⟩]
theorem plAnyR {lo hi a : Int} : ((rangeL lo hi).any fun x => deq x (.int a)) = decide (lo ≤ a ∧ a < hi) := by
  rw [rangeL_rgI, plAnyI, Bool.eq_iff_iff]
  simp [rgI_mem]
/-- strictly ascending -/
abbrev Asc (ns : List Int) : Prop := ns.Pairwise (· < ·)
/-- how many are below -/
def cntL (ns : List Int) (r : Int) : Int := ((ns.filter fun n => decide (n < r)).length : Nat)
theorem asc_of {ms : List Int} (h : ms.Pairwise (· ≤ ·)) (n : ms.Nodup) : Asc ms := by
  have := List.Pairwise.and h n
  exact this.imp fun ⟨a, b⟩ => by omega
theorem Asc.get {ns : List Int} (h : Asc ns) {i j : Nat} {a b : Int} (hij : i < j) (ha : ns[i]? = some a) (hb : ns[j]? = some b) : a < b := by
  obtain ⟨h1, rfl⟩ := List.getElem?_eq_some_iff.mp ha
  obtain ⟨h2, rfl⟩ := List.getElem?_eq_some_iff.mp hb
  exact List.pairwise_iff_getElem.mp h i j h1 h2 hij
/-- the place among ascending ones -/
theorem cntL_at {ns : List Int} (h : Asc ns) {k : Nat} {r : Int} (hk : k ≤ ns.length) (h1 : ∀ i v, i < k → ns[i]? = some v → v < r) (h2 : ∀ i v, k ≤ i → ns[i]? = some v → r ≤ v) : cntL ns r = k := by
  unfold cntL
  have e : ns.filter (fun n => decide (n < r)) = ns.take k := by
    conv => lhs; rw [← List.take_append_drop k ns]
    rw [List.filter_append, List.filter_eq_self.mpr, List.filter_eq_nil_iff.mpr, List.append_nil]
    · intro v hv
      obtain ⟨i, hi, rfl⟩ := List.mem_iff_getElem.mp hv
      rw [List.getElem_drop]
      have := h2 (k + i) _ (by omega) (List.getElem?_eq_getElem (by rw [List.length_drop] at hi; omega))
      simp; omega
    · intro v hv
      obtain ⟨i, hi, rfl⟩ := List.mem_iff_getElem.mp hv
      rw [List.getElem_take]
      have := h1 i _ (by rw [List.length_take] at hi; omega) (List.getElem?_eq_getElem (by rw [List.length_take] at hi; omega))
      simp; omega
  rw [e, List.length_take]
  omega
theorem cntL_le {ns : List Int} {r : Int} : 0 ≤ cntL ns r ∧ cntL ns r ≤ ns.length := by
  unfold cntL
  have := List.length_filter_le (fun n => decide (n < r)) ns
  omega
/-- before the place they are less, from it on they aren't -/
theorem cntL_lt {ns : List Int} (h : Asc ns) {r : Int} {i : Nat} {v : Int} (e : ns[i]? = some v) : v < r ↔ (i : Int) < cntL ns r := by
  induction ns generalizing i with
  | nil => cases e
  | cons n ns ih =>
    have hA : Asc ns := (List.pairwise_cons.mp h).2
    have hn := (List.pairwise_cons.mp h).1
    unfold cntL at ih ⊢
    rw [List.filter_cons]
    by_cases c : n < r
    · rw [if_pos (by simp [c]), List.length_cons]
      cases i with
      | zero => cases e; constructor <;> intro _ <;> omega
      | succ i =>
        have := ih hA (i := i) e
        rw [this]
        omega
    · rw [if_neg (by simp [c])]
      have e2 : ns.filter (fun n => decide (n < r)) = [] := List.filter_eq_nil_iff.mpr fun w hw => by have := hn w hw; simp; omega
      rw [e2]
      have : n ≤ v := by
        cases i with
        | zero => cases e; omega
        | succ i => have := hn v (List.mem_of_getElem? e); omega
      simp only [List.length_nil]
      constructor <;> intro _ <;> omega
/-- a loop over these data -/
def LoopK (g : QG) (tb : QS) (D' : QK) (ds : List D) (ρ : Ev) (M : Mu) : Prop := ∃ I : Nat → Ev → Mu → Prop, I 0 ρ M ∧
  (∀ i d ρ M, ds[i]? = some d → I i ρ M → g d ρ fun ρ2 => tb { nx := I (i + 1), ct := I (i + 1), bk := D'.nx, rt := D'.rt } ρ2 M) ∧ (∀ ρ M, I ds.length ρ M → D'.nx ρ M)
theorem sFor_k {qi : QA} {g : QG} {tb : QS} {D' : QK} {ρ : Ev} {M : Mu} (h : ∀ N : List D → Ev → Mu → Prop, (∀ ds ρ1 M1, LoopK g tb D' ds ρ1 M1 → N ds ρ1 M1) → qi ρ M N) : sFor qi g tb D' ρ M := h _ fun _ _ _ h => h
theorem loop_i {g : QG} {tb : QS} {D' : QK} {ds : List D} {ρ : Ev} {M : Mu} (I : Nat → Ev → Mu → Prop) (h0 : I 0 ρ M)
    (hs : ∀ J : Nat → Ev → Mu → Prop, (∀ i ρ M, I i ρ M → J i ρ M) → ∀ i d ρ M, ds[i]? = some d → I i ρ M → g d ρ fun ρ2 => tb { nx := J (i + 1), ct := J (i + 1), bk := D'.nx, rt := D'.rt } ρ2 M)
    (hn : ∀ ρ M, I ds.length ρ M → D'.nx ρ M) : LoopK g tb D' ds ρ M := ⟨I, h0, hs I fun _ _ _ h => h, hn⟩
theorem sWhile_i {c : QT} {tb : QS} {D' : QK} {ρ : Ev} {M : Mu} (I : Nat → Ev → Mu → Prop) (m0 : Nat) (h0 : I m0 ρ M)
    (hs : ∀ (m : Nat) (J : Ev → Mu → Prop), (∀ m' ρ M, m' < m → I m' ρ M → J ρ M) → ∀ ρ M, I m ρ M → c ρ M fun b ρ1 M1 => if b = true then tb { nx := J, ct := J, bk := D'.nx, rt := D'.rt } ρ1 M1 else D'.nx ρ1 M1) : sWhile c tb D' ρ M :=
  ⟨I, ⟨m0, h0⟩, fun m ρ M h => hs m (fun ρ M => ∃ m', m' < m ∧ I m' ρ M) (fun m' ρ M l h => ⟨m', l, h⟩) ρ M h⟩
theorem atI_last {ns : List Int} (h : 0 < ns.length) : atI (ns.map D.int) (-1) = some (.int (ns.getD (ns.length - 1) 0)) := by
  have e : (ns.map D.int)[ns.length - 1]? = some (.int (ns.getD (ns.length - 1) 0)) := by
    rw [List.getElem?_map, List.getD_eq_getElem?_getD, List.getElem?_eq_getElem (by omega)]
    rfl
  unfold atI ixN
  rw [List.length_map]
  simp only [show ¬ (0 : Int) ≤ -1 by omega, if_false]
  rw [if_pos (by omega), show (-1 + (ns.length : Int)).toNat = ns.length - 1 by omega]
  exact e
end PL
namespace PL
open PySem PySem.Spec PyProof.Rows L2
/-! ### a, b, .. = a tuple or a list -/
def gSq (n : Nat) (gs : QGs) : QG := fun d ρ Q => match d with
  | .tup ds => ds.length = n ∧ gs ds ρ Q
  | .lst ds => ds.length = n ∧ gs ds ρ Q
  | _ => False
section
variable {X : Cx} {z : Z} {pos : Pos} {e o : Expr} {es : List Expr} {gs : QGs} {as : List Nat}
theorem qg_lst {k n : Nat} (hc : X.calm = true) (h : PGs X es (liGs z as gs)) (hK : X.K = z.K := by first | assumption | rfl) (hn : (assignEach es X.env).length = n := by rfl) (hst : (assignEach es X.env).findIdx? (·.1) = none := by rfl) :
    PG X (.Tuple es k pos) (liG z as fun d ρ Q => match d with | .lst ds => ds.length = n ∧ gs ds ρ Q | _ => False) :=
  pg_w (pg_lst hc h hn hst) fun v σ H Q ⟨S, M, ρ, d, Q0, sim, r, h, post⟩ => by
    dsimp only at h
    split at h
    · cases r with
      | lst r1 r2 => exact ⟨_, _, rfl, .of (sim.sub _ _ r1), by rw [r2.length]; exact h.1, S, M, ρ, _, Q0, sim, r2, h.2, post⟩
    · exact h.elim
theorem qg_seq {k n : Nat} (hc : X.calm = true) (h : PGs X es (liGs z as gs)) (hK : X.K = z.K := by first | assumption | rfl) (hn : (assignEach es X.env).length = n := by rfl) (hst : (assignEach es X.env).findIdx? (·.1) = none := by rfl) : PG X (.Tuple es k pos) (liG z as (gSq n gs)) := by
  refine ⟨fun pins s σ H v u Q I r ⟨S, M, ρ, d, Q0, sim, rp, h0, post⟩ => ?_⟩
  unfold gSq at h0
  split at h0
  · exact (qg_tup (n := n) hc h hK hn hst).run pins s σ H v u Q I r ⟨S, M, ρ, _, Q0, sim, rp, h0, post⟩
  · exact (qg_lst (n := n) hc h hK hn hst).run pins s σ H v u Q I r ⟨S, M, ρ, _, Q0, sim, rp, h0, post⟩
  · exact h0.elim

/-! ### methods of built-in types -/
abbrev MD := D → List D → (Sl → Prop) → Prop
/-- the built-in type of data -/
def tyM : D → String
  | .lst _ => "list"
  | .str _ => "str"
  | .set _ _ => "set"
  | _ => ""
def MethB (X : Cx) (z : Z) (id : String) (md : MD) : Prop :=
  ∀ (pins : List (Addr × Obj)) (s : Shared) (σ : St) (H S : Hp) (M : Mu) (ρ : Ev) (x : V) (v : Value) (xs : List V) (us : List Value) (d : D) (ds : List D) (Q0 : Sl → Prop), Inv X pins σ H s → Sim z S M ρ σ H → Rb z.K S M H x d → RbA z.K S M H xs ds → RelV x v → Vals xs us → md d ds Q0 →
    wpAny (model X.prog X.w) X.A (call (.builtin id) (v :: us)) (EP X pins σ (PoE z S M σ H fun r ρ' M' => ρ' = ρ ∧ M' = M ∧ Q0 r)) X.xe s
theorem methB_of {id : String} {md : MD} {r : V → List V → Hp → VK → Prop} (h : MtR X id r)
    (k : ∀ (σ : St) (H S : Hp) (M : Mu) (ρ : Ev) (x : V) (xs : List V) (d : D) (ds : List D) (Q0 : Sl → Prop), Sim z S M ρ σ H → Rb z.K S M H x d → RbA z.K S M H xs ds → md d ds Q0 → r x xs H (PoE z S M σ H fun r ρ' M' => ρ' = ρ ∧ M' = M ∧ Q0 r)) : MethB X z id md :=
  fun pins s σ H S M ρ x v xs us d ds Q0 I sim b rb rx rv q => h pins s σ H x xs v us _ I rx rv (k σ H S M ρ x xs d ds Q0 sim b rb q)
def eM (T : String) (md : MD) (qo : QB) (qr : QA) : QE := fun ρ M Q => qo ρ M fun d ρ1 M1 => tyM d = T ∧ qr ρ1 M1 fun ds ρ2 M2 => md d ds fun r => Q r ρ2 M2
theorem tyV_of {S : Hp} {M : Mu} {ρ : Ev} {σ : St} {H : Hp} {x : V} {d : D} {T : String} (hT : T ≠ "") (sim : Sim z S M ρ σ H) (b : Rb z.K S M H x d) (e : tyM d = T) (hK : X.K = z.K := by first | assumption | rfl) : tyV X.K T x H := by
  cases d with
  | lst ds =>
    cases e
    obtain ⟨a, xs, rfl, h1, _⟩ := b.lst sim.sub
    exact .inl ⟨rfl, xs, .of h1⟩
  | str x => cases e; rw [b.str]; rfl
  | set f n =>
    cases e
    rcases b with b | ⟨_, _, _, rfl, e, _⟩
    · cases b with | set h1 => exact .inr (.inr (.inr ⟨rfl, _, _, sim.sub _ _ h1⟩))
    · cases e
  | _ => exact absurd e.symm hT
theorem meth_lift {T : String} {md : MD} {qo : QB} {qr : QA} (hT : T ≠ "") (hK : X.K = z.K) {σ : St} {H : Hp} {Q : VK} (h : liE z (eM T md qo qr) σ H Q) :
    liB z qo σ H fun x H1 => tyV X.K T x H1 ∧ liAB z qr σ H1 fun xs H2 => ∃ S M ρ d ds Q0, Sim z S M ρ σ H2 ∧ Rb z.K S M H2 x d ∧ RbA z.K S M H2 xs ds ∧ md d ds Q0 ∧ ∀ v H', PoE z S M σ H2 (fun r ρ' M' => ρ' = ρ ∧ M' = M ∧ Q0 r) v H' → Q v H' := by
  obtain ⟨S, M, ρ, Q0, sim, h, post⟩ := h
  refine ⟨S, M, ρ, _, sim, h, fun x H1 ⟨d1, ρ1, M1, S1, ⟨ty, q1⟩, st1, sim1, b1⟩ => ⟨tyV_of hT sim1 b1 ty, S1, M1, ρ1, _, sim1, q1, fun xs H2 ⟨ds, ρ2, M2, S2, q2, st2, sim2, b2⟩ => ?_⟩⟩
  refine ⟨S2, M2, ρ2, d1, ds, _, sim2, b1.step st2, b2, q2, fun v H' ⟨r, ρ', M', S', ⟨e1, e2, q⟩, st, sim', res⟩ => post v H' ⟨r, ρ', M', S', ?_, (st1.trans st2).trans st, sim', res⟩⟩
  subst e1 e2
  exact q
theorem qe_meth {T id : String} {name : Str} {md : MD} {qo : QB} {qr : QA} {apos cpos : Pos} (hm : MethB X z id md) (pa : PlainAttrs T) (slot : Slot T name id) (hty : typeOf (.builtin id) = pure (.type "method_descriptor")) (hT : T ≠ "") (ho : PE X o (liB z qo)) (ha : PA X (e :: es) (liAB z qr)) (hK : X.K = z.K := by first | assumption | rfl)
    (hbase : attributeBase o name X.env (eval o X.env) = eval o X.env := by rfl)
    (hfew : ((backTo cpos (starEach (e :: es) X.env)).all (fun x => !x.1) && (backToKw cpos (keywordEach [] X.env)).all (fun x => x.1.isSome)
      && decide ((e :: es).length + ([] : List Keyword).length + (if ([] : List Keyword).isEmpty then 0 else 1) < 30)) = true := by rfl)
    (hline : (apos.endLine == cpos.line) = true := by rfl) (hs : starEach (e :: es) X.env = (false, eval e X.env) :: starEach es X.env := by rfl) (hplain : (backTo cpos (starEach es X.env)).any (·.1) = false := by rfl) :
    PE X (.Call (.Attribute o name apos) (e :: es) [] cpos) (liE z (eM T md qo qr)) := by
  refine ⟨fun pins s σ H Q I h => ?_⟩
  refine wpAny_Call_method_late hbase hfew hline rfl (thn (ho.run pins s σ H _ I (meth_lift hT hK h)) fun v s1 ⟨x, H1, I1, r1, ty, q1⟩ => ?_)
  obtain ⟨h1, h2⟩ := tyV_is I1 r1 ty
  refine ⟨T, id, pa, slot, hty, h1, h2, ?_⟩
  have hA := ha.run cpos pins s1 σ H1 _ I1 q1
  rw [hs] at hA ⊢
  refine Calls.callWith_builtin (by show (false || (backTo cpos (starEach es X.env)).any (·.1)) = false; rw [hplain] <;> rfl) (Calls.evalArgs_plain ?_)
  exact thn hA fun us s2 ⟨vs, H2, I2, r2, S, M, ρ, d, ds, Q0, sim, b, rb, q, post⟩ => thn (hm pins s2 σ H2 S M ρ x v vs us d ds Q0 I2 sim b rb r1 r2 q) fun w s3 ⟨y, H3, I3, r3, p3⟩ => ⟨y, H3, I3, r3, post _ _ p3⟩
/-- l.index(x): the first equal one -/
def mIndex : MD := fun d ds Q => match d, ds with
  | .lst xs, [a] => (cmpOk a = true ∧ cmpOk (.lst xs) = true) ∧ (match xs.findIdx? (fun x => deq x a) with | some j => Q (.va (.int (j : Nat))) | none => False)
  | _, _ => False
theorem toPyA_get : ∀ {xs : List D} {j : Nat} {d : D}, xs[j]? = some d → (toPyA xs)[j]? = some (toPy d)
  | d :: ds, 0, _, h => by cases h; rfl
  | d :: ds, j + 1, _, h => by
    rw [toPyA, List.getElem?_cons_succ]
    exact toPyA_get (by simpa using h)
theorem toPyA_len : ∀ {xs : List D}, (toPyA xs).length = xs.length
  | [] => rfl
  | d :: ds => by rw [toPyA, List.length_cons, List.length_cons, toPyA_len]
theorem mb_index (hu : X.A.units + 65 < cLine) (hK : X.K = z.K := by first | assumption | rfl) : MethB X z "list.index" mIndex := methB_of (mt_indexD hu) fun σ H S M ρ x xs d ds Q0 sim b rb q => by
  unfold mIndex at q
  split at q
  · rename_i ds a
    obtain ⟨⟨p1, p2⟩, q⟩ := q
    split at q
    · rename_i j hj
      cases rb with
      | cons r1 rr =>
        cases rr
        obtain ⟨l, ys, rfl, h1, k1⟩ := b.lst sim.sub
        unfold cmpOk at p1 p2
        rw [Bool.and_eq_true] at p1 p2
        have k2 := b.dp sim.sub p2.1
        rw [toPy] at k2 p2
        obtain ⟨hlt, e1, e2⟩ := List.findIdx?_eq_some_iff_getElem.mp hj
        refine ⟨l, _, toPy a, toPyA ds, j, toPy ds[j], rfl, rfl, by rw [hK]; exact k2, by rw [hK]; exact r1.dp sim.sub p1.1, p2.2, p1.2, toPyA_get (List.getElem?_eq_getElem hlt), e1, fun m z' hm hz => ?_, poE_va sim (.int _) q⟩
        have hml : m < ds.length := by omega
        rw [toPyA_get (List.getElem?_eq_getElem hml)] at hz
        cases hz
        have := e2 m hm
        simpa [deq] using this
    · exact q.elim
  · exact q.elim

/-! ### sets of ints -/
theorem poE_set {S : Hp} {M : Mu} {H : Hp} {ρ : Ev} {σ : St} {Q0 : Sl → Prop} {p : Addr} {f : Int → Bool} {n : Nat} (sim : Sim z S M ρ σ H) (hp : H p = none) (q : Q0 (.va (.set f n))) : PoE z S M σ H (fun r ρ' M' => ρ' = ρ ∧ M' = M ∧ Q0 r) (.ref p) (upd H p (.set f n)) := by
  obtain ⟨a, b⟩ := sim.alloc (o := .set f n) hp
  exact ⟨_, ρ, M, _, ⟨rfl, rfl, q⟩, b, a, Rp.set upd_same⟩
/-- set(tuple of ints) -/
def cSet : CD := fun ds Q => match ds with
  | [.tup xs] => ∃ ns : List Int, xs = ns.map D.int ∧ ns.length < 4000 ∧ ∀ c : Nat, c ≤ ns.length → Q (.va (.set (fun j => decide (j ∈ ns)) c))
  | _ => False
theorem cb_set (hc : X.calm = true) (hK : X.K = z.K := by first | assumption | rfl) : CallB X z (.type "set") cSet := by
  intro pins s σ H S M ρ xs us ds Q0 I sim rb rv q
  unfold cSet at q
  split at q
  · obtain ⟨ns, rfl, hl, q⟩ := q
    cases rb with
    | cons r1 rr =>
      cases rr
      obtain ⟨a, ys, rfl, h1, k1⟩ := r1.tup
      cases rv with
      | cons rx rt =>
        cases rt
        cases rx
        have h2 : SqT X.K H a ys := by rw [hK]; exact same_seqT sim.sub h1
        obtain ⟨its, rvs, pt, hz⟩ := I.tuple h2
        have hys : ys = ns.map V.int := k1.intsV
        subst hys
        refine call_set_tupI ns (I.ok.hd hc) pt rvs.ints (by unfold scanBound; omega) fun h' tk c R hcl hk => ?_
        have I1 : Inv X pins σ (upd H s.heap.objs.size (.set (fun j => decide (j ∈ ns)) c)) { s with heap := h', toks := tk } := I.laid hk (Nat.le_refl _) (show ObjOk X.prog X.w _ _ _ (.set (fun j => decide (j ∈ ns)) c) from R.setOf)
        exact ⟨.ref s.heap.objs.size, _, I1, rfl, poE_set sim (I.hok.fresh (Nat.le_refl _)) (q c hcl)⟩
  · exact q.elim
/-- in: a list, a tuple, a set -/
def dInX (neg : Bool) : OD := fun a b Q => match b with
  | .set f n => (match a with | .int i => Q (.va (.bl (if neg then !f i else f i))) | _ => False)
  | b => dIn neg a b Q
theorem Rb.setV {S : Hp} {M : Mu} {H : Hp} {v : V} {f : Int → Bool} {n : Nat} (h : Rb z.K S M H v (.set f n)) : ∃ a, v = .ref a ∧ S a = some (.set f n) := by
  rcases h with h | ⟨_, _, _, rfl, e, _⟩
  · cases h with | set a => exact ⟨_, rfl, a⟩
  · cases e
theorem ob_inX (hu : X.A.units + 65 < cLine) (hK : X.K = z.K := by first | assumption | rfl) : OpB X z (compareOp .In) (dInX false) := by
  intro pins s σ H S M ρ x y u w d1 d2 Q0 I sim b1 b2 r1 r2 q
  cases d2 with
  | set f n =>
    unfold dInX at q
    dsimp only at q
    split at q
    · rename_i i
      obtain ⟨a, rfl, ha⟩ := b2.setV
      rw [b1.int] at r1
      obtain ⟨tk, rfl⟩ := r1
      cases r2
      exact wpAny_inSet_of (intKind_is _ _ _ _) rfl (I.hok a _ (sim.sub _ _ ha)) ⟨.bl (f i), H, I.tok _, rfl, poE_va sim (.bl _) q⟩
    · exact q.elim
  | _ => exact ob_in hu hK pins s σ H S M ρ x y u w d1 _ Q0 I sim b1 b2 r1 r2 q
theorem ob_notInX (hu : X.A.units + 65 < cLine) (hK : X.K = z.K := by first | assumption | rfl) : OpB X z (compareOp .NotIn) (dInX true) := by
  intro pins s σ H S M ρ x y u w d1 d2 Q0 I sim b1 b2 r1 r2 q
  cases d2 with
  | set f n =>
    unfold dInX at q
    dsimp only at q
    split at q
    · rename_i i
      obtain ⟨a, rfl, ha⟩ := b2.setV
      rw [b1.int] at r1
      obtain ⟨tk, rfl⟩ := r1
      cases r2
      exact wpAny_notInSet_of (intKind_is _ _ _ _) rfl (I.hok a _ (sim.sub _ _ ha)) ⟨.bl (!f i), H, I.tok _, rfl, poE_va sim (.bl _) q⟩
    · exact q.elim
  | _ => exact ob_notIn hu hK pins s σ H S M ρ x y u w d1 _ Q0 I sim b1 b2 r1 r2 q
end
theorem natc0 : ((0 : Nat) : Int) = 0 := rfl
theorem natc1 : ((1 : Nat) : Int) = 1 := rfl
theorem natc2 : ((2 : Nat) : Int) = 2 := rfl
end PL
namespace PL
open PySem PySem.Spec PyProof.Rows L2
/-! ### exceptions, told by their class's name -/
def clsV (K : Fg) (c : Str) : Value := .ref (He.ga K c)
abbrev WP := Str → Ev → Mu → Prop
def liX (z : Z) (W : WP) : WX := fun cls d σ H => ∃ S M ρ c, cls = clsV z.K c ∧ Sim z S M ρ σ H ∧ W c ρ M
/-- a promise of a def that may raise -/
def liPX (K : Fg) (p : PSp) : Sp := fun vs H Q E => ∃ S M ds Q0 E0, Core (zOf K H S M) S M H ∧ RpA K S vs ds ∧ p ds M Q0 E0 ∧
  (∀ v H' r M' S', Q0 r M' → Core (zOf K H S M) S' M' H' → ResF (zOf K H S M) S' M' H' v r → Q v H') ∧
  ∀ c d M' S' H', E0 c [] M' → Core (zOf K H S M) S' M' H' → E (clsV K c) d H'
def eCallX (W : WP) (p : PSp) (qr : QA) : QE := fun ρ M Q => qr ρ M fun ds ρ1 M1 => p ds M1 (fun r M2 => Q r ρ1 M2) fun c _ M2 => W c ρ1 M2
section
variable {X : Cx} {z : Z} {k : Nat} {f : Addr} {fd : FuncData} {ps : List Str} {p : PSp} {x : Str} {pp pos : Pos} {e : Expr} {es : List Expr} {qr : QA} {W : WP}
theorem callX_lift {σ : St} {H : Hp} {Q : VK} (h : liE z (eCallX W p qr) σ H Q) : liA z qr σ H fun vs H1 => liPX z.K p vs H1 Q (WE (liX z W) σ) := by
  obtain ⟨S, M, ρ, Q0, sim, h, post⟩ := h
  refine ⟨S, M, ρ, _, sim, h, fun vs H1 ⟨ds, ρ1, M1, S1, q1, st1, sim1, rp⟩ => ⟨S1, M1, ds, _, _, sim1.core0, rp, q1, fun v H2 r M2 S2 q2 c res => ?_, fun c d M2 S2 H2 q2 c2 => ⟨S2, M2, ρ1, c, rfl, sim1.after c2, q2⟩⟩⟩
  exact post v H2 ⟨r, ρ1, M2, S2, q2, st1.trans c.step, sim1.after c, sim1.afterR res⟩
/-- f(e, ..), which may raise -/
theorem qe_callX (tk : Takes X (liX z W)) (F : FnOk X.prog X.w X.K X.mg X.base (L2.CX X.prog X.w) k f fd ps (liPX X.K p)) (hr : Room k X.A) (hg : Gl X x) (hm : X.mg x = some (.ref f)) (hk : PySem.W.keepIn X.K (.ref f) = true) (hb : Binds X.K fd ps [])
    (ha : PA X (e :: es) (liA z qr)) (hK : X.K = z.K := by first | assumption | rfl) (hdb : (x == ("__debug__" : Str)) = false := by decide) (he : starEach (e :: es) X.env = (false, eval e X.env) :: starEach es X.env := by rfl) (hpl : (backTo pos (starEach es X.env)).any (·.1) = false := by rfl) :
    PE X (.Call (.Name x pp) (e :: es) [] pos) (liE z (eCallX W p qr)) := by
  refine pe_w (pe_callS (E := WE (liX z W)) F hr hg hm hk hb (fun σ => passAt tk σ) ha hdb he hpl) fun σ H Q h => ?_
  have h' := callX_lift h
  unfold tCallS
  rw [hK]
  exact h'
/-- X() -/
theorem pmk_own0 {C : Addr} {bmB : List Value} {B newId initId : String} (F : ExcBaseFacts B newId initId bmB) (q : PySem.W.excIn X.K C bmB newId = true) (gC : X.mg x = some (.ref C)) (kC : PySem.W.keepIn X.K (.ref C) = true) (r : Raises X (.ref C)) (hg : Gl X x)
    (hdb : (x == ("__debug__" : Str)) = false := by decide) : PMk X (.Call (.Name x pp) [] [] pos) (fun _ H Q => Q (.ref C) none H) := by
  intro pins s σ H Q I h
  refine wpAny_Call_Name_kw (ld_glob I hg gC ?_ hdb)
  refine PySem.W.callWith_K0 I.kIn kC ?_
  show wpAny _ _ (call (.ref C) []) _ _ _
  obtain ⟨bm, N, nm, qn, bs, hdct, sn, sub, ab, col, dd, k0, k1, k2, k3, k5, mN, hC, hN, hni, T⟩ := exc_obj I.kIn q
  refine wpAny_call_exc_subT F T hC hN hni (fun h' e hm => ?_) (by show 0 ≤ sizeLine; omega)
  exact mk_of I hm r h (I.hok.gone hm.new)
def sRaise (W : WP) (c : Str) : QS := fun _ ρ M => W c ρ M
theorem qs_raise {W : WP} {pos' : Pos} (tk : Takes X (liX z W)) (hc : X.calm = true) (q : PySem.W.excIn X.K (He.ga X.K x) [.type "ValueError", .type "Exception", .type "BaseException", .type "object"] "ValueError.__new__" = true) (gC : X.mg x = some (.ref (He.ga X.K x))) (kC : PySem.W.keepIn X.K (.ref (He.ga X.K x)) = true)
    (h1 : PySem.W.subIn X.K (.ref (He.ga X.K x)) (.type "BaseException") = some true) (h2 : PySem.W.typeIn X.K (.ref (He.ga X.K x)) = some (.type "type")) (hg : Gl X x) (hK : X.K = z.K := by first | assumption | rfl) (hdb : (x == ("__debug__" : Str)) = false := by decide) :
    PS X (.Raise (some (.Call (.Name x pp) [] [] pos)) none pos') (liS z (sRaise W x)) :=
  ps_w (ps_raise hc tk (pmk_own0 PySem.F.excBase_ValueError q gC kC (raises_own h1 h2) hg hdb)) fun D σ H ⟨S, M, ρ, D0, sim, h, _⟩ => ⟨S, M, ρ, x, by rw [hK]; rfl, sim, h⟩
abbrev Z.at (z : Z) (S : Hp) : Z := { z with S0 := S }
theorem Sim.up {S : Hp} {M : Mu} {ρ : Ev} {σ : St} {H : Hp} (h : Sim z S M ρ σ H) : Sim (z.at S) S M ρ σ H :=
  ⟨⟨⟨.refl _, h.step.keep, h.step.mnew, h.step.dom⟩, h.sub, fun b q => .inl q, h.mu, h.mnd, h.rsv⟩, h.len, h.va, h.ow, h.sep⟩
theorem Core.down {S S' : Hp} {M M' : Mu} {H H' : Hp} (h0 : Core z S M H) (h : Core (z.at S) S' M' H') : Core z S' M' H' :=
  ⟨⟨h0.step.same.trans h.step.same, h.step.keep, h.step.mnew, h.step.dom⟩, h.sub, fun b q => by
    rcases h.frS b q with w | w
    · exact h0.frS b w
    · exact .inr w, h.mu, h.mnd, h.rsv⟩
theorem Sim.down {S S' : Hp} {M M' : Mu} {ρ : Ev} {σ : St} {H H' : Hp} (h0 : Core z S M H) (h : Sim (z.at S) S' M' ρ σ H') : Sim z S' M' ρ σ H' :=
  ⟨h0.down h.toCore, h.len, h.va, h.ow, h.sep⟩
theorem ResF.down {S S' : Hp} {M' : Mu} {H' : Hp} {v : V} {r : Sl} (h : ResF (z.at S) S' M' H' v r) : ResF z S' M' H' v r := by
  cases r <;> exact h
/-- try: body, except x: suite; cat tells of a class whether it is caught -/
def sTry (W : WP) (cat : Str → Option Bool) (tb : WP → QS) (th : QS) : QS := fun D ρ M => tb (fun c ρ' M' => match cat c with
  | some true => th D ρ' M'
  | some false => W c ρ' M'
  | none => False) D ρ M
theorem qs_try {W : WP} {cat : Str → Option Bool} {tb : WP → QS} {th : QS} {body suite : List Stmt} {b₀ : Stmt} {np pos' : Pos} (hs : X.stack = X.env :: X.outer) (hf : X.env.frame = some X.env.locals) (hg : Gl X x) (hdb : (x == ("__debug__" : Str)) = false) (gC : X.mg x = some (clsV X.K x)) (tk : Takes X (liX z W))
    (hK : X.K = z.K) (hcat : ∀ c b, cat c = some b → PySem.W.exmOne X.K (clsV X.K c) (clsV X.K x) = some b)
    (hb : ∀ (z' : Z) (W' : WP) (pn : List (Addr × Obj)) (xe : Value → Shared → Prop), X.K = z'.K → Takes (X.tr pn xe) (liX z' W') → PSs (X.tr pn xe) body (liS z' (tb W')))
    (hsu : ∀ (z' : Z) (a : Addr) (pn : List (Addr × Obj)), X.K = z'.K → PSs (X.suite a pn) (b₀ :: suite) (liS z' th)) :
    PS X (.Try body [.ExceptHandler (some (.Name x np)) none (b₀ :: suite) pos'] [] [] pos) (liS z (sTry W cat tb th)) := by
  refine ps_w (ps_try_only (c := clsV X.K x) (tb := fun Wx D σ H => ∃ (z' : Z) (W' : WP), X.K = z'.K ∧ (∀ cls d σ H, liX z' W' cls d σ H → Wx cls d σ H) ∧ liS z' (tb W') D σ H) (ts := fun a cls d D σ H => ∃ z' : Z, X.K = z'.K ∧ liS z' th D σ H) (Wout := liX z W) hs hf ⟨hg, hdb, .inl gC⟩ tk
    (fun Wx pn xe tkx _ => ⟨fun pins s σ H D I ⟨z', W', e, hi, h⟩ => (hb z' W' pn xe e (tkx.imp hi)).run pins s σ H D I h⟩)
    (fun a oe cls d pn _ _ => ⟨fun pins s σ H D I ⟨z', e, h⟩ => (hsu z' a _ e).run pins s σ H D I h⟩)) ?_
  intro D σ H ⟨S, M, ρ, D0, sim, h, nx, bk, ct, rt⟩
  refine ⟨z.at S, _, hK, ?_, S, M, ρ, D0, sim.up, h, fun ρ' M' S' σ' H' q e s => nx ρ' M' S' σ' H' q e (s.down sim.toCore), fun ρ' M' S' σ' H' q e s => bk ρ' M' S' σ' H' q e (s.down sim.toCore), fun ρ' M' S' σ' H' q e s => ct ρ' M' S' σ' H' q e (s.down sim.toCore), fun r M' S' v H' q c res => rt r M' S' v H' q (sim.toCore.down c) res.down⟩
  intro cls d σ1 H1 ⟨S1, M1, ρ1, c, e1, sim1, w⟩
  have hk : clsV (z.at S).K c = clsV X.K c := by rw [hK]
  rw [hk] at e1
  subst e1
  split at w
  · rename_i hc
    have s2 := sim1.down sim.toCore
    have e0 := sim1.step.same
    refine ⟨true, hcat c true hc, fun _ a _ => ⟨z, hK, S1, M1, ρ1, D0, s2, w, fun ρ' M' S' σ' H' q e s => nx ρ' M' S' σ' H' q (e0.trans e) s, fun ρ' M' S' σ' H' q e s => bk ρ' M' S' σ' H' q (e0.trans e) s, fun ρ' M' S' σ' H' q e s => ct ρ' M' S' σ' H' q (e0.trans e) s, rt⟩, fun q => nomatch q⟩
  · rename_i hc
    exact ⟨false, hcat c false hc, (fun q => nomatch q), fun _ => ⟨S1, M1, ρ1, c, by rw [hK], sim1.down sim.toCore, w⟩⟩
  · exact w.elim
end
/-- a def whose body may raise -/
theorem fn_PX {P : Program} {w : World} {K : Fg} {mg : Str → Option Value} {base : Heap} {x qual : Str} {params : Arguments} {body : List Stmt} {scope : Scope} {dvs : List V} {kws : List (Str × V)} {f : Addr} {fd : FuncData} {N ps : List Str} {k : Nat} {p : PSp}
    (F : FunD K x qual params body scope dvs kws f fd) (Sc : FnScope N ps scope) (hl : ∀ ds M Q E, p ds M Q E → ds.length = ps.length)
    {q : WP → QS} (hbody : ∀ (cdv : Value) (A : Around) (outer : List Env) (s : Shared) (H : Hp) (E : XK) (z : Z) (W : WP), K = z.K → Room k (A.deeper (envOfC qual scope s.heap.objs.size f cdv)) →
      Takes (cxOf (L2.CX P w) P w K mg base N qual scope f cdv A outer s H E) (liX z W) → PSs (cxOf (L2.CX P w) P w K mg base N qual scope f cdv A outer s H E) body (liS z (q W)))
    (hq : ∀ ds M Q0 E0, p ds M Q0 E0 → q (fun c _ M' => E0 c [] M') { nx := fun _ M' => Q0 (.va .non) M', rt := Q0 } (stE N ds) M) : FnOk P w K mg base (L2.CX P w) (k + 1) f fd ps (liPX K p) := by
  refine F.ok Sc (fun vs H Q E ⟨S, M, ds, Q0, E0, c, r, h, _⟩ => by rw [r.length]; exact hl _ _ _ _ h) fun cdv A outer s H vs Q E hr ⟨S, M, ds, Q0, E0, c, r, h, post, px⟩ => ⟨_, hbody cdv A outer s H E (zOf K H S M) (fun c _ M' => E0 c [] M') rfl hr ((takes_of rfl rfl rfl rfl).imp fun cls d σ H' ⟨S', M', ρ', c', e, sim, w⟩ => by subst e; exact px c' d M' S' H' w sim.toCore), ?_⟩
  refine ⟨S, M, _, _, start_sim c rfl r, hq ds M Q0 E0 h, fun ρ' M' S' σ' H' q e sim => ?_, fun _ _ _ _ _ q => q.elim, fun _ _ _ _ _ q => q.elim, fun r M' S' v H' q c' res => post v H' r M' S' q c' res⟩
  exact post .non H' _ M' S' q sim.toCore .non
theorem takesF {X : Cx} {z : Z} : Takes X (liX z fun _ _ _ => False) := takes0.imp fun _ _ _ _ ⟨_, _, _, _, _, _, w⟩ => w
def isSome1 (o : Option Bool) (b : Bool) : Bool := match o with | some c => c == b | none => false
theorem isSome1_eq {o : Option Bool} {b : Bool} (h : isSome1 o b = true) : o = some b := by
  cases o with
  | none => cases h
  | some c => rw [show c = b from beq_iff_eq.mp h]
def isTyp (o : Option Value) : Bool := match o with | some (.type s) => s == "type" | _ => false
theorem isTyp_eq {o : Option Value} (h : isTyp o = true) : o = some (.type "type") := by
  unfold isTyp at h
  split at h
  · rw [show _ = _ from beq_iff_eq.mp h]
  · cases h
end PL
namespace PL
open PySem PySem.Spec PyProof.Rows L2 He HandSHeadRun
/-! ### the head's objects, gathered with a row of bits -/
def refF (g : Addr → Option Obj) (a : Addr) : List Addr := match g a with
  | some o => refsD o
  | none => []
def gat (g : Addr → Option Obj) : Nat → List Addr → Nat → List Addr
  | 0, _, _ => []
  | _ + 1, [], _ => []
  | n + 1, a :: r, seen => frNat a fun a => match seen.testBit a with
    | true => gat g n r seen
    | false => a :: frNat (seen ||| (1 <<< a)) fun seen => gat g n (refF g a ++ r) seen
def asF (g : Addr → Option Obj) : List Addr := gat g 20000 [mainGlobals] 0
def obsFG (fa : List Fa) (fn : List DefD) (ex : Fg → Bool) (g : Addr → Option Obj) : AlD := obsE fa fn ex (frG g (asF g))
def hookF (fa : List Fa) (fn : List DefD) (ex : Fg → Bool) : PySem.W.Hook where
  α := AlD
  obs := fun s => obsFG fa fn ex s.heap.get?
  val := fun _ => valD fn
  says := fun _ h => ∃ K : PySem.W.Frag, K.In h ∧ SaysE fa fn ex K
  of := fun _ _ e => ⟨_, frG_in, saysE_of e⟩
  keeps := fun _ _ _ ⟨K, hK, c⟩ k => ⟨K, PySem.W.Frag.In.keeps hK k, c⟩
theorem obsFG_eq {fa : List Fa} {fn : List DefD} {ex : Fg → Bool} {g : Addr → Option Obj} {s : Shared} (h : ∀ a, g a = s.heap.get? a) : obsFG fa fn ex g = (hookF fa fn ex).obs s := by
  have e : g = s.heap.get? := funext h
  rw [e] <;> rfl
/-- the run's equation, by parts -/
theorem run_split {α S : Type} {o : Option α} {l : α → Bool} {s : α → S} {g : α → Addr → Option Obj} {fa : List Fa} {fn : List DefD} {ex : Fg → Bool} {sv : S}
    (h1 : o.map l = some true) (h2 : o.map s = some sv) (h3 : o.map (fun x => (fa.all fun f => f.ok (frG (g x) (asF (g x)))) && ex (frG (g x) (asF (g x)))) = some true)
    (h4 : o.map (fun x => fn.all fun d => d.ok (frG (g x) (asF (g x)))) = some true) (h5 : o.map (fun x => fn.map fun d => fnW (frG (g x) (asF (g x))) d.at_) = some (fn.map DefD.val)) :
    o.map (fun x => (l x, s x, obsFG fa fn ex (g x))) = some (true, sv, valD fn) := by
  cases o with
  | none => cases h1
  | some x =>
    simp only [Option.map_some, Option.some.injEq] at h1 h2 h3 h4 h5 ⊢
    rw [Bool.and_eq_true] at h3
    unfold obsFG obsE valD
    rw [h1, h2, h3.1, h3.2, h4, h5]
    rfl
end PL
namespace PySem
open Sem (wp)
theorem meets_enumerate_new1 {v : Value} {o : Obj} {H : Heap → Prop} (B : Begins v o H) :
    Meets (Builtin.«enumerate.__new__» ⟨[.type "enumerate", v], []⟩) (fun _ R s => H s.heap ∧
      R (.ok (.ret (.ref (s.heap.push o).objs.size))) { s with heap := (s.heap.push o).push { cls := .type "enumerate", data := .fields #[.none, .bool false, .ref s.heap.objs.size, rawInt 0, .none, .none] } }) :=
  .of_wp fun prog w A R s h => by
    obtain ⟨hh0, g, d, tk, os⟩ := s; obtain ⟨hH, h⟩ := h
    have sb0 := sub_enumerate
    have qq1 : ∀ {A' : Around} {E : Value → Shared → Prop} {Q : Value → Shared → Prop}, Q (.ref hh0.objs.size) ⟨hh0.push o, g, d, tk, os⟩ → wpAny (model prog w) A' (pyIter v) Q E ⟨hh0, g, d, tk, os⟩ :=
      fun q => B.iter prog w _ _ ⟨hh0, g, d, tk, os⟩ _ hH q
    wp_walk using qq1
    refine wpAny_stack_any fun stt => wpAny_pure ?_
    split
    · rename_i c _ _ _ _ _
      cases (c == Value.type "enumerate")
      · wp_walk using qq1
        exact ⟨_, rfl, h⟩
      · wp_walk using qq1
        exact ⟨_, rfl, h⟩
    · wp_walk using qq1
      exact ⟨_, rfl, h⟩
section
variable {prog : Program} {w : World} {A : Around} {E : Value → Shared → Prop} {s : Shared}
theorem enum_begins1 {v : Value} {o : Obj} {H : Heap → Prop} {Q : Value → Shared → Prop} (B : Begins v o H) (hH : H s.heap)
    (h : ∀ h', IsEnum h' (s.heap.objs.size + 1) s.heap.objs.size 0 .none → h'.get? s.heap.objs.size = some o → h'.objs.size = s.heap.objs.size + 2 →
      (∀ b o, s.heap.get? b = some o → h'.get? b = some o) → Q (.ref (s.heap.objs.size + 1)) { s with heap := h' }) :
    wpAny (model prog w) A (call (.type "enumerate") [v]) Q E s := by
  refine callType_new F.called_enumerate (by decide) (F.typeCall_enumerate_1 _) (F.newCall_enumerate_1 _) (fun obj => F.args_object_init_2 obj _) F.entry_enumerate_new
    (meets_enumerate_new1 B) ⟨hH, ?_⟩
  have sz0 : (s.heap.push o).objs.size = s.heap.objs.size + 1 := Heap.size_push ..
  show _ ∧ _
  rw [sz0]
  have en : IsEnum ((s.heap.push o).push { cls := .type "enumerate", data := .fields #[.none, .bool false, .ref s.heap.objs.size, rawInt 0, .none, .none] }) (s.heap.objs.size + 1) s.heap.objs.size 0 .none := by
    have := Heap.get?_push_size (s.heap.push o) (o := { cls := .type "enumerate", data := .fields #[.none, .bool false, .ref s.heap.objs.size, rawInt 0, .none, .none] }) rfl
    rw [sz0] at this; exact this
  refine ⟨⟨_, en, rfl⟩, h _ en (Heap.get?_push_of_some _ (Heap.get?_push_size _ B.free)) (by rw [Heap.size_push, sz0]) fun b o x => Heap.get?_push_of_some _ (Heap.get?_push_of_some _ x)⟩
end
end PySem
namespace PL
open PySem PySem.Spec PyProof.Rows L2
/-! ### enumerate(tuple) -/
/-- the tuple at a, n items -/
def IteT (K : Fg) (a : Addr) (n : Nat) : It :=
  ⟨fun i H => i < n ∧ ∃ (xs : List V) (x : V), SqT K H a xs ∧ xs[i]? = some x ∧ xs.length = n, fun i H v H' => ∃ T x, v = .ref T ∧ H T = none ∧ H' = upd H T (.tup [.int (i : Nat), x]) ∧ ∀ xs, SqT K H a xs → xs[i]? = some x, fun i H => n ≤ i ∧ ∃ xs : List V, SqT K H a xs ∧ xs.length = n⟩
theorem tup_ne_it {h : Heap} {a it : Addr} {i : Nat} {items : Array Value} (p : h.IsTuple a items) (hti : h.IsTupleIter it a i) : a ≠ it := by
  rintro rfl
  obtain ⟨o, hout, hc, _⟩ := p
  obtain ⟨o', ho', hc', _⟩ := hti
  rw [hout] at ho'
  cases ho'
  rw [hc] at hc'
  injection hc' with e
  exact absurd e (by decide)
theorem tup_ne_en {h : Heap} {a e it : Addr} {i : Int} {o0 : Value} {items : Array Value} (p : h.IsTuple a items) (en : IsEnum h e it i o0) : e ≠ a := by
  rintro rfl
  obtain ⟨o, hout, hc, _⟩ := p
  have he' := en
  unfold IsEnum at he'
  rw [hout] at he'
  have e := Option.some.inj he'
  rw [e] at hc
  injection hc with e
  exact absurd e (by decide)
theorem turn_enumT {P : Program} {w : World} {K : Fg} {elts : List Expr} {kk : Nat} {tpos : Pos} (a e it : Addr) (n : Nat) :
    Turn P w K (.Tuple elts kk tpos) (IteT K a n) [e, it] e (fun i h => (∃ o0, IsEnum h e it ((i : Nat) : Int) o0) ∧ h.IsTupleIter it a i ∧ e ≠ it ∧ i ≤ n) where
  mem := by simp
  obj := fun i h stt b hb0 => by
    obtain ⟨⟨o0, en⟩, ⟨o, hout, hc, hd⟩, _⟩ := stt
    have e' : b = e ∨ b = it := by simpa using hb0
    rcases e' with z | z
    · rw [z]; exact ⟨_, en, fun v q => nomatch q⟩
    · rw [z]; exact ⟨o, hout, fun v q => by rw [hd] at q; cases q⟩
  keep := fun i h h' stt k => let ⟨⟨o0, en⟩, hi, hne, hn⟩ := stt; ⟨⟨o0, k e (by simp) _ en⟩, hi.at fun o q => k it (by simp) o q, hne, hn⟩
  item := by
    intro X hP hw hK hc i pins s σ H E I hfp stt hgl
    subst hP hw hK
    obtain ⟨⟨o0, en⟩, hti, hne, hle0⟩ := stt
    obtain ⟨hlt, xs, x, hq0, hxi, hxn⟩ := hgl
    obtain ⟨its, vs0, p, sz0⟩ := I.tuple hq0
    obtain ⟨u, hu0, ru0⟩ := vs0.get hxi
    have ptu : s.heap.IsTuple a its.toArray := p
    have le1 : e < s.heap.objs.size := Heap.lt_size en
    have le2 : it < s.heap.objs.size := by obtain ⟨_, q, _⟩ := hti; exact Heap.lt_size q
    have hea := tup_ne_en ptu en
    have DR : Draws X.prog X.w X.A.in1 it [it, a] its.toArray.size (fun i v => its.toArray[i]? = some v) (fun i h => h.IsTupleIter it a i ∧ h.IsTuple a its.toArray) := Draws.tuple (show X.A.in1.handled = none from I.ok.hd hc) it a (tup_ne_it ptu hti) its.toArray
    refine wpAny_pyNext_enum_itemD DR en ⟨hti, ptu⟩ (by have := (List.getElem?_eq_some_iff.mp hu0).1; simpa using this) hne (by simp [hne, hea]) fun x' h' tk hx' hout st' hTu hs0 kp => ?_
    have exx : x' = u := by
      have hx2 : its[i]? = some x' := by simpa using hx'
      rw [hu0] at hx2
      exact (Option.some.inj hx2).symm
    subst exx
    refine ⟨_, rfl, wpAny_letOwnedTupleGo_enum (s := { s with heap := h', toks := tk + 1 }) hout fun h'' he' sb => ?_⟩
    have hT2 : h''.get? s.heap.objs.size = some { cls := .type "tuple", data := .seq #[.int i tk, x'] } := (sb.2 _ (Nat.ne_of_gt le1)).trans hTu
    have new : ObjOk X.prog X.w (upd H s.heap.objs.size (.tup [.int (i : Nat), x])) h'' s.heap.objs.size (.tup [.int (i : Nat), x]) :=
      ⟨by show 2 ≤ sizeLine; decide, [.int i tk, x'], .cons ⟨_, rfl⟩ (.cons ru0 .nil), ⟨_, hT2, rfl, _, rfl⟩⟩
    have J1 : Inv X pins σ (upd H s.heap.objs.size (.tup [.int (i : Nat), x])) { s with heap := h'', toks := tk + 1 } :=
      I.turnedNew (ch := [e, it]) (fun b ob hb0 q => (sb.2 b (fun z => hb0 (by simp [z]))).trans (kp b ob (fun z => hb0 (by simp [z])) (fun z => hb0 (by simp [z])) q)) hfp (Nat.le_refl _) new
    refine ⟨.ref s.heap.objs.size, _, J1, rfl, ⟨_, x, rfl, I.hok.fresh (Nat.le_refl _), rfl, fun ys hy => by rw [I.tuple_inj hy hq0]; exact hxi⟩, ⟨⟨x', ?_⟩, st'.1.at fun o q => (sb.2 it (Ne.symm hne)).trans q, hne, hlt⟩, fun b hb0 => ?_⟩
    · have eq1 : ((i + 1 : Nat) : Int) = (i : Int) + 1 := by omega
      rw [eq1]; exact he'
    · have hb' : b < s.heap.objs.size := by
        have e' : b = e ∨ b = it := by simpa using hb0
        rcases e' with z | z
        · rw [z]; exact le1
        · rw [z]; exact le2
      rw [upd_ne (Nat.ne_of_lt hb')]
      exact (hfp b hb0).1
  done := by
    intro X hP hw hK hc i pins s σ H E I hfp stt hgl
    subst hP hw hK
    obtain ⟨⟨o0, en⟩, hti, hne, hle0⟩ := stt
    obtain ⟨hge, xs, hq0, hxi⟩ := hgl
    obtain ⟨its, vs0, p, sz0⟩ := I.tuple hq0
    have ptu : s.heap.IsTuple a its.toArray := p
    obtain ⟨f0, f1, f2, f3, f4, f5⟩ := hfp it (by simp)
    have hl := vs0.length
    have eq1 : i = its.toArray.size := by simp only [List.size_toArray]; omega
    subst eq1
    have DR : Draws X.prog X.w X.A.in1 it [it, a] its.toArray.size (fun i v => its.toArray[i]? = some v) (fun i h => h.IsTupleIter it a i ∧ h.IsTuple a its.toArray) := Draws.tuple (show X.A.in1.handled = none from I.ok.hd hc) it a (tup_ne_it ptu hti) its.toArray
    exact wpAny_pyNext_enum_endD DR en ⟨hti, ptu⟩ fun h' eb => ⟨rfl, I.turned (t' := s.toks) (fun b o hb0 q => eb b o hb0 q) f0 f1 f3 f4 f5⟩
  self := fun A i s Q E stt h => let ⟨⟨_, en⟩, _⟩ := stt; wpAny_pyIter_enum en h
/-- enumerate(list or tuple) -/
def iEnumX (K : Fg) (ta : TA) : TI := fun σ H R => ta σ H fun vl H1 => ∃ a, vl = [.ref a] ∧ (((∃ xs, SqL K H1 a xs) ∧ R (Ite K a) H1) ∨ (∃ xs : List V, SqT K H1 a xs ∧ R (IteT K a xs.length) H1))
theorem pi_enumX {X : Cx} {e : Expr} {ta : TA} {p pos tpos : Pos} {elts : List Expr} {kk : Nat} (hgl : Gl X "enumerate") (hm : X.mg "enumerate" = none) (ha : PA X [e] ta) (hs : starEach [e] X.env = [(false, eval e X.env)] := by rfl) :
    PI X (.Tuple elts kk tpos) (.Call (.Name "enumerate" p) [e] [] pos) (iEnumX X.K ta) := by
  refine ⟨fun pins s σ H R I h => ?_⟩
  refine Call_ (ld_blt I hgl hm boot_enumerate (PyProof.Rows.callWith_type1 (thn (ha.run pos pins s σ H _ I h) fun us s1 ⟨vl, H1, J1, rr1, qq1⟩ => ?_) hs rfl))
  obtain ⟨a, exx, qq1⟩ := qq1
  subst exx
  cases rr1 with
  | cons r rr =>
    cases rr
    cases r
    have fin : ∀ (J : It) (St : Nat → Heap → Prop) (h' : Heap), (∀ b o, s1.heap.get? b = some o → h'.get? b = some o) → IsEnum h' (s1.heap.objs.size + 1) s1.heap.objs.size 0 .none → R J H1 →
        Turn X.prog X.w X.K (.Tuple elts kk tpos) J [s1.heap.objs.size + 1, s1.heap.objs.size] (s1.heap.objs.size + 1) St → St 0 h' → wpAny (model X.prog X.w) X.A (pyIter (.ref (s1.heap.objs.size + 1))) (PIE X pins σ (.Tuple elts kk tpos) R) X.xe { s1 with heap := h' } := by
      intro J St h' kp en q T stt
      refine wpAny_pyIter_enum en ?_
      have J2 : Inv X pins σ H1 { s1 with heap := h' } := J1.kept (t' := s1.toks) kp
      refine ⟨s1.heap.objs.size + 1, [s1.heap.objs.size + 1, s1.heap.objs.size], _, _, H1, rfl, J2, T, stt, fun b hb0 => ?_, q⟩
      have e' : b = s1.heap.objs.size + 1 ∨ b = s1.heap.objs.size := by simpa using hb0
      have hle : s1.heap.objs.size ≤ b := by
        rcases e' with z | z
        · rw [z]; exact Nat.le_add_right _ _
        · rw [z]; exact Nat.le_refl _
      exact J1.fpOk hle (J1.hok.fresh hle)
    rcases qq1 with ⟨⟨xs, hq0⟩, q⟩ | ⟨xs, hq0, q⟩
    · obtain ⟨its, vs0, p', sz0⟩ := J1.list hq0
      exact call_enumerate_list p'.isList fun h' en hti hs0 kp => fin _ _ h' kp en q (turn_enum a (s1.heap.objs.size + 1) s1.heap.objs.size) ⟨⟨.none, en⟩, hti, Nat.succ_ne_self _⟩
    · obtain ⟨its, vs0, p', sz0⟩ := J1.tuple hq0
      exact enum_begins1 (begins_tuple a its.toArray) (show s1.heap.IsTuple a its.toArray from p') fun h' en hti hs0 kp => fin _ _ h' kp en q (turn_enumT a (s1.heap.objs.size + 1) s1.heap.objs.size xs.length) ⟨⟨.none, en⟩, ⟨_, hti, rfl, rfl⟩, Nat.succ_ne_self _, Nat.zero_le _⟩
/-- (0, x0), (1, x1), .. -/
def enumD : Nat → List D → List D
  | _, [] => []
  | k, d :: ds => .tup [.int (k : Nat), d] :: enumD (k + 1) ds
theorem enumD_len : ∀ (k : Nat) (ds : List D), (enumD k ds).length = ds.length
  | _, [] => rfl
  | k, d :: ds => by rw [enumD, List.length_cons, List.length_cons, enumD_len]
theorem enumD_get : ∀ {k : Nat} {ds : List D} {i : Nat} {d : D}, (enumD k ds)[i]? = some d → ∃ x, ds[i]? = some x ∧ d = .tup [.int ((k + i : Nat) : Int), x]
  | _, [], _, _, h => by simp [enumD] at h
  | k, c :: ds, 0, d, h => by simp [enumD] at h; exact ⟨c, rfl, by rw [← h]; simp⟩
  | k, c :: ds, i + 1, d, h => by
    obtain ⟨x, h1, h2⟩ := enumD_get (k := k + 1) (ds := ds) (i := i) (by simpa [enumD] using h)
    exact ⟨x, by simpa using h1, by rw [h2, show k + 1 + i = k + (i + 1) by omega]⟩
def iEnum1 (qr : QA) : QA := fun ρ M Q => qr ρ M fun ds ρ' M' => match ds with
  | [.lst xs] => Q (enumD 0 xs) ρ' M'
  | [.tup xs] => Q (enumD 0 xs) ρ' M'
  | _ => False
section
variable {X : Cx} {z : Z} {tg e : Expr} {pos p tpos : Pos} {qr : QA} {elts : List Expr} {kk : Nat}
theorem yld_new {S H : Hp} {T : Addr} {xs : List V} {ds : List D} (hT : H T = none) (sub : Same S H) (r : RpA z.K S xs ds) :
    ∃ S', Same S S' ∧ Same H (upd H T (.tup xs)) ∧ Same S' (upd H T (.tup xs)) ∧ (∀ b, S' b ≠ none → S b ≠ none ∨ H b = none) ∧ Rp z.K S' (.ref T) (.tup ds) := by
  have hs : S T = none := by
    cases q : S T with
    | none => rfl
    | some o => rw [sub _ _ q] at hT; cases hT
  refine ⟨upd S T (.tup xs), same_upd hs, same_upd hT, fun b u q => ?_, fun b q => ?_, .tup (.of upd_same) (RpA.ext (same_upd hs) _ _ r)⟩
  · by_cases hb : b = T
    · subst hb; rw [upd_same] at q ⊢; exact q
    · rw [upd_ne hb] at q ⊢; exact sub b u q
  · by_cases hb : b = T
    · subst hb; exact .inr hT
    · rw [upd_ne hb] at q; exact .inl q
theorem ylds_enumL {S1 : Hp} {a : Addr} {xs : List V} {ds : List D} (h : S1 a = some (.lst xs)) (r : RpA z.K S1 xs ds) : Ylds z (Ite z.K a) S1 (enumD 0 ds) := by
  have hl := r.length
  refine ⟨fun i H S e1 e2 hi => ?_, fun i H S e1 e2 hi => ⟨xs, .of ((e1.trans e2) _ _ h), by rw [enumD_len] at hi; omega⟩, fun i H S x H' d e1 e2 ed y => ?_⟩
  · rw [enumD_len] at hi
    exact ⟨xs, xs[i], .of ((e1.trans e2) _ _ h), List.getElem?_eq_getElem (by omega)⟩
  · obtain ⟨T, v, rfl, hT, rfl, y⟩ := y
    obtain ⟨c, ec, rfl⟩ := enumD_get ed
    have ex := y xs (.of ((e1.trans e2) _ _ h))
    obtain ⟨v', h1, h2⟩ := r.get ec
    rw [ex] at h1
    cases h1
    rw [show ((0 + i : Nat) : Int) = (i : Nat) by omega]
    exact yld_new hT e2 (.cons (.int _) (.one (Rp.ext e1 _ _ h2)))
theorem ylds_enumT {S1 : Hp} {a : Addr} {xs : List V} {ds : List D} (h : SqT z.K S1 a xs) (r : RpA z.K S1 xs ds) : Ylds z (IteT z.K a xs.length) S1 (enumD 0 ds) := by
  have hl := r.length
  refine ⟨fun i H S e1 e2 hi => ?_, fun i H S e1 e2 hi => ⟨by rw [enumD_len] at hi; omega, xs, same_seqT (e1.trans e2) h, rfl⟩, fun i H S x H' d e1 e2 ed y => ?_⟩
  · rw [enumD_len] at hi
    exact ⟨by omega, xs, xs[i], same_seqT (e1.trans e2) h, List.getElem?_eq_getElem (by omega), rfl⟩
  · obtain ⟨T, v, rfl, hT, rfl, y⟩ := y
    obtain ⟨c, ec, rfl⟩ := enumD_get ed
    have ex := y xs (same_seqT (e1.trans e2) h)
    obtain ⟨v', h1, h2⟩ := r.get ec
    rw [ex] at h1
    cases h1
    rw [show ((0 + i : Nat) : Int) = (i : Nat) by omega]
    exact yld_new hT e2 (.cons (.int _) (.one (Rp.ext e1 _ _ h2)))
theorem qi_enumerate (hg : Gl X "enumerate") (hm : X.mg "enumerate" = none) (ha : PA X [e] (liA z qr)) (hK : X.K = z.K := by first | assumption | rfl) (hs : starEach [e] X.env = [(false, eval e X.env)] := by rfl) :
    PI X (.Tuple elts kk tpos) (.Call (.Name "enumerate" p) [e] [] pos) (liI z (iEnum1 qr)) :=
  pi_w (pi_enumX hg hm ha hs) fun σ H R ⟨S, M, ρ, Q0, sim, h, post⟩ => ⟨S, M, ρ, _, sim, h, fun vs H1 ⟨ds, ρ1, M1, S1, q1, st1, sim1, rp⟩ => by
    dsimp only at q1
    split at q1
    · cases rp with
      | cons r1 rr =>
        cases rr
        cases r1 with
        | lst h1 h2 => exact ⟨_, rfl, .inl ⟨⟨_, .of (sim1.sub _ _ h1)⟩, by rw [hK]; exact post _ H1 ⟨_, ρ1, M1, S1, q1, st1, sim1, ylds_enumL h1 h2⟩⟩⟩
    · cases rp with
      | cons r1 rr =>
        cases rr
        cases r1 with
        | tup h1 h2 => exact ⟨_, rfl, .inr ⟨_, by rw [hK]; exact same_seqT sim1.sub h1, by rw [hK]; exact post _ H1 ⟨_, ρ1, M1, S1, q1, st1, sim1, ylds_enumT h1 h2⟩⟩⟩
    · exact q1.elim⟩
/-- reversed(list) -/
def iRev1 (qr : QA) : QA := fun ρ M Q => qr ρ M fun ds ρ' M' => match ds with
  | [.lst xs] => Q xs.reverse ρ' M'
  | _ => False
theorem ylds_rev {S1 : Hp} {a : Addr} {xs : List V} {ds : List D} (h : S1 a = some (.lst xs)) (r : RpA z.K S1 xs ds) : Ylds z (Itv z.K a xs.length) S1 ds.reverse := by
  have hl := r.length
  refine ⟨fun i H S e1 e2 hi => ?_, fun i H S e1 e2 hi => by rw [List.length_reverse] at hi; show xs.length ≤ i; omega, fun i H S x H' d e1 e2 ed y => ?_⟩
  · rw [List.length_reverse] at hi
    exact ⟨by omega, xs, xs[xs.length - 1 - i], .of ((e1.trans e2) _ _ h), List.getElem?_eq_getElem (by omega)⟩
  · obtain ⟨rfl, y⟩ := y
    have hi : i < ds.length := by
      have := (List.getElem?_eq_some_iff.mp ed).1
      rw [List.length_reverse] at this
      exact this
    rw [List.getElem?_reverse hi] at ed
    have ex := y xs (.of ((e1.trans e2) _ _ h))
    obtain ⟨v, h1, h2⟩ := r.get ed
    rw [hl, h1] at ex
    cases ex
    exact ⟨S, .refl _, .refl _, e2, fun b q => .inl q, Rp.ext e1 _ _ h2⟩
theorem qi_reversed (hg : Gl X "reversed") (hm : X.mg "reversed" = none) (ha : PA X [e] (liA z qr)) (hK : X.K = z.K := by first | assumption | rfl) (hs : starEach [e] X.env = [(false, eval e X.env)] := by rfl) :
    PI X tg (.Call (.Name "reversed" p) [e] [] pos) (liI z (iRev1 qr)) :=
  pi_w (pi_reversed hg hm ha hs) fun σ H R ⟨S, M, ρ, Q0, sim, h, post⟩ => ⟨S, M, ρ, _, sim, h, fun vs H1 ⟨ds, ρ1, M1, S1, q1, st1, sim1, rp⟩ => by
    dsimp only at q1
    split at q1
    · cases rp with
      | cons r1 rr =>
        cases rr
        cases r1 with
        | lst h1 h2 => exact ⟨_, _, rfl, .of (sim1.sub _ _ h1), by rw [hK]; exact post _ H1 ⟨_, ρ1, M1, S1, q1, st1, sim1, ylds_rev h1 h2⟩⟩
    · exact q1.elim⟩
end
end PL
namespace PL
open PySem PySem.Spec PyProof.Rows L2

/-! ### sorted(list of data) -/
abbrev leD : D → D → Bool := PySem.W.dataLe false toPy
abbrev leP : V × D → V × D → Bool := PySem.W.dataLe false fun p : V × D => toPy p.2
def SortOk (ds : List D) : Prop := isPureA ds = true ∧ PySem.W.AllAlike (ds.map toPy) ∧ PySem.W.Sortable (ds.map toPy) ∧ ∀ d ∈ ds, (toPy d).depth ≤ 60
section
variable {X : Cx} {z : Z}
theorem each_of {K : Fg} {ps : List (V × D)} : ∀ {us : List Value}, Vals (ps.map (·.1)) us → PySem.W.EachIs (fun u (p : V × D) => RelV p.1 u) us ps := by
  induction ps with
  | nil => intro us h; cases h; exact .nil
  | cons p ps ih => intro us h; cases h with | cons a b => exact .cons a (ih b)
theorem of_each {ps : List (V × D)} : ∀ {us : List Value}, PySem.W.EachIs (fun u (p : V × D) => RelV p.1 u) us ps → Vals (ps.map (·.1)) us := by
  induction ps with
  | nil => intro us h; cases h; exact .nil
  | cons p ps ih => intro us h; cases h with | cons a b => exact .cons a (ih b)
theorem each_imp {α β : Type} {R T : α → β → Prop} : ∀ {as : List α} {bs : List β}, (∀ a b, b ∈ bs → R a b → T a b) → PySem.W.EachIs R as bs → PySem.W.EachIs T as bs
  | _, _, _, .nil => .nil
  | _, _, f, .cons h t => .cons (f _ _ List.mem_cons_self h) (each_imp (fun a b hb => f a b (List.mem_cons_of_mem _ hb)) t)
def rSortD (K : Fg) : List V → Hp → VK → Prop := fun vs H Q => ∃ (a : Addr) (ps : List (V × D)), vs = [V.ref a] ∧ SqL K H a (ps.map (·.1)) ∧ (∀ p ∈ ps, Dp K H p.1 (toPy p.2)) ∧ SortOk (ps.map (·.2)) ∧
  ∀ p : Addr, H p = none → Q (.ref p) (upd H p (.lst ((ps.mergeSort leP).map (·.1))))
theorem cr_sortD (hu : X.A.units + 64 < cLine) : CallR X (.builtin "sorted") (rSortD X.K) := by
  intro pins s σ H vs us Q I r h
  obtain ⟨a, ps, rfl, hs, hd, ⟨h1, h2, h3, h4⟩, q⟩ := h
  obtain ⟨its, rv, hl, hz⟩ := I.list hs
  obtain ⟨u, rfl, ru⟩ := vals1 r
  obtain rfl : u = Value.ref a := ru
  have e := each_of (K := X.K) rv
  rw [List.map_map] at h2 h3
  rw [List.length_map] at hz
  refine PySem.W.sorted_data (enc := fun p : V × D => toPy p.2) hl.isList e (each_imp (fun u p hp hr => Dp.reads I _ _ _ (hd p hp) hr) e) h2 h3 hz (fun p hp => ?_) fun out ho hout => ?_
  · have := h4 p.2 (List.mem_map.mpr ⟨p, hp, rfl⟩)
    omega
  · obtain ⟨ep, he'⟩ := PyProof.Rows.sortedAll_at s.heap its out.toArray
    have hzz : ((ps.mergeSort leP).map (·.1)).length ≤ sizeLine := by
      rw [List.length_map, List.length_mergeSort]
      exact hz
    refine ⟨.ref _, upd H (s.heap.objs.size + 1) (.lst ((ps.mergeSort leP).map (·.1))), I.laid (t' := s.toks) (fun _ _ => PyProof.Rows.sortedAll_old) (Nat.le_succ _) ⟨hzz, out, ep, of_each hout, he'⟩, rfl, q _ (I.hok.fresh (Nat.le_succ _))⟩
def cSortD : CD := fun ds Q => match ds with
  | [.lst xs] => SortOk xs ∧ Q (.ow (.lst (xs.mergeSort leD)))
  | _ => False
theorem rpA_zip {K : Fg} {S : Hp} : ∀ {vs : List V} {ds : List D}, RpA K S vs ds → (vs.zip ds).map (·.1) = vs ∧ (vs.zip ds).map (·.2) = ds ∧ ∀ p ∈ vs.zip ds, Rp K S p.1 p.2
  | _, _, .nil => ⟨rfl, rfl, by simp⟩
  | _, _, .cons a b => by
    obtain ⟨h1, h2, h3⟩ := rpA_zip b
    refine ⟨by simp [h1], by simp [h2], fun p hp => ?_⟩
    rcases List.mem_cons.mp hp with rfl | w
    · exact a
    · exact h3 p w
theorem rpA_unzip {K : Fg} {S : Hp} : ∀ {ps : List (V × D)}, (∀ p ∈ ps, Rp K S p.1 p.2) → RpA K S (ps.map (·.1)) (ps.map (·.2))
  | [], _ => .nil
  | p :: ps, h => .cons (h p List.mem_cons_self) (rpA_unzip fun q hq => h q (List.mem_cons_of_mem _ hq))
theorem pureA_mem : ∀ {ds : List D}, isPureA ds = true → ∀ d ∈ ds, isPure d = true
  | d :: ds, h, e, he => by
    rw [isPureA, Bool.and_eq_true] at h
    rcases List.mem_cons.mp he with rfl | w
    · exact h.1
    · exact pureA_mem h.2 e w
theorem cb_sortD (hu : X.A.units + 64 < cLine) (hK : X.K = z.K := by first | assumption | rfl) : CallB X z (.builtin "sorted") cSortD := callB_of (cr_sortD hu) fun σ H S M ρ xs ds Q0 sim rb q => by
  unfold cSortD at q
  split at q
  · obtain ⟨ok, q⟩ := q
    cases rb with
    | cons r1 rr =>
      cases rr
      obtain ⟨a, ys, rfl, h1, k1⟩ := r1.lst sim.sub
      obtain ⟨e1, e2, e3⟩ := rpA_zip k1
      generalize ys.zip _ = ps at *
      subst e1
      subst e2
      refine ⟨a, ps, rfl, .of h1, fun p hp => by rw [hK]; exact Rp.dp sim.sub _ _ (pureA_mem ok.1 _ (List.mem_map.mpr ⟨p, hp, rfl⟩)) (e3 p hp), ok, fun p hp => poE_ow sim hp ?_ q⟩
      have e4 : (ps.mergeSort leP).map (·.2) = (ps.map (·.2)).mergeSort leD := List.map_mergeSort fun _ _ _ _ => rfl
      rw [← e4]
      exact rpA_unzip fun p hp => e3 p ((List.mergeSort_perm ps leP).mem_iff.mp hp)
  · exact q.elim
end
/-! rows of pairs of numbers -/
theorem sortOk_map {α : Type} {g : α → D} {xs : List α} (h1 : ∀ x, isPure (g x) = true) (h2 : ∀ x y, PySem.W.alike (toPy (g x)) (toPy (g y)) = true) (h3 : ∀ x, ∃ d r, toPy (g x) = .tuple (d :: r)) (h4 : ∀ x, (toPy (g x)).depth ≤ 60) : SortOk (xs.map g) := by
  refine ⟨?_, ?_, ?_, fun d hd => ?_⟩
  · induction xs with
    | nil => rfl
    | cons x xs ih => rw [List.map_cons, isPureA, h1, ih]; rfl
  · rw [List.map_map]; exact .of fun x y => h2 x y
  · rw [List.map_map]; exact .tuples fun x => h3 x
  · obtain ⟨x, _, rfl⟩ := List.mem_map.mp hd
    exact h4 x
theorem sort_map {α : Type} {g : α → D} {xs : List α} : (xs.map g).mergeSort leD = (xs.mergeSort (PySem.W.dataLe false fun x => toPy (g x))).map g := (List.map_mergeSort (f := g) (r := PySem.W.dataLe false fun x => toPy (g x)) (s := leD) fun _ _ _ _ => rfl).symm
def spD (p : Int × Int) : D := .tup [.int p.1, .int p.2]
theorem spD_eq {a b : Int} : spD (a, b) = .tup [.int a, .int b] := rfl
theorem sortOk_pr {ps : List (Int × Int)} : SortOk (ps.map spD) := sortOk_map (fun _ => rfl) (fun x y => by simp [spD, toPy, toPyA, PySem.W.alike, PySem.W.alikeAll]) (fun x => ⟨_, _, rfl⟩) fun x => by simp [spD, toPy, toPyA, PyData.depth, PyData.depthAll]
def lePr (p q : Int × Int) : Bool := decide (p.1 < q.1 ∨ (p.1 = q.1 ∧ p.2 ≤ q.2))
theorem sort_pr {ps : List (Int × Int)} : (ps.map spD).mergeSort leD = (ps.mergeSort lePr).map spD := by
  rw [sort_map]
  have e : (PySem.W.dataLe false fun x => toPy (spD x)) = lePr := PySem.W.dataLe_ii (fun p : Int × Int => p.1) (fun p => p.2)
  rw [e]
theorem sorted_pr {ps : List (Int × Int)} : (ps.mergeSort lePr).Perm ps ∧ (ps.mergeSort lePr).Pairwise fun p q => p.1 < q.1 ∨ (p.1 = q.1 ∧ p.2 ≤ q.2) := by
  refine ⟨List.mergeSort_perm _ _, ?_⟩
  have := List.pairwise_mergeSort (le := lePr) (fun a b c h1 h2 => by
    unfold lePr at *
    rw [decide_eq_true_iff] at *
    omega) (fun a b => by
    unfold lePr
    rw [Bool.or_eq_true, decide_eq_true_iff, decide_eq_true_iff]
    omega) ps
  exact this.imp fun {a b} h => by unfold lePr at h; exact of_decide_eq_true h
end PL
namespace Lw
open PySem PySem.Spec PyProof.Rows L2 PL
def topS (i : Nat) : Stmt := PySem.Challenge.pw_everdays_k48_whole_rooms_dealt_out.main.body.getD i (.Pass ⟨0, 0, 0, 0⟩)
abbrev s_dealt_rooms : Stmt := topS 1
abbrev s_rooms_needed : Stmt := topS 2
abbrev s__law_is : Stmt := topS 4
abbrev s__law_draw : Stmt := topS 5
abbrev s__law_tape : Stmt := topS 6
abbrev s_law : Stmt := topS 7
def d_dealt_rooms : He.DefD := ⟨("dealt_rooms", none), "dealt_rooms", "dealt_rooms", defArgs s_dealt_rooms, defBody s_dealt_rooms, defScope s_dealt_rooms, [], []⟩
def d_rooms_needed : He.DefD := ⟨("rooms_needed", none), "rooms_needed", "rooms_needed", defArgs s_rooms_needed, defBody s_rooms_needed, defScope s_rooms_needed, [], []⟩
def d__law_is : He.DefD := ⟨("_law_is", none), "_law_is", "_law_is", defArgs s__law_is, defBody s__law_is, defScope s__law_is, [], []⟩
def d__law_draw : He.DefD := ⟨("_law_draw", none), "_law_draw", "_law_draw", defArgs s__law_draw, defBody s__law_draw, defScope s__law_draw, [], []⟩
def d__law_tape : He.DefD := ⟨("_law_tape", none), "_law_tape", "_law_tape", defArgs s__law_tape, defBody s__law_tape, defScope s__law_tape, [], []⟩
def d_law : He.DefD := ⟨("law", none), "law", "law", defArgs s_law, defBody s_law, defScope s_law, [], []⟩
def fn : List He.DefD := [d_dealt_rooms, d_rooms_needed, d__law_is, d__law_draw, d__law_tape, d_law]
def fa : List He.Fa := [.glo "dealt_rooms", .glo "rooms_needed", .glo "_law_is", .glo "_law_draw", .glo "_law_tape", .glo "law", .free "bool", .free "enumerate", .free "int", .free "isinstance", .free "len", .free "list", .free "max", .free "range", .free "sorted", .free "str", .free "tuple"]
def ex (K : Fg) : Bool := true
abbrev R : PySem.W.OpenRow := PySem.W.OpenLaw.row PySem.Challenge.rw_everdays_k48_whole_rooms_dealt_out
abbrev hk : PySem.W.Hook := hookF fa fn ex
def headOb (s : PySem.W.SharedT) : He.AlD := obsFG fa fn ex (HandSHeadRun.getT s)
theorem headOb_eq (s : PySem.W.SharedT) : headOb s = hk.obs s.abs := obsFG_eq (HandSHeadRun.getT_eq s)
def loose : List PySem.Str := (["dealt_rooms", "rooms_needed", "_law_is", "_law_draw", "_law_tape"] : List PySem.Str)
section
open HandSHeadRun PySem.W
set_option maxHeartbeats 0 in
theorem run1 (w : PySem.World) (os : PySem.OsState) : ((endF (stepQ (denQ tabQ) R.prog w) 1080 R.prog w os).map fun x => looksF R.prog (boot_heap w.params) x.abs) = some true := by
  kernel_rfl
set_option maxHeartbeats 0 in
theorem run2 (w : PySem.World) (os : PySem.OsState) : ((endF (stepQ (denQ tabQ) R.prog w) 1080 R.prog w os).map fun x => seenQ (PySem.W.view R.prog [7]) loose (importedModules R.prog.main.body) (fun s => PySem.W.xlAt (PySem.W.view R.prog [7]) [] s && PySem.W.recOk R.toRowW.records s) x.abs) = some (openGood (PySem.W.view R.prog [7]) loose) := by
  kernel_rfl
set_option maxHeartbeats 0 in
theorem run3 (w : PySem.World) (os : PySem.OsState) : ((endF (stepQ (denQ tabQ) R.prog w) 1080 R.prog w os).map fun x => (fa.all fun f => f.ok (He.frG (getT x) (asF (getT x)))) && ex (He.frG (getT x) (asF (getT x)))) = some true := by
  kernel_rfl
set_option maxHeartbeats 0 in
theorem run4 (w : PySem.World) (os : PySem.OsState) : ((endF (stepQ (denQ tabQ) R.prog w) 1080 R.prog w os).map fun x => fn.all fun d => d.ok (He.frG (getT x) (asF (getT x)))) = some true := by
  kernel_rfl
set_option maxHeartbeats 0 in
theorem run5 (w : PySem.World) (os : PySem.OsState) : ((endF (stepQ (denQ tabQ) R.prog w) 1080 R.prog w os).map fun x => fn.map fun d => He.fnW (He.frG (getT x) (asF (getT x))) d.at_) = some (fn.map He.DefD.val) := by
  kernel_rfl
theorem run (w : PySem.World) : HandSHeadRun.RunEq R (PySem.W.view R.prog [7]) hk headOb 1080 loose w := by
  intro os
  have a1 := run1 w os
  have a2 := run2 w os
  have a3 := run3 w os
  have a4 := run4 w os
  have a5 := run5 w os
  generalize (endF (stepQ (denQ tabQ) R.prog w) 1080 R.prog w os) = o at a1 a2 a3 a4 a5 ⊢
  exact @run_split _ _ o _ _ (fun x => getT x) fa fn ex _ a1 a2 a3 a4 a5
end
end Lw
namespace Lw
open PySem PySem.Spec PyProof.Rows L2 PL
local macro_rules | `(tactic| walk_at "go") => `(tactic| repeat' (first | assumption | with_reducible apply And.intro | walk_at "cs"))
local macro_rules | `(tactic| walk_at "ex") => `(tactic| simp only [List.cons.injEq, Sl.va.injEq, Sl.ow.injEq, Ow.lst.injEq, D.int.injEq, D.bl.injEq, D.str.injEq, D.lst.injEq, D.tup.injEq, true_and, and_true])
local macro_rules | `(tactic| walk_at "gn") => `(tactic| simp only [↓gN, ↓gsNil, ↓gsCons, ↓gT, ↓gSq, List.length_cons, List.length_nil, Nat.reduceAdd, true_and, List.set_cons_zero, List.set_cons_succ])
local macro_rules | `(tactic| walk_at "sp") => `(tactic| repeat' (first | split | with_reducible apply And.intro))
local macro_rules | `(tactic| walk_at "cs") => `(tactic| first | (unfold CMulP; omega) | (unfold CPowP; omega) | (unfold CModP; omega) | (unfold CDivP; omega))
local macro_rules | `(tactic| walk_at "pl") => `(tactic| simp only [↓sSeq, ↓sAsg, ↓sRet, ↓sRetN, ↓sIf, ↓sDrop, ↓sPar, ↓sAug, ↓sNext, ↓sTgt, ↓sApp, ↓sExt, ↓sPop, ↓sSet, ↓sBreak, ↓sCont, ↓eVar, ↓bVar, ↓eMov, ↓bE, ↓eBin, ↓tE, ↓eChain_eq, chS_bl, chS_true, chS_false, wipeE_nil, wipeE_cons, ↓eUn, ↓qAnd, ↓qOr, ↓qNot, ↓eAnd_eq, ↓eOr_eq, ↓sNever, ↓eNot, ↓eIf, ↓aNil, ↓aCons, ↓aConsB, ↓eTup, ↓eLst, ↓iSeq, ↓iR1, ↓iR2, ↓iEnum1, ↓iRev1, ↓cSortD,  ↓gN, ↓gsNil, ↓gsCons, ↓gT, ↓eCall, ↓eCallX, ↓sRaise, ↓sTry, ↓dI2, ↓dAdd, ↓dEq, ↓dNe, ↓dIsN, ↓dNotN, ↓dIx, ↓oNone, ↓oSome, ↓eSl, ↓eB, ↓cLen, ↓cInt, ↓cAbs, ↓cMax2, ↓cMin2, ↓cDivmod, ↓cList, ↓cTuple, ↓cSum, ↓cMax, ↓cMin, ↓cAll, ↓cAny, ↓cSorted, ↓dIn, ↓dInX, ↓eM, ↓mIndex, ↓tyM, ↓gSq, ↓cSet, natc0, natc1, natc2, List.findIdx?_cons, List.findIdx?_nil, intsOf_ints, boolsOf_bls, plAnyI, plAnyR, ↓cGcd, ↓cLcm, ↓eRange, ↓eIsi, ↓Sl.val, ↓Ow.toD, ↓stE, ↓tYes', ↓eIxM, ↓sSetM, ↓PL.isNon, ↓eC, ↓bC, ↓dSub, ↓dMul, ↓dDiv, ↓dMod, ↓dPow, ↓dLt, ↓dLe, ↓dGt, ↓dGe, ↓dAddI, ↓dDivS, ↓dEqI, ↓dNeI,
  List.getElem?_cons_zero, List.getElem?_cons_succ, List.set_cons_zero, List.set_cons_succ, List.map_cons, List.map_nil, List.length_cons, List.length_nil, List.nil_append, List.cons_append, List.replicate_succ, List.replicate_zero, List.append_nil, atI0, atI1, atI2, atI3, atI4,
  cmpOk_int, cmpOk_bl, cmpOk_non, deq_int, deq_bl, true_and, and_true, Nat.reduceAdd, Nat.reduceSub, Nat.reduceLeDiff, Nat.reduceLT, Bool.not_eq_true', Bool.false_eq_true, if_false, if_true, decide_eq_true_eq, decide_eq_false_iff_not, Nat.zero_add, Nat.sub_zero, Nat.add_zero, Nat.sub_self, isi_non_bool, isi_non_int, isi_non_str, isi_non_list, isi_non_tuple, isi_bl_bool, isi_bl_int, isi_bl_str, isi_bl_list, isi_bl_tuple, isi_int_bool, isi_int_int, isi_int_str, isi_int_list, isi_int_tuple, isi_str_bool, isi_str_int, isi_str_str, isi_str_list, isi_str_tuple, isi_lst_bool, isi_lst_int, isi_lst_str, isi_lst_list, isi_lst_tuple, isi_tup_bool, isi_tup_int, isi_tup_str, isi_tup_list, isi_tup_tuple, ixN31, ixN32, List.length_map, List.length_set, Int.reduceToNat, Int.reducePow, Int.reduceNeg, Int.reduceAdd, Int.reduceSub, Int.reduceMul, Int.reduceLT, Int.reduceLE, Int.reduceEq, Nat.reduceEqDiff, reduceCtorEq, List.mem_singleton, eq_self, not_true_eq_false, not_false_eq_true, or_true, true_or, cmpOk_lstA, cmpOk_tupA, ckA_lst, ckA_tup, ckAl_nil, ckAl_cons, ckAl_ints, ckAl_rangeL, ck_int, ck_bl, ck_non, ck_strI, cmpOk_str, deq_str, deq_tup, deq_lst, deqA_nil, deqA_cons, deqA_ints, Bool.and_true, Bool.true_and, Bool.and_false, Bool.false_and, decide_true, decide_false, Bool.not_true, Bool.not_false])

abbrev N_dealt_rooms : List Str := ["spans", "order", "ends", "found", "first", "end", "place", "room", "span"]
theorem sc_dealt_rooms : FnScope N_dealt_rooms ["spans"] (defScope s_dealt_rooms) := ⟨rfl, rfl, rfl, by decide +kernel, rfl, by decide +kernel, by decide +kernel⟩
abbrev N_rooms_needed : List Str := ["spans", "rooms"]
theorem sc_rooms_needed : FnScope N_rooms_needed ["spans"] (defScope s_rooms_needed) := ⟨rfl, rfl, rfl, by decide +kernel, rfl, by decide +kernel, by decide +kernel⟩
abbrev N__law_is : List Str := ["told", "due"]
theorem sc__law_is : FnScope N__law_is ["told", "due"] (defScope s__law_is) := ⟨rfl, rfl, rfl, by decide +kernel, rfl, by decide +kernel, by decide +kernel⟩
abbrev N__law_draw : List Str := ["tape", "many", "cells", "k", "cell", "digit"]
theorem sc__law_draw : FnScope N__law_draw ["tape", "many"] (defScope s__law_draw) := ⟨rfl, rfl, rfl, by decide +kernel, rfl, by decide +kernel, by decide +kernel⟩
abbrev N__law_tape : List Str := ["script"]
theorem sc__law_tape : FnScope N__law_tape ["script"] (defScope s__law_tape) := ⟨rfl, rfl, rfl, by decide +kernel, rfl, by decide +kernel, by decide +kernel⟩
abbrev N_law : List Str := ["script", "tape", "spans", "k", "first", "told", "due", "order", "span", "room", "turn", "clash", "most", "minute", "j", "a", "b"]
theorem sc_law : FnScope N_law ["script"] (defScope s_law) := ⟨rfl, rfl, rfl, by decide +kernel, rfl, by decide +kernel, by decide +kernel⟩
abbrev FnP (K : Fg) (x : Str) (st : Stmt) (f : Addr) (fd : FuncData) : Prop := FunD K x x (defArgs st) (defBody st) (defScope st) [] [] f fd
abbrev FnM (K : Fg) (x q : Str) (st : Stmt) (kws : List (Str × V)) (f : Addr) (fd : FuncData) : Prop := FunD K x q (defArgs st) (defBody st) (defScope st) [] kws f fd
/-- what the top leaves -/
structure TF (K : Fg) (mg : Str → Option Value) where
  x_dealt_rooms : FuncData
  a_dealt_rooms : Addr
  f_dealt_rooms : FnP K "dealt_rooms" s_dealt_rooms a_dealt_rooms x_dealt_rooms
  g_dealt_rooms : mg "dealt_rooms" = some (.ref a_dealt_rooms)
  b_dealt_rooms : Binds K x_dealt_rooms ["spans"] []
  x_rooms_needed : FuncData
  a_rooms_needed : Addr
  f_rooms_needed : FnP K "rooms_needed" s_rooms_needed a_rooms_needed x_rooms_needed
  g_rooms_needed : mg "rooms_needed" = some (.ref a_rooms_needed)
  b_rooms_needed : Binds K x_rooms_needed ["spans"] []
  x__law_is : FuncData
  a__law_is : Addr
  f__law_is : FnP K "_law_is" s__law_is a__law_is x__law_is
  g__law_is : mg "_law_is" = some (.ref a__law_is)
  b__law_is : Binds K x__law_is ["told", "due"] []
  x__law_draw : FuncData
  a__law_draw : Addr
  f__law_draw : FnP K "_law_draw" s__law_draw a__law_draw x__law_draw
  g__law_draw : mg "_law_draw" = some (.ref a__law_draw)
  b__law_draw : Binds K x__law_draw ["tape", "many"] []
  x__law_tape : FuncData
  a__law_tape : Addr
  f__law_tape : FnP K "_law_tape" s__law_tape a__law_tape x__law_tape
  g__law_tape : mg "_law_tape" = some (.ref a__law_tape)
  b__law_tape : Binds K x__law_tape ["script"] []
  x_law : FuncData
  a_law : Addr
  f_law : FnP K "law" s_law a_law x_law
  g_law : mg "law" = some (.ref a_law)
  b_law : Binds K x_law ["script"] []
  m_bool : mg "bool" = none
  m_enumerate : mg "enumerate" = none
  m_int : mg "int" = none
  m_isinstance : mg "isinstance" = none
  m_len : mg "len" = none
  m_list : mg "list" = none
  m_max : mg "max" = none
  m_range : mg "range" = none
  m_sorted : mg "sorted" = none
  m_str : mg "str" = none
  m_tuple : mg "tuple" = none
section
variable {P : Program} {w : World} {K : Fg} {mg : Str → Option Value} {base : Heap}
theorem hu64 {k : Nat} {A : Around} (hr : Room k A) : A.units + 64 < cLine := hr.units
theorem hu1 {k : Nat} {A : Around} (hr : Room k A) : A.units + 1 < cLine := by have := hr.un; omega
theorem hu65 {k : Nat} {A : Around} (hr : Room k A) : A.units + 65 < cLine := by have := hr.un; omega
theorem asc_ext : ∀ {as bs : List Int}, Asc as → Asc bs → (∀ k, k ∈ as ↔ k ∈ bs) → as = bs
  | [], [], _, _, _ => rfl
  | [], b :: bs, _, _, h => absurd ((h b).mpr List.mem_cons_self) (by simp)
  | a :: as, [], _, _, h => absurd ((h a).mp List.mem_cons_self) (by simp)
  | a :: as, b :: bs, ha, hb, h => by
    have ha1 := (List.pairwise_cons.mp ha).1
    have hb1 := (List.pairwise_cons.mp hb).1
    have e : a = b := by
      have h1 := (h a).mp List.mem_cons_self
      have h2 := (h b).mpr List.mem_cons_self
      rcases List.mem_cons.mp h1 with e | h1
      · exact e
      · rcases List.mem_cons.mp h2 with e | h2
        · exact e.symm
        · have := ha1 b h2
          have := hb1 a h1
          omega
    subst e
    congr 1
    refine asc_ext (List.pairwise_cons.mp ha).2 (List.pairwise_cons.mp hb).2 fun k => ?_
    constructor
    · intro hk
      rcases List.mem_cons.mp ((h k).mp (List.mem_cons_of_mem _ hk)) with e | w
      · have := ha1 k hk
        omega
      · exact w
    · intro hk
      rcases List.mem_cons.mp ((h k).mpr (List.mem_cons_of_mem _ hk)) with e | w
      · have := hb1 k hk
        omega
      · exact w
theorem asc_snoc {as : List Int} {a : Int} (h : Asc as) (k : ∀ b ∈ as, b < a) : Asc (as ++ [a]) := by
  refine List.pairwise_append.mpr ⟨h, by simp, fun b hb c hc => ?_⟩
  rw [List.mem_singleton.mp hc]
  exact k b hb
theorem asc_len : ∀ {as : List Int} {a b : Int}, Asc as → (∀ k ∈ as, a ≤ k ∧ k < b) → a ≤ b → (as.length : Int) ≤ b - a
  | [], a, b, _, _, h => by simp; omega
  | c :: as, a, b, hA, hm, h => by
    have h1 := hm c List.mem_cons_self
    have := asc_len (a := c + 1) (b := b) (List.pairwise_cons.mp hA).2 (fun k hk => ⟨by have := (List.pairwise_cons.mp hA).1 k hk; omega, (hm k (List.mem_cons_of_mem _ hk)).2⟩) (by omega)
    rw [List.length_cons]
    omega
theorem perm_asc {as bs : List Int} (h : as.Perm bs) (ha : as.Pairwise (· ≤ ·)) (hb : Asc bs) : as = bs :=
  asc_ext (asc_of ha (h.nodup_iff.mpr (hb.imp fun {a b} h => by omega))) hb fun k => h.mem_iff
theorem asc_filter {p : Int → Bool} {ns : List Int} (h : Asc ns) : Asc (ns.filter p) := h.sublist List.filter_sublist
theorem imul1 (a b : Int) : a * (b + 1) = a * b + a := by rw [Int.mul_add, Int.mul_one]
theorem cntL_mem {ns : List Int} (h : Asc ns) {r : Int} : r ∈ ns ↔ ∃ k : Nat, (k : Int) = cntL ns r ∧ ns[k]? = some r := by
  constructor
  · intro hm
    obtain ⟨i, hi, e⟩ := List.mem_iff_getElem.mp hm
    have e1 : ns[i]? = some r := by rw [List.getElem?_eq_getElem hi, e]
    refine ⟨i, ?_, e1⟩
    have h1 := not_congr (cntL_lt h (r := r) e1)
    have hb := cntL_le (ns := ns) (r := r)
    rcases (by omega : (i : Int) = cntL ns r ∨ cntL ns r < i) with c | c
    · exact c
    · have hk : (cntL ns r).toNat < ns.length := by omega
      have e2 : ns[(cntL ns r).toNat]? = some ns[(cntL ns r).toNat] := List.getElem?_eq_getElem hk
      have h3 := not_congr (cntL_lt h (r := r) e2)
      have h4 := h.get (by omega) e2 e1
      omega
  · rintro ⟨k, _, e⟩
    exact List.mem_of_getElem? e
/-- the first one from d on, of residues that come again -/
def nextR (p : Int) (ns : List Int) (d : Int) : Int := if cntL ns (d % p) < ns.length then d - d % p + ns.getD (cntL ns (d % p)).toNat 0 else d - d % p + p + ns.getD 0 0
/-- the last one under d -/
def prevR (p : Int) (ns : List Int) (d : Int) : Int := if 0 < cntL ns (d % p) then d - d % p + ns.getD ((cntL ns (d % p)).toNat - 1) 0 else d - d % p - p + ns.getD (ns.length - 1) 0
/-- the residues of so many periods -/
def spreadL (p : Int) (ns : List Int) (t : Nat) : List Int := (List.range t).flatMap fun (k : Nat) => ns.map fun r => (k : Int) * p + r
theorem spreadL_succ {p : Int} {ns : List Int} {t : Nat} : spreadL p ns (t + 1) = spreadL p ns t ++ ns.map fun r => (t : Int) * p + r := by
  unfold spreadL
  rw [List.range_succ, List.flatMap_append]
  simp
theorem spreadL_len {p : Int} {ns : List Int} : ∀ {t : Nat}, (spreadL p ns t).length = t * ns.length
  | 0 => by simp [spreadL]
  | t + 1 => by rw [spreadL_succ, List.length_append, spreadL_len, List.length_map, Nat.succ_mul]
theorem asc_rgI {a b : Int} : Asc (rgI a b) := by
  generalize hk : (b - a).toNat = k
  induction k generalizing a with
  | zero => rw [rgI_nil (by omega)]; exact List.Pairwise.nil
  | succ k ih =>
    rw [rgI_cons (by omega)]
    refine List.pairwise_cons.mpr ⟨fun v hv => ?_, ih (by omega)⟩
    have := rgI_mem.mp hv
    omega
theorem Asc.filter {ns : List Int} (h : Asc ns) (p : Int → Bool) : Asc (ns.filter p) := List.Pairwise.filter _ h
/-- residues of the period p -/
def Res (p : Int) (ns : List Int) : Prop := 0 < p ∧ Asc ns ∧ ∀ r ∈ ns, 0 ≤ r ∧ r < p
theorem nextR_spec {p : Int} {ns : List Int} (h : Res p ns) (hl : 0 < ns.length) (d : Int) : d ≤ nextR p ns d ∧ nextR p ns d % p ∈ ns ∧ nextR p ns d < d + p ∧ ∀ x, d ≤ x → x % p ∈ ns → nextR p ns d ≤ x := by
  obtain ⟨hp, ha, hr⟩ := h
  have hb := cntL_le (ns := ns) (r := d % p)
  have e0 := Int.emod_nonneg d (show p ≠ 0 by omega)
  have e1 := Int.emod_lt_of_pos d hp
  have ed := Int.mul_ediv_add_emod d p
  unfold nextR
  by_cases c : cntL ns (d % p) < ns.length
  · rw [if_pos c]
    obtain ⟨v, hv, _⟩ := at_ints (ns := ns) (i := cntL ns (d % p)) (by omega) c
    rw [List.getD_eq_getElem?_getD, hv, Option.getD_some]
    have hm := List.mem_of_getElem? hv
    have hv2 := hr v hm
    have h3 := not_congr (cntL_lt ha (r := d % p) hv)
    have em : (d - d % p + v) % p = v := by
      rw [show d - d % p + v = v + p * (d / p) by omega, Int.add_mul_emod_self_left, Int.emod_eq_of_lt hv2.1 hv2.2]
    refine ⟨by omega, by rw [em]; exact hm, ?_, fun x hx hxm => ?_⟩
    · rcases (by omega : v < p + d % p ∨ p + d % p ≤ v) with w | w <;> omega
    · have x0 := Int.emod_nonneg x (show p ≠ 0 by omega)
      have x1 := Int.emod_lt_of_pos x hp
      have xd := Int.mul_ediv_add_emod x p
      rcases Int.lt_trichotomy (x / p) (d / p) with w | w | w
      · have : p * (x / p) + p ≤ p * (d / p) := by rw [← imul1]; exact Int.mul_le_mul_of_nonneg_left (by omega) (by omega)
        omega
      · rw [w] at xd
        obtain ⟨i, hi, e⟩ := List.mem_iff_getElem.mp hxm
        have e3 : ns[i]? = some (x % p) := by rw [List.getElem?_eq_getElem hi, e]
        have h5 := not_congr (cntL_lt ha (r := d % p) e3)
        rcases (by omega : (i : Int) = cntL ns (d % p) ∨ cntL ns (d % p) < i) with q | q
        · rw [← q, Int.toNat_natCast, e3] at hv
          have := Option.some.inj hv
          omega
        · have := ha.get (by omega) hv e3
          omega
      · have : p * (d / p) + p ≤ p * (x / p) := by rw [← imul1]; exact Int.mul_le_mul_of_nonneg_left (by omega) (by omega)
        omega
  · rw [if_neg c]
    obtain ⟨v, hv, _⟩ := at_ints (ns := ns) (i := 0) (by omega) (by omega)
    have hv : ns[0]? = some v := hv
    rw [List.getD_eq_getElem?_getD, hv, Option.getD_some]
    have hm := List.mem_of_getElem? hv
    have hv2 := hr v hm
    have h3 := cntL_lt ha (r := d % p) hv
    have em : (d - d % p + p + v) % p = v := by
      rw [show d - d % p + p + v = v + p * (d / p + 1) by rw [imul1]; omega, Int.add_mul_emod_self_left, Int.emod_eq_of_lt hv2.1 hv2.2]
    refine ⟨by omega, by rw [em]; exact hm, by omega, fun x hx hxm => ?_⟩
    have x0 := Int.emod_nonneg x (show p ≠ 0 by omega)
    have x1 := Int.emod_lt_of_pos x hp
    have xd := Int.mul_ediv_add_emod x p
    obtain ⟨i, hi, e⟩ := List.mem_iff_getElem.mp hxm
    have e3 : ns[i]? = some (x % p) := by rw [List.getElem?_eq_getElem hi, e]
    have h5 := cntL_lt ha (r := d % p) e3
    have h6 : v ≤ x % p := by
      rcases (by omega : i = 0 ∨ 0 < i) with q | q
      · subst q
        rw [hv] at e3
        have := Option.some.inj e3
        omega
      · have := ha.get q hv e3
        omega
    rcases (by omega : x / p ≤ d / p ∨ d / p + 1 ≤ x / p) with w | w
    · have : p * (x / p) ≤ p * (d / p) := Int.mul_le_mul_of_nonneg_left w (by omega)
      omega
    · have : p * (d / p) + p ≤ p * (x / p) := by rw [← imul1]; exact Int.mul_le_mul_of_nonneg_left w (by omega)
      omega
theorem prevR_spec {p : Int} {ns : List Int} (h : Res p ns) (hl : 0 < ns.length) (d : Int) : prevR p ns d < d ∧ prevR p ns d % p ∈ ns ∧ d - p ≤ prevR p ns d ∧ ∀ x, x < d → x % p ∈ ns → x ≤ prevR p ns d := by
  obtain ⟨hp, ha, hr⟩ := h
  have hb := cntL_le (ns := ns) (r := d % p)
  have e0 := Int.emod_nonneg d (show p ≠ 0 by omega)
  have e1 := Int.emod_lt_of_pos d hp
  have ed := Int.mul_ediv_add_emod d p
  unfold prevR
  by_cases c : 0 < cntL ns (d % p)
  · rw [if_pos c]
    obtain ⟨v, hv, _⟩ := at_ints (ns := ns) (i := cntL ns (d % p) - 1) (by omega) (by omega)
    rw [List.getD_eq_getElem?_getD, show (cntL ns (d % p)).toNat - 1 = (cntL ns (d % p) - 1).toNat by omega, hv, Option.getD_some]
    have hm := List.mem_of_getElem? hv
    have hv2 := hr v hm
    have h3 := cntL_lt ha (r := d % p) hv
    have em : (d - d % p + v) % p = v := by
      rw [show d - d % p + v = v + p * (d / p) by omega, Int.add_mul_emod_self_left, Int.emod_eq_of_lt hv2.1 hv2.2]
    refine ⟨by omega, by rw [em]; exact hm, by omega, fun x hx hxm => ?_⟩
    have x0 := Int.emod_nonneg x (show p ≠ 0 by omega)
    have x1 := Int.emod_lt_of_pos x hp
    have xd := Int.mul_ediv_add_emod x p
    rcases Int.lt_trichotomy (x / p) (d / p) with w | w | w
    · have : p * (x / p) + p ≤ p * (d / p) := by rw [← imul1]; exact Int.mul_le_mul_of_nonneg_left (by omega) (by omega)
      omega
    · rw [w] at xd
      obtain ⟨i, hi, e⟩ := List.mem_iff_getElem.mp hxm
      have e3 : ns[i]? = some (x % p) := by rw [List.getElem?_eq_getElem hi, e]
      have h5 := cntL_lt ha (r := d % p) e3
      rcases (by omega : (i : Int) = cntL ns (d % p) - 1 ∨ (i : Int) < cntL ns (d % p) - 1) with q | q
      · rw [← q, Int.toNat_natCast, e3] at hv
        have := Option.some.inj hv
        omega
      · have := ha.get (by omega) e3 hv
        omega
    · have : p * (d / p) + p ≤ p * (x / p) := by rw [← imul1]; exact Int.mul_le_mul_of_nonneg_left (by omega) (by omega)
      omega
  · rw [if_neg c]
    have hv : ns[ns.length - 1]? = some (ns.getD (ns.length - 1) 0) := by
      rw [List.getD_eq_getElem?_getD, List.getElem?_eq_getElem (by omega)]
      rfl
    generalize ns.getD (ns.length - 1) 0 = v at *
    have hm := List.mem_of_getElem? hv
    have hv2 := hr v hm
    have h3 := cntL_lt ha (r := d % p) hv
    have em : (d - d % p - p + v) % p = v := by
      rw [show d - d % p - p + v = v + p * (d / p - 1) by rw [Int.mul_sub, Int.mul_one]; omega, Int.add_mul_emod_self_left, Int.emod_eq_of_lt hv2.1 hv2.2]
    refine ⟨by omega, by rw [em]; exact hm, by omega, fun x hx hxm => ?_⟩
    have x0 := Int.emod_nonneg x (show p ≠ 0 by omega)
    have x1 := Int.emod_lt_of_pos x hp
    have xd := Int.mul_ediv_add_emod x p
    obtain ⟨i, hi, e⟩ := List.mem_iff_getElem.mp hxm
    have e3 : ns[i]? = some (x % p) := by rw [List.getElem?_eq_getElem hi, e]
    have h5 := cntL_lt ha (r := d % p) e3
    have h6 : x % p ≤ v := by
      rcases (by omega : i = ns.length - 1 ∨ i < ns.length - 1) with q | q
      · subst q
        rw [hv] at e3
        have := Option.some.inj e3
        omega
      · have := ha.get q e3 hv
        omega
    rcases (by omega : x / p ≤ d / p - 1 ∨ d / p ≤ x / p) with w | w
    · have : p * (x / p) ≤ p * (d / p - 1) := Int.mul_le_mul_of_nonneg_left w (by omega)
      rw [Int.mul_sub, Int.mul_one] at this
      omega
    · have : p * (d / p) ≤ p * (x / p) := Int.mul_le_mul_of_nonneg_left w (by omega)
      omega
theorem emod_far {d c p : Int} : (d + c * p) % p = d % p := Int.add_mul_emod_self_right ..
theorem ediv_far {d c p : Int} (h : 0 < p) : (d + c * p) / p = d / p + c := Int.add_mul_ediv_right _ _ (by omega)
theorem nextR_far {p d c : Int} {ns : List Int} : nextR p ns (d + c * p) = nextR p ns d + c * p := by
  unfold nextR
  rw [emod_far]
  split <;> omega
theorem prevR_far {p d c : Int} {ns : List Int} : prevR p ns (d + c * p) = prevR p ns d + c * p := by
  unfold prevR
  rw [emod_far]
  split <;> omega
theorem spreadL_mem {p : Int} {ns : List Int} (h : Res p ns) : ∀ {t : Nat} {x : Int}, x ∈ spreadL p ns t ↔ 0 ≤ x ∧ x < p * t ∧ x % p ∈ ns
  | 0, x => by simp [spreadL]; omega
  | t + 1, x => by
    have hp := h.1
    rw [spreadL_succ, List.mem_append, spreadL_mem h, List.mem_map]
    have x0 := Int.emod_nonneg x (show p ≠ 0 by omega)
    have x1 := Int.emod_lt_of_pos x hp
    have xd := Int.mul_ediv_add_emod x p
    have et : p * ((t + 1 : Nat) : Int) = p * t + p := by push_cast; rw [imul1]
    have t0 : 0 ≤ p * (t : Int) := Int.mul_nonneg (by omega) (by omega)
    rw [et]
    constructor
    · rintro (⟨a, b, c⟩ | ⟨r, hr, rfl⟩)
      · exact ⟨a, by omega, c⟩
      · have hb := h.2.2 r hr
        rw [Int.mul_comm (t : Int) p] at *
        refine ⟨by omega, by omega, ?_⟩
        rw [Int.add_comm, Int.add_mul_emod_self_left, Int.emod_eq_of_lt hb.1 hb.2]
        exact hr
    · rintro ⟨a, b, c⟩
      rcases (by omega : x < p * t ∨ p * t ≤ x) with w | w
      · exact .inl ⟨a, w, c⟩
      · refine .inr ⟨x % p, c, ?_⟩
        have e : x / p = t := by
          rcases Int.lt_trichotomy (x / p) t with q | q | q
          · have : p * (x / p) + p ≤ p * t := by rw [← imul1]; exact Int.mul_le_mul_of_nonneg_left (by omega) (by omega)
            omega
          · exact q
          · have : p * t + p ≤ p * (x / p) := by rw [← imul1]; exact Int.mul_le_mul_of_nonneg_left (by omega) (by omega)
            omega
        rw [e] at xd
        rw [Int.mul_comm]
        exact xd
theorem spreadL_asc {p : Int} {ns : List Int} (h : Res p ns) : ∀ {t : Nat}, Asc (spreadL p ns t)
  | 0 => by simp [spreadL]
  | t + 1 => by
    rw [spreadL_succ]
    refine List.pairwise_append.mpr ⟨spreadL_asc h, ?_, ?_⟩
    · refine List.pairwise_map.mpr (h.2.1.imp fun {a b} q => by omega)
    · intro a ha b hb
      have h1 := (spreadL_mem h).mp ha
      obtain ⟨r, hr, rfl⟩ := List.mem_map.mp hb
      have := h.2.2 r hr
      rw [Int.mul_comm (t : Int) p]
      omega
theorem spreadL_filter {p : Int} {ns : List Int} (h : Res p ns) {t : Nat} : (rgI 0 (p * t)).filter (fun n => decide (n % p ∈ ns)) = spreadL p ns t := by
  refine asc_ext (asc_rgI.filter _) (spreadL_asc h) fun n => ?_
  rw [List.mem_filter, rgI_mem, spreadL_mem h, decide_eq_true_eq]
  constructor
  · rintro ⟨⟨a, b⟩, c⟩; exact ⟨a, b, c⟩
  · rintro ⟨a, b, c⟩; exact ⟨⟨a, b⟩, c⟩
def IsPr (q : Int) : Prop := 2 ≤ q ∧ ∀ d, 2 ≤ d → d < q → ¬ d ∣ q
theorem pr_euclid {q a b : Int} (h : IsPr q) (hd : q ∣ a * b) (ha : ¬ q ∣ a) : q ∣ b := by
  have hg : Nat.gcd q.natAbs a.natAbs = 1 := by
    have h1 : (Nat.gcd q.natAbs a.natAbs) ∣ q.natAbs := Nat.gcd_dvd_left _ _
    have h2 : (Nat.gcd q.natAbs a.natAbs) ∣ a.natAbs := Nat.gcd_dvd_right _ _
    have hq := h.1
    have h3 := Nat.le_of_dvd (by omega) h1
    generalize Nat.gcd q.natAbs a.natAbs = g at *
    have h4 : (g : Int) ∣ q := Int.ofNat_dvd_left.mpr h1
    have h5 : (g : Int) ∣ a := Int.ofNat_dvd_left.mpr h2
    have g0 : g ≠ 0 := by
      rintro rfl
      have := Nat.eq_zero_of_zero_dvd h1
      omega
    rcases (by omega : g = 1 ∨ (2 ≤ g ∧ (g : Int) < q) ∨ (g : Int) = q) with e | e | e
    · exact e
    · exact absurd h4 (h.2 g (by omega) e.2)
    · exact absurd (e ▸ h5) ha
  have h6 : q.natAbs ∣ a.natAbs * b.natAbs := by
    rw [← Int.natAbs_mul]
    exact Int.natAbs_dvd_natAbs.mpr hd
  exact Int.natAbs_dvd_natAbs.mp (Nat.Coprime.dvd_of_dvd_mul_left hg h6)
theorem pr_ne {p q : Int} (hp : IsPr p) (hq : IsPr q) (h : q ≠ p) : ¬ q ∣ p := by
  intro hd
  have h1 := Int.le_of_dvd (by have := hp.1; omega) hd
  exact hp.2 q hq.1 (by omega) hd
/-- the primes below p are found and divided out -/
structure PrInv (n0 n p : Int) (ps : List Int) : Prop where
  asc : Asc ps
  mem : ∀ q, q ∈ ps ↔ IsPr q ∧ q ∣ n0 ∧ q < p
  nod : ∀ d, 2 ≤ d → d < p → ¬ d ∣ n
  big : ∀ q, IsPr q → p ≤ q → (q ∣ n0 ↔ q ∣ n)
  pos : 1 ≤ n
  dv : n ∣ n0
/-- p is found, and is being divided out -/
structure PrMid (n0 n p : Int) (ps : List Int) : Prop where
  asc : Asc ps
  mem : ∀ q, q ∈ ps ↔ IsPr q ∧ q ∣ n0 ∧ q < p + 1
  nod : ∀ d, 2 ≤ d → d < p → ¬ d ∣ n
  big : ∀ q, IsPr q → p + 1 ≤ q → (q ∣ n0 ↔ q ∣ n)
  pos : 1 ≤ n
  pr : IsPr p
  dv : n ∣ n0
theorem PrInv.start {n : Int} (h : 1 ≤ n) : PrInv n n 2 [] :=
  ⟨by simp, fun q => by simp only [List.not_mem_nil, false_iff]; rintro ⟨h1, _, h2⟩; have := h1.1; omega, fun d h1 h2 => by omega, fun q _ _ => Iff.rfl, h, Int.dvd_refl n⟩
theorem PrInv.skip {n0 n p : Int} {ps : List Int} (h : PrInv n0 n p ps) (hp : 2 ≤ p) (hd : ¬ p ∣ n) : PrInv n0 n (p + 1) ps := by
  refine ⟨h.asc, fun q => ?_, fun d h1 h2 => ?_, fun q h1 h2 => h.big q h1 (by omega), h.pos, h.dv⟩
  · rw [h.mem q]
    constructor
    · rintro ⟨a, b, c⟩; exact ⟨a, b, by omega⟩
    · rintro ⟨a, b, c⟩
      refine ⟨a, b, ?_⟩
      rcases (by omega : q < p ∨ q = p) with e | e
      · exact e
      · subst e
        exact absurd ((h.big q a (Int.le_refl _)).mp b) hd
  · rcases (by omega : d < p ∨ d = p) with e | e
    · exact h.nod d h1 e
    · rw [e]; exact hd
theorem PrInv.found {n0 n p : Int} {ps : List Int} (h : PrInv n0 n p ps) (hp : 2 ≤ p) (hd : p ∣ n) : PrMid n0 n p (ps ++ [p]) := by
  have pp : IsPr p := ⟨hp, fun d h1 h2 h3 => h.nod d h1 h2 (Int.dvd_trans h3 hd)⟩
  refine ⟨asc_snoc h.asc fun b hb => ((h.mem b).mp hb).2.2, fun q => ?_, h.nod, fun q h1 h2 => h.big q h1 (by omega), h.pos, pp, h.dv⟩
  rw [List.mem_append, h.mem q, List.mem_singleton]
  constructor
  · rintro (⟨a, b, c⟩ | rfl)
    · exact ⟨a, b, by omega⟩
    · exact ⟨pp, (h.big q pp (Int.le_refl _)).mpr hd, by omega⟩
  · rintro ⟨a, b, c⟩
    rcases (by omega : q < p ∨ q = p) with e | e
    · exact .inl ⟨a, b, e⟩
    · exact .inr e
theorem PrMid.div {n0 n p : Int} {ps : List Int} (h : PrMid n0 n p ps) (hd : p ∣ n) : PrMid n0 (n / p) p ps := by
  have hp := h.pr.1
  obtain ⟨k, rfl⟩ := hd
  have e : p * k / p = k := Int.mul_ediv_cancel_left k (by omega)
  rw [e]
  have hk : 1 ≤ k := by
    have := h.pos
    rcases Int.lt_or_le 0 k with w | w
    · omega
    · have : p * k ≤ 0 := Int.mul_nonpos_of_nonneg_of_nonpos (by omega) w
      omega
  refine ⟨h.asc, h.mem, fun d h1 h2 h3 => h.nod d h1 h2 (Int.dvd_mul_of_dvd_right h3), fun q h1 h2 => ?_, hk, h.pr, Int.dvd_trans (Int.dvd_mul_left p k) h.dv⟩
  rw [h.big q h1 h2]
  exact ⟨fun w => pr_euclid h1 w (pr_ne h.pr h1 (by omega)), fun w => Int.dvd_mul_of_dvd_right w⟩
theorem PrMid.fin {n0 n p : Int} {ps : List Int} (h : PrMid n0 n p ps) (hd : ¬ p ∣ n) : PrInv n0 n (p + 1) ps := by
  refine ⟨h.asc, h.mem, fun d h1 h2 => ?_, h.big, h.pos, h.dv⟩
  rcases (by omega : d < p ∨ d = p) with e | e
  · exact h.nod d h1 e
  · rw [e]; exact hd
/-- the prime divisors -/
def PrimesOf (n : Int) (ps : List Int) : Prop := Asc ps ∧ ∀ q, q ∈ ps ↔ IsPr q ∧ q ∣ n
theorem PrimesOf.uniq {n : Int} {ps qs : List Int} (h : PrimesOf n ps) (k : PrimesOf n qs) : ps = qs := asc_ext h.1 k.1 fun q => by rw [h.2 q, k.2 q]
theorem PrInv.one {n0 p : Int} {ps : List Int} (h : PrInv n0 1 p ps) (hp : 2 ≤ p) : PrimesOf n0 ps := by
  refine ⟨h.asc, fun q => ?_⟩
  rw [h.mem q]
  constructor
  · rintro ⟨a, b, _⟩; exact ⟨a, b⟩
  · rintro ⟨a, b⟩
    refine ⟨a, b, ?_⟩
    rcases Int.lt_or_le q p with e | e
    · exact e
    · have := Int.le_of_dvd (by omega) ((h.big q a e).mp b)
      have := a.1
      omega
theorem PrInv.last {n0 n p : Int} {ps : List Int} (h : PrInv n0 n p ps) (hp : 2 ≤ p) (hn : n < p * p) (h1 : 1 < n) : PrimesOf n0 (ps ++ [n]) := by
  have pn : IsPr n := by
    refine ⟨by omega, fun d h2 h3 h4 => ?_⟩
    obtain ⟨k, hk⟩ := h4
    have k2 : 2 ≤ k := by
      rcases (by omega : k ≤ 0 ∨ k = 1 ∨ 2 ≤ k) with w | w | w
      · have : d * k ≤ 0 := Int.mul_nonpos_of_nonneg_of_nonpos (by omega) w
        omega
      · rw [w] at hk; omega
      · exact w
    have d1 : p ≤ d := by
      rcases Int.lt_or_le d p with w | w
      · exact absurd ⟨k, hk⟩ (h.nod d h2 w)
      · exact w
    have d2 : p ≤ k := by
      rcases Int.lt_or_le k p with w | w
      · exact absurd (⟨d, by rw [hk, Int.mul_comm]⟩ : k ∣ n) (h.nod k k2 w)
      · exact w
    have := Int.mul_le_mul d1 d2 (by omega) (by omega)
    omega
  have hle : p ≤ n := by
    rcases Int.lt_or_le n p with w | w
    · exact absurd (Int.dvd_refl n) (h.nod n (by omega) w)
    · exact w
  refine ⟨asc_snoc h.asc fun b hb => by have := ((h.mem b).mp hb).2.2; omega, fun q => ?_⟩
  rw [List.mem_append, h.mem q, List.mem_singleton]
  constructor
  · rintro (⟨a, b, c⟩ | rfl)
    · exact ⟨a, b⟩
    · exact ⟨pn, h.dv⟩
  · rintro ⟨a, b⟩
    rcases Int.lt_or_le q p with e | e
    · exact .inl ⟨a, b, e⟩
    · have hq := (h.big q a e).mp b
      refine .inr ?_
      rcases (by have := Int.le_of_dvd (by omega) hq; omega : q < n ∨ q = n) with w | w
      · exact absurd hq (pn.2 q a.1 w)
      · exact w
/-- a number above 1 has a prime divisor -/
theorem pr_ex : ∀ (k : Nat) {n : Int}, 2 ≤ n → n.toNat ≤ k → ∃ q, IsPr q ∧ q ∣ n
  | 0, n, h, hk => by omega
  | k + 1, n, h, hk => by
    by_cases e : IsPr n
    · exact ⟨n, e, Int.dvd_refl n⟩
    · have : ∃ d, 2 ≤ d ∧ d < n ∧ d ∣ n := by
        refine Classical.byContradiction fun w => e ⟨h, fun d h1 h2 h3 => w ⟨d, h1, h2, h3⟩⟩
      obtain ⟨d, h1, h2, h3⟩ := this
      obtain ⟨q, a, b⟩ := pr_ex k h1 (by omega)
      exact ⟨q, a, Int.dvd_trans b h3⟩
/-- shifted by t the same numbers are told -/
def Closed (P : Int) (ns : List Int) (t : Int) : Prop := ∀ r ∈ ns, (r + t) % P ∈ ns
instance {P : Int} {ns : List Int} {t : Int} : Decidable (Closed P ns t) := by unfold Closed; infer_instance
/-- there is no lesser period -/
def Mini (P : Int) (ns : List Int) : Prop := ∀ t, 1 ≤ t → t < P → t ∣ P → ¬ Closed P ns t
theorem closed_iff {P t : Int} {ns : List Int} (h : Res P ns) : Closed P ns t ↔ ∀ x, x % P ∈ ns → (x + t) % P ∈ ns := by
  constructor
  · intro c x hx
    have := c _ hx
    rwa [Int.emod_add_emod] at this
  · intro c r hr
    have := h.2.2 r hr
    exact c r (by rw [Int.emod_eq_of_lt this.1 this.2]; exact hr)
theorem closed_mul {P t : Int} {ns : List Int} (h : Res P ns) (c : Closed P ns t) : ∀ (j : Nat) {x : Int}, x % P ∈ ns → (x + j * t) % P ∈ ns
  | 0, x, hx => by simpa using hx
  | j + 1, x, hx => by
    have h1 := closed_mul h c j hx
    have h2 := (closed_iff h).mp c _ h1
    rw [show x + ((j + 1 : Nat) : Int) * t = x + j * t + t by rw [Int.natCast_add, Int.add_mul]; omega]
    exact h2
/-- the residues by the lesser period -/
theorem closed_red {P t : Int} {ns : List Int} (h : Res P ns) (ht : 1 ≤ t) (hd : t ∣ P) (c : Closed P ns t) :
    Res t (ns.filter fun r => decide (r < t)) ∧ ∀ x, x % t ∈ (ns.filter fun r => decide (r < t)) ↔ x % P ∈ ns := by
  refine ⟨⟨by omega, h.2.1.filter _, fun r hr => ?_⟩, fun x => ?_⟩
  · obtain ⟨h1, h2⟩ := List.mem_filter.mp hr
    exact ⟨(h.2.2 r h1).1, by simpa using h2⟩
  · obtain ⟨k, hk⟩ := hd
    have hP := h.1
    have kpos : 0 < k := by
      rcases Int.lt_or_le 0 k with w | w
      · exact w
      · have : t * k ≤ 0 := Int.mul_nonpos_of_nonneg_of_nonpos (by omega) w
        omega
    have e1 : x % P % t = x % t := Int.emod_emod_of_dvd x ⟨k, hk⟩
    have y0 := Int.emod_nonneg x (show P ≠ 0 by omega)
    have y1 := Int.emod_lt_of_pos x hP
    generalize x % P = y at *
    have q0 : 0 ≤ y / t := Int.ediv_nonneg y0 (by omega)
    have q1 : y / t < k := by
      refine Int.ediv_lt_of_lt_mul (by omega) ?_
      rw [Int.mul_comm k t, ← hk]; exact y1
    have ed := Int.mul_ediv_add_emod y t
    have m0 := Int.emod_nonneg y (show t ≠ 0 by omega)
    have m1 := Int.emod_lt_of_pos y (show 0 < t by omega)
    have le : t ≤ P := by
      have := Int.mul_le_mul_of_nonneg_left (show 1 ≤ k by omega) (show 0 ≤ t by omega)
      omega
    rw [← e1, List.mem_filter]
    have z0 : y % t % P = y % t := Int.emod_eq_of_lt m0 (by omega)
    constructor
    · rintro ⟨a, _⟩
      have := closed_mul h c (y / t).toNat (x := y % t) (by rw [z0]; exact a)
      rw [Int.toNat_of_nonneg q0, show y % t + y / t * t = y by rw [Int.mul_comm]; omega, Int.emod_eq_of_lt y0 y1] at this
      exact this
    · intro a
      refine ⟨?_, by simpa using m1⟩
      have := closed_mul h c (k - y / t).toNat (x := y) (by rw [Int.emod_eq_of_lt y0 y1]; exact a)
      rw [Int.toNat_of_nonneg (by omega), show y + (k - y / t) * t = y % t + P * 1 by rw [Int.sub_mul, Int.mul_comm k t, Int.mul_comm (y / t) t]; omega, Int.add_mul_emod_self_left, z0] at this
      exact this
theorem closed_len {P t : Int} {ns : List Int} (h : Res P ns) (ht : 1 ≤ t) (hd : t ∣ P) (c : Closed P ns t) : (ns.length : Int) % (P / t) = 0 := by
  obtain ⟨h1, h2⟩ := closed_red h ht hd c
  have hP := h.1
  have e : P = t * ((P / t).toNat : Nat) := by
    have h0 : 0 ≤ P / t := Int.ediv_nonneg (by omega) (by omega)
    rw [Int.toNat_of_nonneg h0]
    exact (Int.mul_ediv_cancel' hd).symm
  have : ns = spreadL t (ns.filter fun r => decide (r < t)) (P / t).toNat := by
    refine asc_ext h.2.1 (spreadL_asc h1) fun x => ?_
    rw [spreadL_mem h1, ← e]
    constructor
    · intro hx
      have hb := h.2.2 x hx
      exact ⟨hb.1, hb.2, (h2 x).mpr (by rw [Int.emod_eq_of_lt hb.1 hb.2]; exact hx)⟩
    · rintro ⟨a, b, d⟩
      have := (h2 x).mp d
      rwa [Int.emod_eq_of_lt a b] at this
  have hl := congrArg List.length this
  rw [spreadL_len] at hl
  rw [hl]
  have h0 : 0 ≤ P / t := Int.ediv_nonneg (by omega) (by omega)
  rw [show (((P / t).toNat * (ns.filter fun r => decide (r < t)).length : Nat) : Int) = P / t * ((ns.filter fun r => decide (r < t)).length : Nat) by rw [Int.natCast_mul]; congr 1; omega]
  exact Int.mul_emod_right _ _
/-- what stands while the period is made less -/
structure Shr (P0 : Int) (ns0 : List Int) (done : List Int) (P : Int) (ns : List Int) : Prop where
  res : Res P ns
  dvd : P ∣ P0
  same : ∀ x, x % P ∈ ns ↔ x % P0 ∈ ns0
  len : ns.length ≤ ns0.length
  done : ∀ q ∈ done, ¬ (q ∣ P ∧ Closed P ns (P / q))
theorem Shr.start {P : Int} {ns : List Int} (h : Res P ns) : Shr P ns [] P ns := ⟨h, Int.dvd_refl P, fun _ => Iff.rfl, Nat.le_refl _, by simp⟩
theorem Shr.next {P0 P p : Int} {ns0 ns done : List Int} (h : Shr P0 ns0 done P ns) (k : ¬ (p ∣ P ∧ Closed P ns (P / p))) : Shr P0 ns0 (done ++ [p]) P ns := by
  refine ⟨h.res, h.dvd, h.same, h.len, fun q hq => ?_⟩
  rcases List.mem_append.mp hq with w | w
  · exact h.done q w
  · rw [List.mem_singleton.mp w]; exact k
theorem Shr.cut {P0 P p : Int} {ns0 ns done : List Int} (h : Shr P0 ns0 done P ns) (hp : 2 ≤ p) (hd : p ∣ P) (c : Closed P ns (P / p)) (hq : ∀ q ∈ done, 2 ≤ q) :
    1 ≤ P / p ∧ P / p < P ∧ Shr P0 ns0 done (P / p) (ns.filter fun r => decide (r < P / p)) := by
  have hP := h.res.1
  obtain ⟨k, hk⟩ := id hd
  have e : P / p = k := by rw [hk]; exact Int.mul_ediv_cancel_left k (by omega)
  rw [e] at c ⊢
  have kpos : 0 < k := by
    rcases Int.lt_or_le 0 k with w | w
    · exact w
    · have : p * k ≤ 0 := Int.mul_nonpos_of_nonneg_of_nonpos (by omega) w
      omega
  have k2 : k < P := by
    have := Int.mul_le_mul_of_nonneg_right hp (show 0 ≤ k by omega)
    omega
  have kd : k ∣ P := ⟨p, by rw [hk, Int.mul_comm]⟩
  obtain ⟨r1, r2⟩ := closed_red h.res (by omega) kd c
  refine ⟨by omega, k2, r1, Int.dvd_trans kd h.dvd, fun x => (r2 x).trans (h.same x), Nat.le_trans (List.length_filter_le _ _) h.len, fun q hm hc => h.done q hm ?_⟩
  obtain ⟨⟨j, hj⟩, c2⟩ := hc
  have q2 := hq q hm
  have ej : k / q = j := by rw [hj]; exact Int.mul_ediv_cancel_left j (by omega)
  rw [ej] at c2
  have hPj : P = q * (p * j) := by rw [hk, hj, ← Int.mul_assoc, Int.mul_comm p q, Int.mul_assoc]
  refine ⟨⟨p * j, hPj⟩, ?_⟩
  rw [show P / q = p * j by rw [hPj]; exact Int.mul_ediv_cancel_left _ (by omega)]
  refine (closed_iff h.res).mpr fun x hx => ?_
  have := closed_mul r1 c2 p.toNat ((r2 x).mpr hx)
  rw [Int.toNat_of_nonneg (by omega)] at this
  exact (r2 _).mp this
theorem Shr.mini {P0 P : Int} {ns0 ns ps : List Int} (h : Shr P0 ns0 ps P ns) (hp : PrimesOf P0 ps) : Mini P ns := by
  intro t t1 t2 td c
  obtain ⟨k, hk⟩ := id td
  have hP := h.res.1
  have k2 : 2 ≤ k := by
    rcases (by omega : k ≤ 0 ∨ k = 1 ∨ 2 ≤ k) with w | w | w
    · have : t * k ≤ 0 := Int.mul_nonpos_of_nonneg_of_nonpos (by omega) w
      omega
    · rw [w] at hk; omega
    · exact w
  obtain ⟨q, hq, j, hj⟩ := pr_ex k.toNat k2 (Nat.le_refl _)
  have q2 := hq.1
  have hPj : P = q * (t * j) := by rw [hk, hj, ← Int.mul_assoc, Int.mul_comm t q, Int.mul_assoc]
  have j1 : 0 ≤ j := by
    rcases Int.lt_or_le j 0 with w | w
    · have : q * j ≤ 0 := Int.mul_nonpos_of_nonneg_of_nonpos (by omega) (by omega)
      omega
    · exact w
  refine h.done q ((hp.2 q).mpr ⟨hq, Int.dvd_trans ⟨t * j, hPj⟩ h.dvd⟩) ⟨⟨t * j, hPj⟩, ?_⟩
  rw [show P / q = t * j by rw [hPj]; exact Int.mul_ediv_cancel_left _ (by omega)]
  refine (closed_iff h.res).mpr fun x hx => ?_
  have := closed_mul h.res c j.toNat hx
  rw [Int.toNat_of_nonneg j1, Int.mul_comm] at this
  exact this
/-- a piece of a pattern: its start, its period, its residues -/
abbrev Pc := Int × Int × List Int
def kdD (k : Int × List Int) : D := .tup [.int k.1, .tup (k.2.map D.int)]
def pcD (p : Pc) : D := .tup [.int p.1, .int p.2.1, .tup (p.2.2.map D.int)]
abbrev KdOk (k : Int × List Int) : Prop := Res k.1 k.2 ∧ k.1 < 1000000000 ∧ k.2.length < 4000
def inPc (p : Pc) (d : Int) : Bool := decide (d % p.2.1 ∈ p.2.2)
/-- the days of a row of pieces: what the last piece that has begun tells -/
def patB (ps : List Pc) (d : Int) : Bool := ps.foldl (fun f p => if p.1 ≤ d then inPc p d else f) false
theorem patB_nil {d : Int} : patB [] d = false := rfl
theorem patB_snoc {ps : List Pc} {p : Pc} {d : Int} : patB (ps ++ [p]) d = if p.1 ≤ d then inPc p d else patB ps d := by
  unfold patB
  rw [List.foldl_append]
  rfl
/-- ascending from 0 on -/
structure PatOk (ps : List Pc) : Prop where
  hd : ∃ k r, ps = (0, k) :: r
  asc : ps.Pairwise fun a b => a.1 < b.1
  ok : ∀ p ∈ ps, KdOk p.2
structure Tidy (ps : List Pc) : Prop extends PatOk ps where
  mini : ∀ p ∈ ps, Mini p.2.1 p.2.2
  adj : ∀ (k : Nat) a b, ps[k]? = some a → ps[k + 1]? = some b → a.2 ≠ b.2
/-- each piece begins as one of the others, and is no longer -/
def TdSub (ps fs : List Pc) : Prop := ∀ f ∈ fs, ∃ p ∈ ps, f.1 = p.1 ∧ f.2.1 ≤ p.2.1 ∧ f.2.2.length ≤ p.2.2.length
/-- some of the pieces are tidied -/
structure TdInv (ps fs : List Pc) : Prop where
  ne : ps ≠ [] → fs ≠ []
  hd : ∀ k r, ps = (0, k) :: r → ∃ k' r', fs = (0, k') :: r'
  asc : fs.Pairwise fun a b => a.1 < b.1
  below : TdSub ps fs
  ok : ∀ p ∈ fs, KdOk p.2
  mini : ∀ p ∈ fs, Mini p.2.1 p.2.2
  adj : ∀ (k : Nat) a b, fs[k]? = some a → fs[k + 1]? = some b → a.2 ≠ b.2
  same : ∀ d, patB fs d = patB ps d
  len : fs.length ≤ ps.length
theorem TdInv.start : TdInv [] [] := ⟨fun h => h, fun _ _ h => (by cases h), by simp, by simp [TdSub], by simp, by simp, by simp, fun _ => rfl, Nat.le_refl _⟩
theorem TdInv.add {ps fs : List Pc} {s P P' : Int} {ns ns' : List Int} (h : TdInv ps fs) (hs : ∀ p ∈ ps, p.1 < s) (hk : KdOk (P', ns')) (hm : Mini P' ns') (e : ∀ x, x % P' ∈ ns' ↔ x % P ∈ ns)
    (hl : ∀ gs l, fs = gs ++ [l] → l.2 ≠ (P', ns')) (hle : P' ≤ P) (hll : ns'.length ≤ ns.length) : TdInv (ps ++ [(s, P, ns)]) (fs ++ [(s, P', ns')]) := by
  refine ⟨by simp, fun k r hr => ?_, ?_, fun f hf => ?_, fun p hp => ?_, fun p hp => ?_, fun k a b ha hb => ?_, fun d => ?_, by simp [h.len]⟩
  · cases ps with
    | nil =>
      cases fs with
      | nil =>
        simp only [List.nil_append, List.cons.injEq, Prod.mk.injEq] at hr
        exact ⟨(P', ns'), [], by simp [hr.1.1]⟩
      | cons f fs => exact absurd h.len (by simp)
    | cons p ps =>
      simp only [List.cons_append, List.cons.injEq] at hr
      obtain ⟨k', r', e'⟩ := h.hd k ps (by rw [hr.1])
      exact ⟨k', r' ++ [(s, P', ns')], by rw [e']; rfl⟩
  · refine List.pairwise_append.mpr ⟨h.asc, by simp, fun a ha b hb => ?_⟩
    rw [List.mem_singleton.mp hb]
    obtain ⟨p, hp, e⟩ := h.below a ha
    have := hs p hp
    show a.1 < s
    omega
  · rcases List.mem_append.mp hf with w | w
    · obtain ⟨p, hp, e⟩ := h.below f w
      exact ⟨p, List.mem_append_left _ hp, e⟩
    · rw [List.mem_singleton.mp w]
      exact ⟨(s, P, ns), List.mem_append_right _ (by simp), rfl, hle, hll⟩
  · rcases List.mem_append.mp hp with w | w
    · exact h.ok p w
    · rw [List.mem_singleton.mp w]; exact hk
  · rcases List.mem_append.mp hp with w | w
    · exact h.mini p w
    · rw [List.mem_singleton.mp w]; exact hm
  · by_cases c : k + 1 < fs.length
    · rw [List.getElem?_append_left (by omega)] at ha
      rw [List.getElem?_append_left c] at hb
      exact h.adj k a b ha hb
    · by_cases c2 : k + 1 = fs.length
      · rw [List.getElem?_append_left (by omega)] at ha
        rw [List.getElem?_append_right (by omega), c2, Nat.sub_self] at hb
        cases hb
        have hne : fs ≠ [] := by rintro rfl; simp at c2
        have e1 := List.dropLast_concat_getLast hne
        have e2 : fs.getLast hne = a := by
          rw [List.getLast_eq_getElem hne]
          obtain ⟨q1, q2⟩ := List.getElem?_eq_some_iff.mp ha
          rw [← q2]
          congr 1
          omega
        rw [e2] at e1
        exact hl _ _ e1.symm
      · rw [List.getElem?_append_right (by omega)] at hb
        have : k + 1 - fs.length ≥ 1 := by omega
        rw [List.getElem?_eq_none (by simpa using this)] at hb
        cases hb
  · rw [patB_snoc, patB_snoc, h.same d]
    show (if s ≤ d then decide (d % P' ∈ ns') else _) = if s ≤ d then decide (d % P ∈ ns) else _
    rw [decide_eq_decide.mpr (e d)]
theorem TdInv.skip {ps gs : List Pc} {l : Pc} {s P : Int} {ns : List Int} (h : TdInv ps (gs ++ [l])) (hs : ∀ p ∈ ps, p.1 < s) (e : ∀ x, x % l.2.1 ∈ l.2.2 ↔ x % P ∈ ns) : TdInv (ps ++ [(s, P, ns)]) (gs ++ [l]) := by
  refine ⟨by simp, fun k r hr => ?_, h.asc, fun f hf => ?_, h.ok, h.mini, h.adj, fun d => ?_, by have := h.len; simp at this ⊢; omega⟩
  · cases ps with
    | nil => exact absurd h.len (by simp)
    | cons p ps =>
      simp only [List.cons_append, List.cons.injEq] at hr
      exact h.hd k ps (by rw [hr.1])
  · obtain ⟨p, hp, e⟩ := h.below f hf
    exact ⟨p, List.mem_append_left _ hp, e⟩
  · rw [patB_snoc (ps := ps), ← h.same d, patB_snoc (ps := gs)]
    obtain ⟨p, hp, e2⟩ := h.below l (by simp)
    have := hs p hp
    show _ = if s ≤ d then decide (d % P ∈ ns) else _
    by_cases c : s ≤ d
    · rw [if_pos c, if_pos (by omega)]
      exact decide_eq_decide.mpr (e d)
    · rw [if_neg c]
theorem TdInv.tidy {ps fs : List Pc} (h : TdInv ps fs) (hp : ∃ k r, ps = (0, k) :: r) : Tidy fs :=
  { hd := let ⟨k, r, e⟩ := hp; h.hd k r e, asc := h.asc, ok := h.ok, mini := h.mini, adj := h.adj }
theorem asc_take {ps : List Pc} (h : ps.Pairwise fun a b => a.1 < b.1) {i : Nat} {p : Pc} (e : ps[i]? = some p) : ∀ q ∈ ps.take i, q.1 < p.1 := by
  intro q hq
  obtain ⟨j, hj, rfl⟩ := List.mem_iff_getElem.mp hq
  obtain ⟨hi, rfl⟩ := List.getElem?_eq_some_iff.mp e
  rw [List.getElem_take]
  rw [List.length_take] at hj
  exact List.pairwise_iff_getElem.mp h j i (by omega) hi (by omega)
/-- from a day on, behind the start of the last piece that has begun -/
theorem patB_at : ∀ {ps : List Pc} {k : Nat} {p : Pc} {d : Int}, ps.Pairwise (fun a b => a.1 < b.1) → ps[k]? = some p → p.1 ≤ d → (∀ q, ps[k + 1]? = some q → d < q.1) → patB ps d = inPc p d := by
  intro ps k p d hA hk h1 h2
  have hlt := (List.getElem?_eq_some_iff.mp hk).1
  have e : ps = ps.take (k + 1) ++ ps.drop (k + 1) := (List.take_append_drop _ _).symm
  have hdrop : ∀ q ∈ ps.drop (k + 1), d < q.1 := by
    intro q hq
    obtain ⟨j, hj, rfl⟩ := List.mem_iff_getElem.mp hq
    rw [List.length_drop] at hj
    rw [List.getElem_drop]
    have h3 := h2 ps[k + 1] (List.getElem?_eq_getElem (by omega))
    rcases Nat.eq_zero_or_pos j with z | z
    · subst z; exact h3
    · have := List.pairwise_iff_getElem.mp hA (k + 1) (k + 1 + j) (by omega) (by omega) (by omega)
      omega
  have skip : ∀ (qs : List Pc) (b : Bool), (∀ q ∈ qs, d < q.1) → qs.foldl (fun f p => if p.1 ≤ d then inPc p d else f) b = b := by
    intro qs
    induction qs with
    | nil => intro b _; rfl
    | cons q qs ih =>
      intro b hq
      have := hq q List.mem_cons_self
      rw [List.foldl_cons, if_neg (by omega)]
      exact ih b fun r hr => hq r (List.mem_cons_of_mem _ hr)
  unfold patB
  rw [e, List.foldl_append, skip _ _ hdrop, List.take_add_one, hk, Option.toList_some, List.foldl_append]
  show (if p.1 ≤ d then inPc p d else _) = _
  rw [if_pos h1]
/-- before the first start there is no day -/
theorem patB_neg {ps : List Pc} (h : PatOk ps) {d : Int} (hd : d < 0) : patB ps d = false := by
  have h0 : ∀ p ∈ ps, 0 ≤ p.1 := by
    obtain ⟨k, r, rfl⟩ := h.hd
    intro p hp
    rcases List.mem_cons.mp hp with rfl | w
    · exact Int.le_refl _
    · have : (0 : Int) < p.1 := (List.pairwise_cons.mp h.asc).1 p w
      omega
  have : ∀ (qs : List Pc), (∀ q ∈ qs, 0 ≤ q.1) → qs.foldl (fun f p => if p.1 ≤ d then inPc p d else f) false = false := by
    intro qs
    induction qs with
    | nil => intro _; rfl
    | cons q qs ih =>
      intro hq
      have := hq q List.mem_cons_self
      rw [List.foldl_cons, if_neg (by omega)]
      exact ih fun r hr => hq r (List.mem_cons_of_mem _ hr)
  exact this ps h0
theorem pcD_eq {s P : Int} {ns : List Int} : pcD (s, P, ns) = .tup [.int s, .int P, .tup (ns.map D.int)] := rfl
/-- pieces told one behind the other, the next one from s on -/
def PcInv (ps : List Pc) (s : Int) : Prop := (ps = [] ∧ s = 0) ∨ (PatOk ps ∧ ∀ p ∈ ps, p.1 < s)
theorem PcInv.add {ps : List Pc} {s t u : Int} {k : Int × List Int} (h : PcInv ps s) (hk : KdOk k) (h1 : s ≤ t) (h2 : t < u) (h3 : ps = [] → t = 0) : PatOk (ps ++ [(t, k)]) ∧ PcInv (ps ++ [(t, k)]) u := by
  have a : PatOk (ps ++ [(t, k)]) := by
    rcases h with ⟨rfl, rfl⟩ | ⟨h, hb⟩
    · have := h3 rfl
      subst this
      exact ⟨⟨_, _, rfl⟩, by simp, by simpa using hk⟩
    · refine ⟨?_, List.pairwise_append.mpr ⟨h.asc, by simp, fun a ha b hb2 => ?_⟩, fun p hp => ?_⟩
      · obtain ⟨k', r, rfl⟩ := h.hd
        exact ⟨k', r ++ [(t, k)], rfl⟩
      · rw [List.mem_singleton.mp hb2]
        have := hb a ha
        show a.1 < t
        omega
      · rcases List.mem_append.mp hp with w | w
        · exact h.ok p w
        · rw [List.mem_singleton.mp w]; exact hk
  refine ⟨a, .inr ⟨a, fun p hp => ?_⟩⟩
  rcases List.mem_append.mp hp with w | w
  · rcases h with ⟨rfl, rfl⟩ | ⟨h, hb⟩
    · cases w
    · have := hb p w
      omega
  · rw [List.mem_singleton.mp w]; exact h2
/-- what the law draws: short periods, perhaps a great one -/
def PiecesOf (ps : List Pc) : Prop := PatOk ps ∧ ps.length ≤ 4 ∧ ∃ qs ls, ps = qs ++ ls ∧ PatOk qs ∧ (∀ q ∈ qs, q.2.1 ≤ 12 ∧ q.1 ≤ 93) ∧ (∀ l ∈ ls, 12 < l.2.1 ∧ l.1 ≤ 1000100) ∧ ls.length ≤ 1
theorem PatOk.pos {ps : List Pc} (h : PatOk ps) : ∀ p ∈ ps, 0 < p.2.1 ∧ p.2.1 < 1000000000 := fun p hp => ⟨(h.ok p hp).1.1, (h.ok p hp).2.1⟩
def mapB (f : Int → Bool) : D → Option D
  | .int n => some (.bl (f n))
  | _ => none
theorem mapB_map (f : Int → Bool) : ∀ ns : List Int, (ns.map D.int).filterMap (mapB f) = (ns.map f).map D.bl
  | [] => rfl
  | n :: ns => by
    rw [List.map_cons, List.filterMap_cons, List.map_cons, mapB_map f ns]
    rfl
/-- what a comprehension over rows of data makes -/
def mapD (f : D → D) : D → Option D := fun d => some (f d)
theorem mapD_map {α : Type} {g : α → D} {f : D → D} : ∀ xs : List α, (xs.map g).filterMap (mapD f) = xs.map fun x => f (g x)
  | [] => rfl
  | x :: xs => by
    rw [List.map_cons, List.filterMap_cons, List.map_cons, mapD_map xs]
    rfl
theorem plAnyBl {a : Bool} : ∀ bs : List Bool, ((bs.map D.bl).any fun x => deq x (.bl a)) = decide (a ∈ bs)
  | [] => by simp
  | b :: bs => by
    rw [List.map_cons, List.any_cons, plAnyBl bs, deq_bl, Bool.eq_iff_iff]
    simp only [Bool.or_eq_true, decide_eq_true_eq, List.mem_cons]
    rw [show (b = a) = (a = b) from propext ⟨Eq.symm, Eq.symm⟩]
theorem ckAl_bls {n : Nat} {bs : List Bool} : CkAl n (bs.map D.bl) := fun d h => by
  obtain ⟨b, _, rfl⟩ := List.mem_map.mp h
  exact ck_bl
theorem cmpOk_bls {bs : List Bool} : cmpOk (.lst (bs.map D.bl)) = true := cmpOk_lstA.mpr ckAl_bls
theorem cutL1 {d : D} {ds : List D} : cutL (d :: ds) (some 1) none = ds := by
  have e1 : HT.sIx (d :: ds).length 0 (some 1) = 1 := by
    unfold HT.sIx
    simp
  have e2 : HT.sIx (d :: ds).length (d :: ds).length none = (d :: ds).length := rfl
  unfold cutL
  rw [e1, e2]
  simp
theorem atI_snoc {ds : List D} {d : D} : atI (ds ++ [d]) (-1) = some d := by
  unfold atI ixN
  rw [List.length_append, List.length_singleton]
  simp only [show ¬ (0 : Int) ≤ -1 by omega, if_false]
  rw [if_pos (by omega), show (-1 + ((ds.length + 1 : Nat) : Int)).toNat = ds.length by omega]
  simp
/-- an item of a row -/
theorem at_map {α : Type} {g : α → D} {xs : List α} {i : Int} {x : α} (h0 : 0 ≤ i) (h : xs[i.toNat]? = some x) : atI (xs.map g) i = some (g x) := atI_nn h0 (by rw [List.getElem?_map, h]; rfl)
theorem map_get {α : Type} {g : α → D} {xs : List α} {i : Nat} {d : D} (h : (xs.map g)[i]? = some d) : ∃ x, xs[i]? = some x ∧ d = g x := by
  rw [List.getElem?_map] at h
  cases e : xs[i]? with
  | none => rw [e] at h; cases h
  | some x => rw [e] at h; exact ⟨x, rfl, (Option.some.inj h).symm⟩
/-- a comprehension of unknown whole numbers -/
theorem eLc_any (P : Int → Prop) {qi : QA} {g : QG} {qe : QE} {vs : List Nat} {ρ0 : Ev} {M0 : Mu} {Q : Sl → Ev → Mu → Prop} (ds : List D) (ρ : Ev) (M : Mu)
    (hq : ∀ Q : List D → Ev → Mu → Prop, Q ds ρ M → qi ρ0 M0 Q) (hv : notOw ρ vs = true) (hl : ds.length < 16777216)
    (hs : ∀ (i : Nat) (d : D) (acc : List D) (J : List D → Mu → Prop), ds[i]? = some d → acc.length < 16777216 → (∀ v, P v → J (acc ++ [.int v]) M) → g d (wipeE ρ vs) fun ρ2 => wipeE ρ2 vs = wipeE ρ vs ∧ tYes' ρ2 M fun b ρ3 M3 => ρ3 = ρ2 ∧
      (if b = true then qe ρ3 M3 fun r ρ4 M4 => ρ4 = ρ3 ∧ acc.length < 16777216 ∧ J (acc ++ [r.val]) M4 else J acc M3))
    (hk : ∀ ns : List Int, ns.length = ds.length → (∀ n ∈ ns, P n) → Q (.ow (.lst (ns.map D.int))) ρ M) : eLc qi g tYes' qe vs ρ0 M0 Q := by
  refine hq _ ⟨hv, fun i acc M' => M' = M ∧ i ≤ ds.length ∧ ∃ ns : List Int, acc = ns.map D.int ∧ ns.length = i ∧ ∀ n ∈ ns, P n, ⟨rfl, Nat.zero_le _, [], rfl, rfl, by simp⟩, ?_, ?_⟩
  · rintro i d acc M' hd ⟨rfl, hi, ns, rfl, hn, hP⟩
    have hlt : i < ds.length := (List.getElem?_eq_some_iff.mp hd).1
    refine hs i d _ (fun acc M2 => M2 = M' ∧ i + 1 ≤ ds.length ∧ ∃ ns : List Int, acc = ns.map D.int ∧ ns.length = i + 1 ∧ ∀ n ∈ ns, P n) hd (by rw [List.length_map]; omega) fun v hv => ⟨rfl, hlt, ns ++ [v], by simp, by simp [hn], fun n hm => ?_⟩
    rcases List.mem_append.mp hm with w | w
    · exact hP n w
    · rw [List.mem_singleton.mp w]; exact hv
  · rintro acc M' ⟨rfl, _, ns, rfl, hn, hP⟩
    exact hk ns hn hP
/-- what a comprehension over range(n) makes -/
def rngF (f : Nat → D) : D → Option D
  | .int k => some (f k.toNat)
  | _ => none
theorem rngF_map {f : Nat → D} {n : Int} : (rangeL 0 n).filterMap (rngF f) = (List.range n.toNat).map f := by
  unfold rangeL
  rw [List.filterMap_map, Int.sub_zero]
  rw [← List.filterMap_eq_map]
  congr 1
  funext k
  simp [rngF]
/-- the rows that a comprehension goes through, apart -/
theorem eLc_k {qi : QA} {g : QG} {qt : QT} {qe : QE} {vs : List Nat} {ρ : Ev} {M : Mu} {Q : Sl → Ev → Mu → Prop}
    (h : ∀ N : List D → Ev → Mu → Prop, (∀ ds ρ1 M1, eLc (fun ρ M Q => Q ds ρ M) g qt qe vs ρ1 M1 Q → N ds ρ1 M1) → qi ρ M N) : eLc qi g qt qe vs ρ M Q :=
  h _ fun _ _ _ w => w
/-- a test's answer, apart -/
theorem sIf_k {c : QT} {t u : QS} {D' : QK} {ρ : Ev} {M : Mu} (h : ∀ N : Bool → Ev → Mu → Prop, (∀ b ρ M, (if b = true then t D' ρ M else u D' ρ M) → N b ρ M) → c ρ M N) : sIf c t u D' ρ M := h _ fun _ _ _ w => w
theorem pickI_J2 {P R : Int → Prop} [DecidablePred P] [DecidablePred R] {n : Int} {acc : List D} {J : List D → Mu → Prop} {M : Mu} (hl : acc.length < 16777216) (h : J (acc ++ (pickI (fun x => P x ∧ R x) (.int n)).toList) M) :
    if P n then if R n then acc.length < 16777216 ∧ J (acc ++ [D.int n]) M else J acc M else J acc M := by
  have h := pickI_J hl h
  by_cases c : P n
  · rw [if_pos c]
    by_cases c2 : R n
    · rw [if_pos c2]; rw [if_pos ⟨c, c2⟩] at h; exact h
    · rw [if_neg c2]; rw [if_neg fun w => c2 w.2] at h; exact h
  · rw [if_neg c]; rw [if_neg fun w => c w.1] at h; exact h
theorem at_snocG {α : Type} {g : α → D} {qs : List α} {p : α} : atI ((qs ++ [p]).map g) (((qs ++ [p]).length : Int) - 1) = some (g p) := by
  refine at_map (by rw [List.length_append, List.length_singleton]; omega) ?_
  rw [List.length_append, List.length_singleton, show (((qs.length + 1 : Nat) : Int) - 1).toNat = qs.length by omega]
  simp
theorem snoc_of {α : Type} {xs : List α} (h : 0 < xs.length) : ∃ ys y, xs = ys ++ [y] := by
  rcases List.eq_nil_or_concat xs with rfl | ⟨ys, y, e⟩
  · simp at h
  · exact ⟨ys, y, by rw [e, List.concat_eq_append]⟩
/-- a chain's answer is kept -/
theorem J_chain {p q : Prop} [Decidable p] [Decidable q] {acc : List D} {J : List D → Mu → Prop} {M : Mu} (hl : acc.length < 16777216) (h : J (acc ++ [.bl (decide (p ∧ q))]) M) :
    if p then acc.length < 16777216 ∧ J (acc ++ [.bl (decide q)]) M else acc.length < 16777216 ∧ J (acc ++ [.bl false]) M := by
  by_cases c : p
  · rw [if_pos c]
    rw [decide_eq_decide.mpr (show (p ∧ q) ↔ q from ⟨fun w => w.2, fun w => ⟨c, w⟩⟩)] at h
    exact ⟨hl, h⟩
  · rw [if_neg c]
    rw [decide_eq_false fun w => c w.1] at h
    exact ⟨hl, h⟩
/-- a loop's turn, its test apart -/
theorem sWhile_k {c : QT} {tb : QS} {D' : QK} {ρ : Ev} {M : Mu} (I : Nat → Ev → Mu → Prop) (m0 : Nat) (h0 : I m0 ρ M)
    (hs : ∀ (m : Nat) (J : Ev → Mu → Prop), (∀ m' ρ M, m' < m → I m' ρ M → J ρ M) → ∀ ρ M, I m ρ M → ∀ N : Bool → Ev → Mu → Prop, (∀ b ρ1 M1, (if b = true then tb { nx := J, ct := J, bk := D'.nx, rt := D'.rt } ρ1 M1 else D'.nx ρ1 M1) → N b ρ1 M1) → c ρ M N) : sWhile c tb D' ρ M :=
  sWhile_i I m0 h0 fun m J hJ ρ M hI => hs m J hJ ρ M hI _ fun _ _ _ w => w
theorem dec_t {p : Prop} [Decidable p] {b : Bool} (h : p ↔ b = true) : decide p = b := by
  cases b with
  | true => exact decide_eq_true (h.mpr rfl)
  | false => exact decide_eq_false fun w => by cases h.mp w
theorem dec_f {p : Prop} [Decidable p] [Decidable ¬ p] {b : Bool} (h : p ↔ b = true) : decide (¬ p) = !b := by
  cases b with
  | true => exact decide_eq_false fun w => w (h.mpr rfl)
  | false => exact decide_eq_true fun w => by cases h.mp w
/-- a comprehension whose items are told by a property, place by place -/
theorem eLc_rel {β : Type} (g' : β → D) (P : Nat → β → Prop) {qi : QA} {g : QG} {qe : QE} {vs : List Nat} {ρ0 : Ev} {M0 : Mu} {Q : Sl → Ev → Mu → Prop} (ds : List D) (ρ : Ev) (M : Mu)
    (hq : ∀ Q : List D → Ev → Mu → Prop, Q ds ρ M → qi ρ0 M0 Q) (hv : notOw ρ vs = true) (hl : ds.length < 16777216)
    (hs : ∀ (i : Nat) (d : D) (acc : List D) (J : List D → Mu → Prop), ds[i]? = some d → acc.length < 16777216 → (∀ b, P i b → J (acc ++ [g' b]) M) → g d (wipeE ρ vs) fun ρ2 => wipeE ρ2 vs = wipeE ρ vs ∧ tYes' ρ2 M fun b ρ3 M3 => ρ3 = ρ2 ∧
      (if b = true then qe ρ3 M3 fun r ρ4 M4 => ρ4 = ρ3 ∧ acc.length < 16777216 ∧ J (acc ++ [r.val]) M4 else J acc M3))
    (hk : ∀ bs : List β, bs.length = ds.length → (∀ i b, bs[i]? = some b → P i b) → Q (.ow (.lst (bs.map g'))) ρ M) : eLc qi g tYes' qe vs ρ0 M0 Q := by
  refine hq _ ⟨hv, fun i acc M' => M' = M ∧ i ≤ ds.length ∧ ∃ bs : List β, acc = bs.map g' ∧ bs.length = i ∧ ∀ i b, bs[i]? = some b → P i b, ⟨rfl, Nat.zero_le _, [], rfl, rfl, by simp⟩, ?_, ?_⟩
  · rintro i d acc M' hd ⟨rfl, hi, bs, rfl, hn, hP⟩
    have hlt : i < ds.length := (List.getElem?_eq_some_iff.mp hd).1
    refine hs i d _ (fun acc M2 => M2 = M' ∧ i + 1 ≤ ds.length ∧ ∃ bs : List β, acc = bs.map g' ∧ bs.length = i + 1 ∧ ∀ i b, bs[i]? = some b → P i b) hd (by rw [List.length_map]; omega) fun b hb => ⟨rfl, hlt, bs ++ [b], by simp, by simp [hn], fun j c hj => ?_⟩
    rcases Nat.lt_or_ge j bs.length with w | w
    · rw [List.getElem?_append_left w] at hj
      exact hP j c hj
    · rw [List.getElem?_append_right w] at hj
      have : j - bs.length = 0 := by
        have := (List.getElem?_eq_some_iff.mp hj).1
        simp at this
        omega
      rw [this] at hj
      obtain rfl : j = i := by omega
      cases hj
      exact hb
  · rintro acc M' ⟨rfl, _, bs, rfl, hn, hP⟩
    exact hk bs hn hP
/-- a comprehension told by a property of what is gathered -/
theorem eLc_inv {β : Type} (g' : β → D) (I : Nat → List β → Prop) {qi : QA} {g : QG} {qt : QT} {qe : QE} {vs : List Nat} {ρ0 : Ev} {M0 : Mu} {Q : Sl → Ev → Mu → Prop} (ds : List D) (ρ : Ev) (M : Mu)
    (hq : ∀ Q : List D → Ev → Mu → Prop, Q ds ρ M → qi ρ0 M0 Q) (hv : notOw ρ vs = true) (h0 : I 0 [])
    (hs : ∀ (i : Nat) (d : D) (bs : List β) (J : List D → Mu → Prop), ds[i]? = some d → I i bs → (∀ cs, I (i + 1) cs → J (cs.map g') M) → g d (wipeE ρ vs) fun ρ2 => wipeE ρ2 vs = wipeE ρ vs ∧ qt ρ2 M fun b ρ3 M3 => ρ3 = ρ2 ∧
      (if b = true then qe ρ3 M3 fun r ρ4 M4 => ρ4 = ρ3 ∧ (bs.map g').length < 16777216 ∧ J (bs.map g' ++ [r.val]) M4 else J (bs.map g') M3))
    (hk : ∀ bs : List β, I ds.length bs → Q (.ow (.lst (bs.map g'))) ρ M) : eLc qi g qt qe vs ρ0 M0 Q := by
  refine hq _ ⟨hv, fun i acc M' => M' = M ∧ ∃ bs : List β, acc = bs.map g' ∧ I i bs, ⟨rfl, [], rfl, h0⟩, ?_, ?_⟩
  · rintro i d acc M' hd ⟨rfl, bs, rfl, hI⟩
    exact hs i d bs (fun acc M2 => M2 = M' ∧ ∃ bs : List β, acc = bs.map g' ∧ I (i + 1) bs) hd hI fun cs hc => ⟨rfl, cs, rfl, hc⟩
  · rintro acc M' ⟨rfl, bs, rfl, hI⟩
    exact hk bs hI
theorem len_of_sub {α : Type} [DecidableEq α] : ∀ {as bs : List α}, as.Nodup → (∀ x ∈ as, x ∈ bs) → as.length ≤ bs.length
  | [], _, _, _ => Nat.zero_le _
  | a :: as, bs, h, hs => by
    obtain ⟨h1, h2⟩ := List.nodup_cons.mp h
    have ha := hs a List.mem_cons_self
    have := len_of_sub (as := as) (bs := bs.erase a) h2 fun x hx => (List.mem_erase_of_ne (fun e => h1 (by rw [← e]; exact hx))).mpr (hs x (List.mem_cons_of_mem _ hx))
    rw [List.length_erase_of_mem ha] at this
    have := List.length_pos_of_mem ha
    rw [List.length_cons]
    omega
theorem rgI_split {a b c : Int} (h1 : a ≤ b) (h2 : b ≤ c) : rgI a c = rgI a b ++ rgI b c := by
  refine asc_ext asc_rgI ?_ fun k => ?_
  · refine List.pairwise_append.mpr ⟨asc_rgI, asc_rgI, fun x hx y hy => ?_⟩
    have := rgI_mem.mp hx
    have := rgI_mem.mp hy
    omega
  · rw [List.mem_append, rgI_mem, rgI_mem, rgI_mem]
    omega
/-- how many numbers from a on, below b -/
def cntF (f : Int → Bool) (a b : Int) : Int := (((rgI a b).filter f).length : Nat)
theorem cntF_nil {f : Int → Bool} {a b : Int} (h : b ≤ a) : cntF f a b = 0 := by unfold cntF; rw [rgI_nil h]; rfl
theorem cntF_split {f : Int → Bool} {a b c : Int} (h1 : a ≤ b) (h2 : b ≤ c) : cntF f a c = cntF f a b + cntF f b c := by
  unfold cntF
  rw [rgI_split h1 h2, List.filter_append, List.length_append]
  omega
theorem cntF_congr {f g : Int → Bool} {a b : Int} (h : ∀ x, a ≤ x → x < b → f x = g x) : cntF f a b = cntF g a b := by
  unfold cntF
  rw [List.filter_congr fun x hx => h x (rgI_mem.mp hx).1 (rgI_mem.mp hx).2]
theorem cntF_nn {f : Int → Bool} {a b : Int} : 0 ≤ cntF f a b := Int.natCast_nonneg _
theorem cntF_one {f : Int → Bool} {a : Int} : cntF f a (a + 1) = if f a = true then 1 else 0 := by
  unfold cntF
  rw [rgI_cons (by omega), rgI_nil (by omega), List.filter_cons]
  split <;> simp
theorem cntF_step {f : Int → Bool} {a b : Int} (h : a ≤ b) : cntF f a (b + 1) = cntF f a b + if f b = true then 1 else 0 := by
  rw [cntF_split h (by omega : b ≤ b + 1), cntF_one]
theorem cntF_zero {f : Int → Bool} {a b : Int} (h : ∀ x, a ≤ x → x < b → f x = false) : cntF f a b = 0 := by
  unfold cntF
  rw [List.filter_eq_nil_iff.mpr fun x hx => by rw [h x (rgI_mem.mp hx).1 (rgI_mem.mp hx).2]; simp]
  rfl
theorem cntF_le {f : Int → Bool} {a b c : Int} (h : b ≤ c) : cntF f a b ≤ cntF f a c := by
  by_cases c1 : a ≤ b
  · rw [cntF_split c1 h]
    have := cntF_nn (f := f) (a := b) (b := c)
    omega
  · rw [cntF_nil (by omega)]
    exact cntF_nn
/-- a day counts -/
theorem cntF_lt {f : Int → Bool} {a b d : Int} (h0 : a ≤ d) (h : f d = true) (h1 : d < b) : cntF f a d + 1 ≤ cntF f a b := by
  have := cntF_le (f := f) (a := a) (show d + 1 ≤ b by omega)
  rw [cntF_step h0, if_pos h] at this
  exact this
theorem cntF_inj {f : Int → Bool} {a d e : Int} (h0 : a ≤ d) (h1 : a ≤ e) (hd : f d = true) (he : f e = true) (h : cntF f a d = cntF f a e) : d = e := by
  rcases Int.lt_trichotomy d e with c | c | c
  · have := cntF_lt h0 hd c; omega
  · exact c
  · have := cntF_lt h1 he c; omega
/-- what many_below tells -/
def mbL (P : Int) (ns : List Int) (d : Int) : Int := d / P * ns.length + cntL ns (d % P)
abbrev inP (P : Int) (ns : List Int) : Int → Bool := fun x => decide (x % P ∈ ns)
theorem cntL_step {ns : List Int} (h : Asc ns) {r : Int} : cntL ns (r + 1) = cntL ns r + if r ∈ ns then 1 else 0 := by
  unfold cntL
  induction ns with
  | nil => simp
  | cons n ns ih =>
    have h1 := (List.pairwise_cons.mp h).1
    have ih := ih (List.pairwise_cons.mp h).2
    rw [List.filter_cons, List.filter_cons]
    by_cases c1 : n < r
    · rw [if_pos (by simpa using (show n < r + 1 by omega)), if_pos (by simpa using c1), List.length_cons, List.length_cons]
      have e : (r ∈ n :: ns) ↔ r ∈ ns := by simp; omega
      simp only [e]
      omega
    · by_cases c2 : n = r
      · subst c2
        rw [if_pos (by simp; omega), if_neg (by simp), if_pos List.mem_cons_self, List.length_cons]
        have hn : n ∉ ns := fun w => by have := h1 n w; omega
        rw [if_neg hn] at ih
        omega
      · rw [if_neg (by simpa using (show r + 1 ≤ n by omega)), if_neg (by simpa using c1)]
        have e : (r ∈ n :: ns) ↔ r ∈ ns := by simp; omega
        simp only [e]
        exact ih
theorem cntL_zero {ns : List Int} {r : Int} (h : ∀ n ∈ ns, r ≤ n) : cntL ns r = 0 := by
  unfold cntL
  rw [List.filter_eq_nil_iff.mpr fun n hn => by have := h n hn; simp; omega]
  rfl
theorem cntL_all {ns : List Int} {r : Int} (h : ∀ n ∈ ns, n < r) : cntL ns r = ns.length := by
  unfold cntL
  rw [List.filter_eq_self.mpr fun n hn => by simpa using h n hn]
theorem mbL_step {P : Int} {ns : List Int} (h : Res P ns) {d : Int} : mbL P ns (d + 1) = mbL P ns d + if d % P ∈ ns then 1 else 0 := by
  have hP := h.1
  have e0 := Int.emod_nonneg d (show P ≠ 0 by omega)
  have e1 := Int.emod_lt_of_pos d hP
  have ed := Int.mul_ediv_add_emod d P
  unfold mbL
  by_cases c : d % P + 1 < P
  · have h1 : (d + 1) % P = d % P + 1 := by
      have : (d + 1) = (d % P + 1) + P * (d / P) := by omega
      rw [this, Int.add_mul_emod_self_left, Int.emod_eq_of_lt (by omega) c]
    have h2 : (d + 1) / P = d / P := by
      have : (d + 1) = (d % P + 1) + P * (d / P) := by omega
      rw [this, Int.add_mul_ediv_left _ _ (by omega), Int.ediv_eq_zero_of_lt (by omega) c, Int.zero_add]
    rw [h1, h2, cntL_step h.2.1]
    omega
  · have h1 : (d + 1) % P = 0 := by
      have : (d + 1) = 0 + P * (d / P + 1) := by rw [Int.mul_add]; omega
      rw [this, Int.add_mul_emod_self_left]; rfl
    have h2 : (d + 1) / P = d / P + 1 := by
      have : (d + 1) = 0 + P * (d / P + 1) := by rw [Int.mul_add]; omega
      rw [this, Int.add_mul_ediv_left _ _ (by omega), Int.zero_ediv, Int.zero_add]
    have h3 : cntL ns (d % P + 1) = ns.length := cntL_all fun n hn => by have := h.2.2 n hn; omega
    rw [cntL_step h.2.1] at h3
    rw [h1, h2, cntL_zero fun n hn => (h.2.2 n hn).1, Int.add_mul]
    omega
theorem mbL_cnt {P : Int} {ns : List Int} (h : Res P ns) {a : Int} : ∀ {b : Int}, a ≤ b → mbL P ns b - mbL P ns a = cntF (inP P ns) a b := by
  intro b hb
  obtain ⟨k, rfl⟩ : ∃ k : Nat, b = a + k := ⟨(b - a).toNat, by omega⟩
  clear hb
  induction k with
  | zero => rw [cntF_nil (by omega)]; simp
  | succ k ih =>
    rw [show a + ((k + 1 : Nat) : Int) = a + k + 1 by omega, cntF_step (by omega), mbL_step h]
    have : (inP P ns (a + k) = true) ↔ (a + k) % P ∈ ns := by simp
    simp only [this]
    omega
/-- the residue at a place -/
theorem nth_res {P : Int} {ns : List Int} (h : Res P ns) (hl : 0 < ns.length) (k : Int) : ∃ r, ns[(k % ns.length).toNat]? = some r ∧ (k / ns.length * P + r) % P ∈ ns ∧ mbL P ns (k / ns.length * P + r) = k := by
  have hP := h.1
  have e0 := Int.emod_nonneg k (show (ns.length : Int) ≠ 0 by omega)
  have e1 := Int.emod_lt_of_pos k (show (0 : Int) < ns.length by omega)
  have ed := Int.mul_ediv_add_emod k ns.length
  have hi : (k % ns.length).toNat < ns.length := by omega
  refine ⟨ns[(k % ns.length).toNat], List.getElem?_eq_getElem hi, ?_⟩
  have hm := List.getElem_mem hi
  generalize hr : ns[(k % ns.length).toNat] = r at *
  have hr2 := h.2.2 r hm
  have h1 : (k / ns.length * P + r) % P = r := by rw [Int.add_comm, Int.add_mul_emod_self_right, Int.emod_eq_of_lt hr2.1 hr2.2]
  have h2 : (k / ns.length * P + r) / P = k / ns.length := by rw [Int.add_comm, Int.add_mul_ediv_right _ _ (by omega), Int.ediv_eq_zero_of_lt hr2.1 hr2.2]; omega
  rw [h1]
  refine ⟨hm, ?_⟩
  unfold mbL
  rw [h1, h2]
  have h3 : cntL ns r = ((k % ns.length).toNat : Int) := cntL_at h.2.1 (by omega) (fun i v hi2 hv => Asc.get h.2.1 hi2 hv (by rw [← hr]; exact List.getElem?_eq_getElem hi)) (fun i v hi2 hv => by
    rcases Nat.eq_or_lt_of_le hi2 with e | e
    · subst e
      rw [List.getElem?_eq_getElem hi, hr] at hv
      cases hv
      exact Int.le_refl _
    · have := Asc.get h.2.1 e (show ns[(k % ns.length).toNat]? = some r by rw [← hr]; exact List.getElem?_eq_getElem hi) hv
      omega)
  rw [h3]
  rw [Int.mul_comm] at ed
  omega
/-- the first one from a day on -/
def IsNext (f : Int → Bool) (day : Int) (r : Option Int) : Prop := match r with
  | some d => day ≤ d ∧ f d = true ∧ ∀ x, day ≤ x → x < d → f x = false
  | none => ∀ x, day ≤ x → f x = false
/-- the last one before a day -/
def IsPrev (f : Int → Bool) (day : Int) (r : Option Int) : Prop := match r with
  | some d => d < day ∧ f d = true ∧ ∀ x, d < x → x < day → f x = false
  | none => ∀ x, x < day → f x = false
/-- the one with so many before -/
def IsNth (f : Int → Bool) (k : Int) (r : Option Int) : Prop := match r with
  | some d => 0 ≤ d ∧ f d = true ∧ cntF f 0 d = k
  | none => ∀ d, cntF f 0 d ≤ k
def optD : Option Int → D
  | some d => .int d
  | none => .non
theorem IsNext.uniq {f : Int → Bool} {day : Int} : ∀ {r r' : Option Int}, IsNext f day r → IsNext f day r' → r = r'
  | none, none, _, _ => rfl
  | some d, none, h, k => by have := k d h.1; rw [h.2.1] at this; cases this
  | none, some d, h, k => by have := h d k.1; rw [k.2.1] at this; cases this
  | some d, some e, h, k => by
    rcases Int.lt_trichotomy d e with c | c | c
    · have := k.2.2 d h.1 c; rw [h.2.1] at this; cases this
    · rw [c]
    · have := h.2.2 e k.1 c; rw [k.2.1] at this; cases this
theorem IsPrev.uniq {f : Int → Bool} {day : Int} : ∀ {r r' : Option Int}, IsPrev f day r → IsPrev f day r' → r = r'
  | none, none, _, _ => rfl
  | some d, none, h, k => by have := k d h.1; rw [h.2.1] at this; cases this
  | none, some d, h, k => by have := h d k.1; rw [k.2.1] at this; cases this
  | some d, some e, h, k => by
    rcases Int.lt_trichotomy d e with c | c | c
    · have := h.2.2 e c k.1; rw [k.2.1] at this; cases this
    · rw [c]
    · have := k.2.2 d c h.1; rw [h.2.1] at this; cases this
theorem IsNth.uniq {f : Int → Bool} {k : Int} : ∀ {r r' : Option Int}, IsNth f k r → IsNth f k r' → r = r'
  | none, none, _, _ => rfl
  | some d, none, h, k => by have := k (d + 1); rw [cntF_step h.1, if_pos h.2.1, h.2.2] at this; omega
  | none, some d, h, k => by have := h (d + 1); rw [cntF_step k.1, if_pos k.2.1, k.2.2] at this; omega
  | some d, some e, h, k => by rw [cntF_inj h.1 k.1 h.2.1 k.2.1 (h.2.2.trans k.2.2.symm)]
/-! a pattern's windows -/
theorem PatOk.nn {ps : List Pc} (h : PatOk ps) : ∀ p ∈ ps, 0 ≤ p.1 := by
  obtain ⟨k, r, rfl⟩ := h.hd
  intro p hp
  rcases List.mem_cons.mp hp with rfl | w
  · exact Int.le_refl _
  · have : (0 : Int) < p.1 := (List.pairwise_cons.mp h.asc).1 p w
    omega
theorem PatOk.next {ps : List Pc} (h : PatOk ps) {i : Nat} {p q : Pc} (hp : ps[i]? = some p) (hq : ps[i + 1]? = some q) : p.1 < q.1 := by
  obtain ⟨h1, rfl⟩ := List.getElem?_eq_some_iff.mp hp
  obtain ⟨h2, rfl⟩ := List.getElem?_eq_some_iff.mp hq
  exact List.pairwise_iff_getElem.mp h.asc i (i + 1) h1 h2 (by omega)
theorem PatOk.win {ps : List Pc} (h : PatOk ps) {i : Nat} {s P : Int} {ns : List Int} (hp : ps[i]? = some (s, P, ns)) {d : Int} (h1 : s ≤ d) (h2 : ∀ q, ps[i + 1]? = some q → d < q.1) : patB ps d = inP P ns d := patB_at h.asc hp h1 h2
theorem PatOk.pos0 {ps : List Pc} (h : PatOk ps) : 0 < ps.length := by obtain ⟨k, r, rfl⟩ := h.hd; simp
/-- where the i-th piece begins, at most day -/
def stD (ps : List Pc) (i : Nat) (day : Int) : Int := match ps[i]? with
  | some p => min p.1 day
  | none => day
theorem win_cnt {f : Int → Bool} {P : Int} {ns : List Int} {s u : Int} (h : Res P ns) (hs : s ≤ u) (hw : ∀ x, s ≤ x → x < u → f x = inP P ns x) :
    (u / P * ns.length + cntL ns (u % P)) - (s / P * ns.length + cntL ns (s % P)) = cntF f s u := by
  rw [cntF_congr hw]
  exact mbL_cnt h hs
theorem filt_ext {f : Int → Bool} {a b c : Int} (h : ∀ x, a ≤ x → f x = true → (x < b ↔ x < c)) : (rgI a b).filter f = (rgI a c).filter f := by
  refine asc_ext (asc_rgI.filter _) (asc_rgI.filter _) fun k => ?_
  rw [List.mem_filter, List.mem_filter, rgI_mem, rgI_mem]
  constructor
  · exact fun w => ⟨⟨w.1.1, (h k w.1.1 w.2).mp w.1.2⟩, w.2⟩
  · exact fun w => ⟨⟨w.1.1, (h k w.1.1 w.2).mpr w.1.2⟩, w.2⟩
theorem filt_snoc {f : Int → Bool} {a b : Int} (h : a ≤ b) (hf : f b = true) : (rgI a b).filter f ++ [b] = (rgI a (b + 1)).filter f := by
  rw [rgI_split h (by omega : b ≤ b + 1), List.filter_append, rgI_cons (by omega : b < b + 1), rgI_nil (by omega : b + 1 ≤ b + 1), List.filter_cons, if_pos hf]
  rfl
theorem filt_len {f : Int → Bool} {a b : Int} : ((((rgI a b).filter f).length : Nat) : Int) = cntF f a b := rfl
/-- cut at a day -/
theorem filt_lt {f : Int → Bool} {a b c : Int} (h : c ≤ b) : ((rgI a b).filter f).filter (fun n => decide (n < c)) = (rgI a c).filter f := by
  refine asc_ext ((asc_rgI.filter _).filter _) (asc_rgI.filter _) fun k => ?_
  simp only [List.mem_filter, rgI_mem, decide_eq_true_iff]
  constructor
  · exact fun w => ⟨⟨w.1.1.1, w.2⟩, w.1.2⟩
  · exact fun w => ⟨⟨⟨w.1.1, by omega⟩, w.2⟩, w.1.2⟩
theorem filt_ge {f : Int → Bool} {a b c : Int} (h : ∀ x, x < a → f x = false) : ((rgI a b).filter f).filter (fun n => decide (c ≤ n)) = (rgI c b).filter f := by
  refine asc_ext ((asc_rgI.filter _).filter _) (asc_rgI.filter _) fun k => ?_
  simp only [List.mem_filter, rgI_mem, decide_eq_true_iff]
  constructor
  · exact fun w => ⟨⟨w.2, w.1.1.2⟩, w.1.2⟩
  · intro w
    have : a ≤ k := by
      by_cases c1 : a ≤ k
      · exact c1
      · have := h k (by omega)
        rw [this] at w
        cases w.2
    exact ⟨⟨⟨this, w.1.2⟩, w.2⟩, w.1.1⟩
/-- the last of the days before -/
theorem prev_of_list {f : Int → Bool} {c : Int} (hn : ∀ x, x < 0 → f x = false) : IsPrev f c ((rgI 0 c).filter f).getLast? := by
  cases hL : ((rgI 0 c).filter f).getLast? with
  | none =>
    intro x hx
    have e := List.getLast?_eq_none_iff.mp hL
    by_cases c1 : 0 ≤ x
    · cases hf : f x with
      | false => rfl
      | true =>
        have : x ∈ (rgI 0 c).filter f := List.mem_filter.mpr ⟨rgI_mem.mpr ⟨c1, hx⟩, hf⟩
        rw [e] at this
        cases this
    · exact hn x (by omega)
  | some d =>
    have hm := List.mem_of_getLast? hL
    obtain ⟨h1, h2⟩ := List.mem_filter.mp hm
    obtain ⟨h3, h4⟩ := rgI_mem.mp h1
    refine ⟨h4, h2, fun x h5 h6 => ?_⟩
    cases hf : f x with
    | false => rfl
    | true =>
      exfalso
      have hx : x ∈ (rgI 0 c).filter f := List.mem_filter.mpr ⟨rgI_mem.mpr ⟨by omega, h6⟩, hf⟩
      obtain ⟨i, hi, e⟩ := List.mem_iff_getElem.mp hx
      have hA : Asc ((rgI 0 c).filter f) := asc_rgI.filter _
      rw [List.getLast?_eq_getElem?] at hL
      obtain ⟨hl, e2⟩ := List.getElem?_eq_some_iff.mp hL
      rcases Nat.eq_or_lt_of_le (show i ≤ ((rgI 0 c).filter f).length - 1 by omega) with w | w
      · subst w
        rw [e2] at e
        omega
      · have := List.pairwise_iff_getElem.mp hA i _ hi hl w
        omega
/-- the first of the days from one on -/
theorem next_of_list {f : Int → Bool} {c b : Int} {d : Int} (h : ((rgI c b).filter f).head? = some d) : IsNext f c (some d) := by
  cases hL : (rgI c b).filter f with
  | nil => rw [hL] at h; cases h
  | cons e l =>
    rw [hL] at h
    cases h
    have hm : d ∈ (rgI c b).filter f := by rw [hL]; exact List.mem_cons_self
    obtain ⟨h1, h2⟩ := List.mem_filter.mp hm
    obtain ⟨h3, h4⟩ := rgI_mem.mp h1
    refine ⟨h3, h2, fun x h5 h6 => ?_⟩
    cases hf : f x with
    | false => rfl
    | true =>
      exfalso
      have hx : x ∈ (rgI c b).filter f := List.mem_filter.mpr ⟨rgI_mem.mpr ⟨by omega, by omega⟩, hf⟩
      have hA : Asc ((rgI c b).filter f) := asc_rgI.filter _
      rw [hL] at hx hA
      rcases List.mem_cons.mp hx with e | w
      · omega
      · have := (List.pairwise_cons.mp hA).1 x w
        omega
/-- the one at a place -/
theorem nth_of_list {f : Int → Bool} {b : Int} {i : Nat} {d : Int} (h : ((rgI 0 b).filter f)[i]? = some d) : IsNth f i (some d) := by
  have hm := List.mem_of_getElem? h
  obtain ⟨h1, h2⟩ := List.mem_filter.mp hm
  obtain ⟨h3, h4⟩ := rgI_mem.mp h1
  refine ⟨h3, h2, ?_⟩
  have hA : Asc ((rgI 0 b).filter f) := asc_rgI.filter _
  have e : (rgI 0 d).filter f = ((rgI 0 b).filter f).take i := by
    refine asc_ext (asc_rgI.filter _) (hA.sublist (List.take_sublist _ _)) fun k => ?_
    rw [List.mem_filter, rgI_mem]
    constructor
    · intro w
      have hk : k ∈ (rgI 0 b).filter f := List.mem_filter.mpr ⟨rgI_mem.mpr ⟨w.1.1, by omega⟩, w.2⟩
      obtain ⟨j, hj, e⟩ := List.mem_iff_getElem.mp hk
      have : j < i := by
        rcases Nat.lt_or_ge j i with c | c
        · exact c
        · exfalso
          rcases Nat.eq_or_lt_of_le c with c | c
          · subst c
            rw [List.getElem?_eq_getElem hj, e] at h
            cases h
            omega
          · have := Asc.get hA c h (List.getElem?_eq_getElem hj)
            omega
      rw [← e]
      exact List.mem_take_iff_getElem.mpr ⟨j, by omega, rfl⟩
    · intro w
      obtain ⟨j, hj, e⟩ := List.mem_take_iff_getElem.mp w
      have hj2 : j < ((rgI 0 b).filter f).length := by omega
      have hk : k ∈ (rgI 0 b).filter f := e ▸ List.getElem_mem hj2
      have := Asc.get hA (show j < i by omega) (List.getElem?_eq_getElem hj2) h
      obtain ⟨k1, k2⟩ := List.mem_filter.mp hk
      obtain ⟨k3, k4⟩ := rgI_mem.mp k1
      exact ⟨⟨k3, by omega⟩, k2⟩
  unfold cntF
  rw [e, List.length_take]
  have := (List.getElem?_eq_some_iff.mp h).1
  omega
/-- a pattern has no last day: its last piece has residues -/
theorem fin_iff {qs : List Pc} {s P : Int} {ns : List Int} (h : PatOk (qs ++ [(s, P, ns)])) : ns = [] ↔ ∃ B, ∀ d, B ≤ d → patB (qs ++ [(s, P, ns)]) d = false := by
  have hk : KdOk (P, ns) := h.ok (s, P, ns) (by simp)
  have hr : Res P ns := hk.1
  have hP := hr.1
  have e : ∀ d, s ≤ d → patB (qs ++ [(s, P, ns)]) d = inP P ns d := fun d hd => by
    rw [patB_snoc]
    show (if s ≤ d then inPc (s, P, ns) d else _) = _
    rw [if_pos hd]
    rfl
  constructor
  · rintro rfl
    exact ⟨s, fun d hd => by rw [e d hd]; simp⟩
  · rintro ⟨B, hB⟩
    cases ns with
    | nil => rfl
    | cons r ns =>
      exfalso
      obtain ⟨n1, n2, n3, n4⟩ := nextR_spec hr (by simp : 0 < (r :: ns).length) (max s B)
      have h1 := hB (nextR P (r :: ns) (max s B)) (by omega)
      rw [e _ (by omega)] at h1
      exact absurd n2 (by simpa using h1)
/-- there are no days from some day on -/
def FinP (f : Int → Bool) : Prop := ∃ B, ∀ d, B ≤ d → f d = false
theorem pat_last {ps : List Pc} (h : PatOk ps) : ∃ qs s P ns, ps = qs ++ [(s, P, ns)] := by
  rcases List.eq_nil_or_concat ps with rfl | ⟨qs, l, e⟩
  · have := h.pos0; simp at this
  · obtain ⟨s, P, ns⟩ := l
    exact ⟨qs, s, P, ns, by rw [e, List.concat_eq_append]⟩
theorem at_lastpc {qs : List Pc} {p : Pc} : atI ((qs ++ [p]).map pcD) (((qs ++ [p]).length : Int) - 1) = some (pcD p) := by
  refine at_map (by rw [List.length_append, List.length_singleton]; omega) ?_
  rw [List.length_append, List.length_singleton, show (((qs.length + 1 : Nat) : Int) - 1).toNat = qs.length by omega]
  simp
theorem dec_true (f : Int → Bool) : (fun n => decide (f n = true)) = f := funext fun n => by simp
theorem cmpOk_optD {r : Option Int} : cmpOk (optD r) = true := by cases r <;> rfl
theorem deq_optD {r r' : Option Int} : deq (optD r) (optD r') = decide (r = r') := by
  cases r <;> cases r'
  · rfl
  · rfl
  · rfl
  · rw [show optD (some _) = D.int _ from rfl, show optD (some _) = D.int _ from rfl, deq_int]; simp
theorem at_getLast {ns : List Int} (h : 0 < ns.length) : ∃ v, ns.getLast? = some v ∧ atI (ns.map D.int) ((ns.length : Int) - 1) = some (.int v) := by
  obtain ⟨v, hv⟩ : ∃ v, ns[ns.length - 1]? = some v := ⟨_, List.getElem?_eq_getElem (by omega)⟩
  exact ⟨v, by rw [List.getLast?_eq_getElem?]; exact hv, at_map (by omega) (by rw [show ((ns.length : Int) - 1).toNat = ns.length - 1 by omega]; exact hv)⟩
theorem at_head {ns : List Int} (h : 0 < ns.length) : ∃ v, ns.head? = some v ∧ atI (ns.map D.int) 0 = some (.int v) := by
  cases ns with
  | nil => simp at h
  | cons v l => exact ⟨v, rfl, atI0⟩
theorem isNon_optD {r : Option Int} : PL.isNon (optD r) = decide (r = none) := by cases r <;> rfl
/-- no list of one's own stands there -/
theorem IsNext.far {f : Int → Bool} {day far : Int} {r : Option Int} (h : IsNext f day r) (hn : ((rgI day far).filter f).length = 0) : ∀ d, r = some d → far ≤ d := by
  rintro d rfl
  by_cases c : far ≤ d
  · exact c
  · have : d ∈ (rgI day far).filter f := List.mem_filter.mpr ⟨rgI_mem.mpr ⟨h.1, by omega⟩, h.2.1⟩
    rw [List.eq_nil_of_length_eq_zero hn] at this
    cases this
theorem IsNext.fin {f : Int → Bool} {day : Int} {r : Option Int} (h : IsNext f day r) : r = none → FinP f := by
  rintro rfl
  exact ⟨day, h⟩
theorem filt_mid {f : Int → Bool} {a b c d : Int} (h : ∀ x, x < a → f x = false) (hd : d ≤ b) : ((rgI a b).filter f).filter (fun n => decide (c ≤ n ∧ n < d)) = (rgI c d).filter f := by
  refine asc_ext ((asc_rgI.filter _).filter _) (asc_rgI.filter _) fun k => ?_
  simp only [List.mem_filter, rgI_mem, decide_eq_true_iff]
  constructor
  · exact fun w => ⟨w.2, w.1.2⟩
  · intro w
    have : a ≤ k := by
      by_cases c1 : a ≤ k
      · exact c1
      · have := h k (by omega)
        rw [this] at w
        cases w.2
    exact ⟨⟨⟨this, by omega⟩, w.2⟩, w.1⟩
abbrev Sp := Int × Int
/-- the minutes of some pairs -/
def inSp (ps : List Sp) (k : Int) : Bool := ps.any fun p => decide (p.1 ≤ k ∧ k < p.2)
theorem inSp_iff {ps : List Sp} {k : Int} : inSp ps k = true ↔ ∃ p ∈ ps, p.1 ≤ k ∧ k < p.2 := by
  unfold inSp
  rw [List.any_eq_true]
  constructor
  · rintro ⟨p, hp, h⟩; exact ⟨p, hp, of_decide_eq_true h⟩
  · rintro ⟨p, hp, h⟩; exact ⟨p, hp, decide_eq_true h⟩
theorem inSp_app {ps qs : List Sp} {k : Int} : inSp (ps ++ qs) k = (inSp ps k || inSp qs k) := by unfold inSp; rw [List.any_append]
theorem inSp_one {p : Sp} {k : Int} : inSp [p] k = decide (p.1 ≤ k ∧ k < p.2) := by unfold inSp; simp
theorem inSp_cons {p : Sp} {ps : List Sp} {k : Int} : inSp (p :: ps) k = (decide (p.1 ≤ k ∧ k < p.2) || inSp ps k) := by unfold inSp; rw [List.any_cons]
/-- not empty, ascending, apart -/
structure TidySp (ss : List Sp) : Prop where
  pos : ∀ p ∈ ss, p.1 < p.2
  asc : ss.Pairwise fun p q => p.2 < q.1
theorem TidySp.nil : TidySp [] := ⟨by simp, by simp⟩
theorem TidySp.take {ss : List Sp} (h : TidySp ss) (n : Nat) : TidySp (ss.take n) := ⟨fun p hp => h.pos p (List.mem_of_mem_take hp), h.asc.sublist (List.take_sublist _ _)⟩
theorem TidySp.sub {ss ts : List Sp} (h : TidySp ss) (k : ts.Sublist ss) : TidySp ts := ⟨fun p hp => h.pos p (k.mem hp), h.asc.sublist k⟩
/-- one more span is told -/
structure TSInv (qs fs : List Sp) : Prop where
  ok : TidySp fs
  same : ∀ k, inSp fs k = inSp qs k
  low : ∀ f ∈ fs, ∃ q ∈ qs, f.1 = q.1
  len : fs.length ≤ qs.length
theorem TSInv.skip {qs fs : List Sp} {a b : Int} (h : TSInv qs fs) (hb : b ≤ a) : TSInv (qs ++ [(a, b)]) fs := by
  refine ⟨h.ok, fun k => ?_, fun f hf => ?_, by have := h.len; simp; omega⟩
  · rw [inSp_app, inSp_one, decide_eq_false (by show ¬ (a ≤ k ∧ k < b); omega), Bool.or_false]
    exact h.same k
  · obtain ⟨q, hq, e⟩ := h.low f hf
    exact ⟨q, List.mem_append_left _ hq, e⟩
theorem TSInv.add {qs fs : List Sp} {a b : Int} (h : TSInv qs fs) (hab : a < b) (hl : ∀ gs l, fs = gs ++ [l] → l.2 < a) : TSInv (qs ++ [(a, b)]) (fs ++ [(a, b)]) := by
  refine ⟨⟨fun p hp => ?_, List.pairwise_append.mpr ⟨h.ok.asc, by simp, fun p hp q hq => ?_⟩⟩, fun k => by rw [inSp_app, inSp_app, h.same k], fun f hf => ?_, by have := h.len; simp; omega⟩
  · rcases List.mem_append.mp hp with w | w
    · exact h.ok.pos p w
    · rw [List.mem_singleton.mp w]; exact hab
  · rw [List.mem_singleton.mp hq]
    show p.2 < a
    rcases List.eq_nil_or_concat fs with rfl | ⟨gs, l, e⟩
    · cases hp
    · rw [List.concat_eq_append] at e
      have h1 := hl gs l e
      rw [e] at hp
      rcases List.mem_append.mp hp with w | w
      · have h2 := h.ok.asc
        rw [e] at h2
        have := (List.pairwise_append.mp h2).2.2 p w l (by simp)
        have := h.ok.pos l (by rw [e]; simp)
        omega
      · rw [List.mem_singleton.mp w]; exact h1
  · rcases List.mem_append.mp hf with w | w
    · obtain ⟨q, hq, e⟩ := h.low f w
      exact ⟨q, List.mem_append_left _ hq, e⟩
    · exact ⟨(a, b), by simp, by rw [List.mem_singleton.mp w]⟩
theorem TSInv.merge {qs gs : List Sp} {a b c d : Int} (h : TSInv qs (gs ++ [(c, d)])) (hab : a < b) (hca : c ≤ a) (had : a ≤ d) : TSInv (qs ++ [(a, b)]) (gs ++ [(c, if b > d then b else d)]) := by
  have hcd : c < d := h.ok.pos (c, d) (by simp)
  have hp := List.pairwise_append.mp h.ok.asc
  refine ⟨⟨fun p hp2 => ?_, List.pairwise_append.mpr ⟨hp.1, by simp, fun p hp2 q hq => ?_⟩⟩, fun k => ?_, fun f hf => ?_, by have := h.len; simp at this ⊢; omega⟩
  · rcases List.mem_append.mp hp2 with w | w
    · exact h.ok.pos p (List.mem_append_left _ w)
    · rw [List.mem_singleton.mp w]
      show c < if b > d then b else d
      split <;> omega
  · rw [List.mem_singleton.mp hq]
    exact hp.2.2 p hp2 (c, d) (by simp)
  · rw [inSp_app, inSp_one, inSp_app, inSp_one, ← h.same k, inSp_app, inSp_one, Bool.or_assoc]
    congr 1
    rw [Bool.eq_iff_iff, Bool.or_eq_true, decide_eq_true_iff, decide_eq_true_iff, decide_eq_true_iff]
    show (c ≤ k ∧ k < if b > d then b else d) ↔ (c ≤ k ∧ k < d) ∨ (a ≤ k ∧ k < b)
    split <;> omega
  · rcases List.mem_append.mp hf with w | w
    · obtain ⟨q, hq, e⟩ := h.low f (List.mem_append_left _ w)
      exact ⟨q, List.mem_append_left _ hq, e⟩
    · obtain ⟨q, hq, e⟩ := h.low (c, d) (by simp)
      exact ⟨q, List.mem_append_left _ hq, by rw [List.mem_singleton.mp w]; exact e⟩
/-- tidy spans that hold all of a stretch hold it in one -/
theorem TidySp.covers {ss : List Sp} (h : TidySp ss) {a b : Int} (hab : a < b) : (∀ k, a ≤ k → k < b → inSp ss k = true) ↔ ∃ p ∈ ss, p.1 ≤ a ∧ b ≤ p.2 := by
  constructor
  · intro w
    obtain ⟨p, hp, p1, p2⟩ := inSp_iff.mp (w a (Int.le_refl _) hab)
    refine ⟨p, hp, p1, ?_⟩
    by_cases c : b ≤ p.2
    · exact c
    · exfalso
      obtain ⟨q, hq, q1, q2⟩ := inSp_iff.mp (w p.2 (by omega) (by omega))
      obtain ⟨i, hi, ei⟩ := List.mem_iff_getElem.mp hp
      obtain ⟨j, hj, ej⟩ := List.mem_iff_getElem.mp hq
      rcases Nat.lt_trichotomy i j with c2 | c2 | c2
      · have := List.pairwise_iff_getElem.mp h.asc i j hi hj c2
        rw [ei, ej] at this
        omega
      · subst c2
        rw [ei] at ej
        subst ej
        omega
      · have := List.pairwise_iff_getElem.mp h.asc j i hj hi c2
        rw [ei, ej] at this
        omega
  · rintro ⟨p, hp, p1, p2⟩ k k1 k2
    exact inSp_iff.mpr ⟨p, hp, by omega, by omega⟩
theorem touch_iff {ss : List Sp} (h : ∀ p ∈ ss, p.1 < p.2) {a b : Int} (hab : a < b) : (∃ k, a ≤ k ∧ k < b ∧ inSp ss k = true) ↔ ∃ p ∈ ss, p.1 < b ∧ a < p.2 := by
  constructor
  · rintro ⟨k, k1, k2, k3⟩
    obtain ⟨p, hp, p1, p2⟩ := inSp_iff.mp k3
    exact ⟨p, hp, by omega, by omega⟩
  · rintro ⟨p, hp, p1, p2⟩
    have := h p hp
    exact ⟨max a p.1, by omega, by omega, inSp_iff.mpr ⟨p, hp, by omega, by omega⟩⟩
/-- the sum of the lengths -/
def spSum (ss : List Sp) : Int := (ss.map fun p => p.2 - p.1).sum
theorem TidySp.sum {ss : List Sp} : TidySp ss → ∀ {a b : Int}, (∀ p ∈ ss, a ≤ p.1 ∧ p.2 ≤ b) → a ≤ b → spSum ss = cntF (inSp ss) a b := by
  induction ss with
  | nil => intro _ a b _ _; rw [cntF_zero (f := inSp []) fun _ _ _ => rfl]; rfl
  | cons p ss ih =>
    intro h a b hb hab
    have h2 := hb p List.mem_cons_self
    have h3 := h.pos p List.mem_cons_self
    have hA := (List.pairwise_cons.mp h.asc).1
    have ht : TidySp ss := ⟨fun q hq => h.pos q (List.mem_cons_of_mem _ hq), (List.pairwise_cons.mp h.asc).2⟩
    have i1 := ih ht (a := p.2) (b := b) (fun q hq => ⟨by have := hA q hq; omega, (hb q (List.mem_cons_of_mem _ hq)).2⟩) h2.2
    have e : spSum (p :: ss) = (p.2 - p.1) + spSum ss := by unfold spSum; rw [List.map_cons, List.sum_cons]
    rw [e, i1, cntF_split (by omega : a ≤ p.1) (by omega : p.1 ≤ b), cntF_split (by omega : p.1 ≤ p.2) h2.2]
    have z1 : cntF (inSp (p :: ss)) a p.1 = 0 := cntF_zero fun x x1 x2 => by
      rw [inSp_cons, decide_eq_false (by omega), Bool.false_or]
      cases hx : inSp ss x with
      | false => rfl
      | true =>
        obtain ⟨q, hq, q1, q2⟩ := inSp_iff.mp hx
        have := hA q hq
        omega
    have z2 : cntF (inSp (p :: ss)) p.1 p.2 = p.2 - p.1 := by
      unfold cntF
      rw [List.filter_eq_self.mpr fun x hx => ?_, rgI_len]
      · omega
      · have := rgI_mem.mp hx
        rw [inSp_cons, decide_eq_true (by omega), Bool.true_or]
    have z3 : cntF (inSp (p :: ss)) p.2 b = cntF (inSp ss) p.2 b := cntF_congr fun x x1 x2 => by
      rw [inSp_cons, decide_eq_false (by omega), Bool.false_or]
    omega
/-- within bounds told by the minutes -/
theorem TidySp.within {ss : List Sp} (h : TidySp ss) {a b : Int} (hm : ∀ k, inSp ss k = true → a ≤ k ∧ k < b) : ∀ p ∈ ss, a ≤ p.1 ∧ p.2 ≤ b := fun p hp => by
  have h1 := h.pos p hp
  have h2 := hm p.1 (inSp_iff.mpr ⟨p, hp, by omega, h1⟩)
  have h3 := hm (p.2 - 1) (inSp_iff.mpr ⟨p, hp, by omega, by omega⟩)
  omega
/-- the gaps up to a span -/
structure GpInv (a : Int) (cs gs : List Sp) (at_ : Int) : Prop where
  ge : a ≤ at_
  same : ∀ k, inSp gs k = (decide (a ≤ k ∧ k < at_) && !inSp cs k)
  below : ∀ c ∈ cs, c.2 ≤ at_
  len : gs.length ≤ cs.length
theorem GpInv.add {a x y at_ : Int} {cs gs : List Sp} (h : GpInv a cs gs at_) (h1 : at_ ≤ x) (h2 : x < y) : GpInv a (cs ++ [(x, y)]) (gs ++ [(at_, x)]) y := by
  refine ⟨by have := h.ge; omega, fun k => ?_, fun c hc => ?_, by have := h.len; simp; omega⟩
  · rw [inSp_app, inSp_app, inSp_one, inSp_one, h.same k]
    have hg := h.ge
    have hcs : at_ ≤ k → inSp cs k = false := fun hk => by
      cases hx : inSp cs k with
      | false => rfl
      | true =>
        obtain ⟨q, hq, q1, q2⟩ := inSp_iff.mp hx
        have := h.below q hq
        omega
    show (_ || decide (at_ ≤ k ∧ k < x)) = (decide (a ≤ k ∧ k < y) && !(inSp cs k || decide (x ≤ k ∧ k < y)))
    by_cases c1 : k < at_
    · rw [decide_eq_false (by omega : ¬ (at_ ≤ k ∧ k < x)), decide_eq_false (by omega : ¬ (x ≤ k ∧ k < y)), Bool.or_false, Bool.or_false]
      rw [decide_eq_decide.mpr (show (a ≤ k ∧ k < at_) ↔ (a ≤ k ∧ k < y) by omega)]
    · rw [hcs (by omega), decide_eq_false (by omega : ¬ (a ≤ k ∧ k < at_)), Bool.false_and, Bool.false_or, Bool.false_or, Bool.eq_iff_iff]
      simp only [Bool.and_eq_true, Bool.not_eq_true', decide_eq_true_iff, decide_eq_false_iff_not]
      omega
  · rcases List.mem_append.mp hc with w | w
    · have := h.below c w; omega
    · rw [List.mem_singleton.mp w]; exact Int.le_refl y
/-- two rows, gone through abreast -/
theorem common_step1 {ps qs fs : List Sp} {i j : Nat} {a b c d : Int} (hp : TidySp ps) (hq : TidySp qs) (ei : ps[i]? = some (a, b)) (ej : qs[j]? = some (c, d)) (hbd : b < d)
    (h : ∀ k, (inSp ps k && inSp qs k) = (inSp fs k || (inSp (ps.drop i) k && inSp (qs.drop j) k))) :
    ∀ k, (inSp ps k && inSp qs k) = (inSp (fs ++ [(if c > a then c else a, if d < b then d else b)]) k || (inSp (ps.drop (i + 1)) k && inSp (qs.drop j) k)) := fun k => by
  obtain ⟨h1, e1⟩ := List.getElem?_eq_some_iff.mp ei
  obtain ⟨h2, e2⟩ := List.getElem?_eq_some_iff.mp ej
  have d1 : ps.drop i = (a, b) :: ps.drop (i + 1) := by rw [← e1]; exact List.drop_eq_getElem_cons h1
  have d2 : qs.drop j = (c, d) :: qs.drop (j + 1) := by rw [← e2]; exact List.drop_eq_getElem_cons h2
  have hq2 : TidySp (qs.drop j) := hq.sub (List.drop_sublist _ _)
  have hcd : c < d := hq.pos (c, d) (List.mem_of_getElem? ej)
  rw [d2] at hq2
  have hA := (List.pairwise_cons.mp hq2.asc).1
  rw [h k, inSp_app, inSp_one, d1, inSp_cons, Bool.or_assoc]
  congr 1
  have hno : k < d → inSp (qs.drop (j + 1)) k = false := fun hk => by
    cases hx : inSp (qs.drop (j + 1)) k with
    | false => rfl
    | true =>
      obtain ⟨r, hr, r1, r2⟩ := inSp_iff.mp hx
      have := hA r hr
      omega
  rw [d2, inSp_cons]
  by_cases c1 : k < d
  · rw [hno c1, Bool.or_false, Bool.eq_iff_iff]
    simp only [Bool.and_eq_true, Bool.or_eq_true, decide_eq_true_iff]
    generalize inSp (ps.drop (i + 1)) k = t
    show ((a ≤ k ∧ k < b) ∨ t = true) ∧ (c ≤ k ∧ k < d) ↔ ((if c > a then c else a) ≤ k ∧ k < (if d < b then d else b)) ∨ (t = true ∧ (c ≤ k ∧ k < d))
    constructor
    · rintro ⟨w | w, w2⟩
      · refine .inl ⟨?_, ?_⟩ <;> split <;> omega
      · exact .inr ⟨w, w2⟩
    · rintro (w | w)
      · have w1 := w.1
        have w2 := w.2
        refine ⟨.inl ?_, ?_⟩
        · split at w1 <;> split at w2 <;> omega
        · split at w1 <;> split at w2 <;> omega
      · exact ⟨.inr w.1, w.2⟩
  · have z1 : decide ((a, b).1 ≤ k ∧ k < (a, b).2) = false := decide_eq_false (by show ¬ (a ≤ k ∧ k < b); omega)
    have z2 : decide ((c, d).1 ≤ k ∧ k < (c, d).2) = false := decide_eq_false (by show ¬ (c ≤ k ∧ k < d); omega)
    have z3 : decide ((if c > a then c else a, if d < b then d else b).1 ≤ k ∧ k < (if c > a then c else a, if d < b then d else b).2) = false := decide_eq_false (by
      show ¬ ((if c > a then c else a) ≤ k ∧ k < (if d < b then d else b))
      intro w
      have := w.2
      split at this <;> omega)
    rw [z1, z2, z3, Bool.false_or, Bool.false_or, Bool.false_or]
theorem common_step2 {ps qs fs : List Sp} {i j : Nat} {a b c d : Int} (hp : TidySp ps) (hq : TidySp qs) (ei : ps[i]? = some (a, b)) (ej : qs[j]? = some (c, d)) (hbd : ¬ b < d)
    (h : ∀ k, (inSp ps k && inSp qs k) = (inSp fs k || (inSp (ps.drop i) k && inSp (qs.drop j) k))) :
    ∀ k, (inSp ps k && inSp qs k) = (inSp (fs ++ [(if c > a then c else a, if d < b then d else b)]) k || (inSp (ps.drop i) k && inSp (qs.drop (j + 1)) k)) := fun k => by
  obtain ⟨h1, e1⟩ := List.getElem?_eq_some_iff.mp ei
  obtain ⟨h2, e2⟩ := List.getElem?_eq_some_iff.mp ej
  have d1 : ps.drop i = (a, b) :: ps.drop (i + 1) := by rw [← e1]; exact List.drop_eq_getElem_cons h1
  have d2 : qs.drop j = (c, d) :: qs.drop (j + 1) := by rw [← e2]; exact List.drop_eq_getElem_cons h2
  have hp2 : TidySp (ps.drop i) := hp.sub (List.drop_sublist _ _)
  have hab : a < b := hp.pos (a, b) (List.mem_of_getElem? ei)
  rw [d1] at hp2
  have hA := (List.pairwise_cons.mp hp2.asc).1
  rw [h k, inSp_app, inSp_one, d2, inSp_cons, Bool.or_assoc]
  congr 1
  have hno : k < b → inSp (ps.drop (i + 1)) k = false := fun hk => by
    cases hx : inSp (ps.drop (i + 1)) k with
    | false => rfl
    | true =>
      obtain ⟨r, hr, r1, r2⟩ := inSp_iff.mp hx
      have := hA r hr
      omega
  rw [d1, inSp_cons]
  by_cases c1 : k < b
  · rw [hno c1, Bool.or_false, Bool.eq_iff_iff]
    simp only [Bool.and_eq_true, Bool.or_eq_true, decide_eq_true_iff]
    generalize inSp (qs.drop (j + 1)) k = t
    show (a ≤ k ∧ k < b) ∧ ((c ≤ k ∧ k < d) ∨ t = true) ↔ ((if c > a then c else a) ≤ k ∧ k < (if d < b then d else b)) ∨ ((a ≤ k ∧ k < b) ∧ t = true)
    constructor
    · rintro ⟨w2, w | w⟩
      · refine .inl ⟨?_, ?_⟩ <;> split <;> omega
      · exact .inr ⟨w2, w⟩
    · rintro (w | w)
      · have w1 := w.1
        have w2 := w.2
        refine ⟨?_, .inl ?_⟩
        · split at w1 <;> split at w2 <;> omega
        · split at w1 <;> split at w2 <;> omega
      · exact ⟨w.1, .inr w.2⟩
  · have z1 : decide ((a, b).1 ≤ k ∧ k < (a, b).2) = false := decide_eq_false (by show ¬ (a ≤ k ∧ k < b); omega)
    have z2 : decide ((c, d).1 ≤ k ∧ k < (c, d).2) = false := decide_eq_false (by show ¬ (c ≤ k ∧ k < d); omega)
    have z3 : decide ((if c > a then c else a, if d < b then d else b).1 ≤ k ∧ k < (if c > a then c else a, if d < b then d else b).2) = false := decide_eq_false (by
      show ¬ ((if c > a then c else a) ≤ k ∧ k < (if d < b then d else b))
      intro w
      have := w.2
      split at this <;> omega)
    rw [z1, z2, z3, Bool.false_or, Bool.false_or, Bool.false_or]
theorem TidySp.hd {p : Sp} {ss : List Sp} (h : TidySp (p :: ss)) : p.1 < p.2 ∧ TidySp ss ∧ ∀ q ∈ ss, p.2 < q.1 := by
  have h2 := List.pairwise_cons.mp h.asc
  exact ⟨h.pos p List.mem_cons_self, ⟨fun q hq => h.pos q (List.mem_cons_of_mem _ hq), h2.2⟩, h2.1⟩
/-- tidy spans are told by their minutes -/
theorem TidySp.ext : ∀ {ss ts : List Sp}, TidySp ss → TidySp ts → (∀ k, inSp ss k = inSp ts k) → ss = ts
  | [], [], _, _, _ => rfl
  | [], q :: ts, _, h2, h => by
    have := h q.1
    rw [inSp_cons, decide_eq_true ⟨Int.le_refl _, h2.hd.1⟩] at this
    cases this
  | p :: ss, [], h1, _, h => by
    have := h p.1
    rw [inSp_cons, decide_eq_true ⟨Int.le_refl _, h1.hd.1⟩] at this
    cases this
  | p :: ss, q :: ts, h1, h2, h => by
    obtain ⟨a1, a2, a3⟩ := h1.hd
    obtain ⟨b1, b2, b3⟩ := h2.hd
    have lo : ∀ {p q : Sp} {ss ts : List Sp}, p.1 < p.2 → (∀ q' ∈ ts, q.2 < q'.1) → q.1 < q.2 → (∀ k, inSp (p :: ss) k = inSp (q :: ts) k) → q.1 ≤ p.1 := by
      intro p q ss ts a1 b3 b1 h
      have hk : inSp (q :: ts) p.1 = true := by rw [← h, inSp_cons, decide_eq_true ⟨Int.le_refl _, a1⟩]; rfl
      obtain ⟨q', hq', w1, w2⟩ := inSp_iff.mp hk
      rcases List.mem_cons.mp hq' with rfl | w
      · exact w1
      · have := b3 q' w
        omega
    have e1 : p.1 = q.1 := by
      have x1 := lo a1 b3 b1 h
      have x2 := lo b1 a3 a1 fun k => (h k).symm
      omega
    have hi : ∀ {p q : Sp} {ss ts : List Sp}, p.1 = q.1 → p.1 < p.2 → (∀ q' ∈ ss, p.2 < q'.1) → (∀ k, inSp (p :: ss) k = inSp (q :: ts) k) → q.2 ≤ p.2 := by
      intro p q ss ts e a1 a3 h
      rcases Int.lt_or_le p.2 q.2 with w | w
      · have hk : inSp (p :: ss) p.2 = true := by rw [h, inSp_cons, decide_eq_true ⟨by omega, w⟩]; rfl
        obtain ⟨q', hq', w1, w2⟩ := inSp_iff.mp hk
        rcases List.mem_cons.mp hq' with rfl | u
        · omega
        · have := a3 q' u
          omega
      · exact w
    have e2 : p.2 = q.2 := by
      have x1 := hi e1 a1 a3 h
      have x2 := hi e1.symm b1 b3 fun k => (h k).symm
      omega
    have e : p = q := Prod.ext e1 e2
    subst e
    rw [TidySp.ext a2 b2 fun k => ?_]
    have hk := h k
    rw [inSp_cons, inSp_cons] at hk
    by_cases c : p.1 ≤ k ∧ k < p.2
    · have out : ∀ {us : List Sp}, (∀ q ∈ us, p.2 < q.1) → inSp us k = false := fun {us} hu => by
        cases hc : inSp us k with
        | false => rfl
        | true =>
          obtain ⟨q, hq, w1, _⟩ := inSp_iff.mp hc
          have := hu q hq
          omega
      rw [out a3, out b3]
    · rw [decide_eq_false c, Bool.false_or, Bool.false_or] at hk
      exact hk
def trD (t : Int × Int × Int) : D := .tup [.int t.1, .int t.2.1, .int t.2.2]
theorem trD_eq {a b c : Int} : trD (a, b, c) = .tup [.int a, .int b, .int c] := rfl
/-- ((a, b), c) -/
def neD (t : Int × Int × Int) : D := .tup [.tup [.int t.1, .int t.2.1], .int t.2.2]
theorem neD_eq {a b c : Int} : neD (a, b, c) = .tup [.tup [.int a, .int b], .int c] := rfl
def le3 (t u : Int × Int × Int) : Bool := decide (t.1 < u.1 ∨ (t.1 = u.1 ∧ (t.2.1 < u.2.1 ∨ (t.2.1 = u.2.1 ∧ t.2.2 ≤ u.2.2))))
theorem dataLt_iii (x y z x' y' z' : Int) : PySem.W.dataLt (.tuple [.int x, .int y, .int z]) (.tuple [.int x', .int y', .int z']) = decide (x < x' ∨ (x = x' ∧ (y < y' ∨ (y = y' ∧ z < z')))) := by
  rw [PySem.W.dataLt_tuple, PySem.W.dataLt_cons (by simp [PySem.W.alike]), PySem.W.dataLt_cons (by simp [PySem.W.alike]), PySem.W.dataLt_cons (by simp [PySem.W.alike]), PySem.W.dataLt_int, PySem.W.dataLt_int, PySem.W.dataLt_int]
  have e : PyProof.Rows.lexLt PyProof.Rows.itemOrd (PySem.W.keyToksAll []) (PySem.W.keyToksAll []) = false := PyProof.Rows.lex_irrefl _
  rw [e]
  simp only [PySem.PyData.eqv, beq_iff_eq]
  by_cases h1 : x = x' <;> by_cases h2 : y = y' <;> by_cases h3 : z = z' <;> simp [h1, h2, h3]
theorem dataLt_ne (x y z x' y' z' : Int) : PySem.W.dataLt (.tuple [.tuple [.int x, .int y], .int z]) (.tuple [.tuple [.int x', .int y'], .int z']) = decide (x < x' ∨ (x = x' ∧ (y < y' ∨ (y = y' ∧ z < z')))) := by
  rw [PySem.W.dataLt_pair (by simp [PySem.W.alike, PySem.W.alikeAll]) (by simp [PySem.W.alike]), PySem.W.dataLt_ii, PySem.W.dataLt_int]
  simp only [PySem.PyData.eqv, PySem.PyData.eqvAll, beq_iff_eq, Bool.and_eq_true]
  by_cases h1 : x = x' <;> by_cases h2 : y = y' <;> by_cases h3 : z = z' <;> simp [h1, h2, h3]
theorem sortOk_tr {ts : List (Int × Int × Int)} : SortOk (ts.map trD) := sortOk_map (fun _ => rfl) (fun x y => by simp [trD, toPy, toPyA, PySem.W.alike, PySem.W.alikeAll]) (fun x => ⟨_, _, rfl⟩) fun x => by simp [trD, toPy, toPyA, PyData.depth, PyData.depthAll]
theorem sortOk_ne {ts : List (Int × Int × Int)} : SortOk (ts.map neD) := sortOk_map (fun _ => rfl) (fun x y => by simp [neD, toPy, toPyA, PySem.W.alike, PySem.W.alikeAll]) (fun x => ⟨_, _, rfl⟩) fun x => by simp [neD, toPy, toPyA, PyData.depth, PyData.depthAll]
theorem not_le3 {t u : Int × Int × Int} : (!decide (u.1 < t.1 ∨ (u.1 = t.1 ∧ (u.2.1 < t.2.1 ∨ (u.2.1 = t.2.1 ∧ u.2.2 < t.2.2))))) = le3 t u := by
  unfold le3
  by_cases h : u.1 < t.1 ∨ (u.1 = t.1 ∧ (u.2.1 < t.2.1 ∨ (u.2.1 = t.2.1 ∧ u.2.2 < t.2.2)))
  · rw [decide_eq_true h, decide_eq_false (by omega)]
    rfl
  · rw [decide_eq_false h, decide_eq_true (by omega)]
    rfl
theorem sort_tr {ts : List (Int × Int × Int)} : (ts.map trD).mergeSort leD = (ts.mergeSort le3).map trD := by
  rw [sort_map]
  have e : (PySem.W.dataLe false fun x => toPy (trD x)) = le3 := by
    funext t u
    show (!PySem.W.dataLt (.tuple [.int u.1, .int u.2.1, .int u.2.2]) (.tuple [.int t.1, .int t.2.1, .int t.2.2])) = _
    rw [dataLt_iii, not_le3]
  rw [e]
theorem sort_ne {ts : List (Int × Int × Int)} : (ts.map neD).mergeSort leD = (ts.mergeSort le3).map neD := by
  rw [sort_map]
  have e : (PySem.W.dataLe false fun x => toPy (neD x)) = le3 := by
    funext t u
    show (!PySem.W.dataLt (.tuple [.tuple [.int u.1, .int u.2.1], .int u.2.2]) (.tuple [.tuple [.int t.1, .int t.2.1], .int t.2.2])) = _
    rw [dataLt_ne, not_le3]
  rw [e]
theorem sorted_tr {ts : List (Int × Int × Int)} : (ts.mergeSort le3).Perm ts ∧ (ts.mergeSort le3).Pairwise fun t u => t.1 ≤ u.1 := by
  refine ⟨List.mergeSort_perm _ _, ?_⟩
  have := List.pairwise_mergeSort (le := le3) (fun a b c h1 h2 => by
    unfold le3 at *
    rw [decide_eq_true_iff] at *
    omega) (fun a b => by
    unfold le3
    rw [Bool.or_eq_true, decide_eq_true_iff, decide_eq_true_iff]
    omega) ts
  exact this.imp fun {a b} h => by unfold le3 at h; rw [decide_eq_true_iff] at h; omega
/-- spans with their places -/
def enT : Nat → List Sp → List (Int × Int × Int)
  | _, [] => []
  | k, p :: S => (p.1, p.2, (k : Int)) :: enT (k + 1) S
theorem enT_len : ∀ {k : Nat} {S : List Sp}, (enT k S).length = S.length
  | _, [] => rfl
  | k, p :: S => by rw [enT, List.length_cons, List.length_cons, enT_len]
theorem enT_get : ∀ {k : Nat} {S : List Sp} {i : Nat} {p : Sp}, S[i]? = some p → (enT k S)[i]? = some (p.1, p.2, ((k + i : Nat) : Int))
  | _, [], _, _, h => by simp at h
  | k, q :: S, 0, p, h => by
    simp at h
    subst h
    rfl
  | k, q :: S, i + 1, p, h => by
    have := enT_get (k := k + 1) (S := S) (i := i) (p := p) (by simpa using h)
    rw [enT, List.getElem?_cons_succ, this]
    congr 4
    omega
theorem enT_mem {S : List Sp} {t : Int × Int × Int} (h : t ∈ enT 0 S) : ∃ (i : Nat) (p : Sp), S[i]? = some p ∧ t = (p.1, p.2, (i : Int)) := by
  obtain ⟨i, hi⟩ := List.mem_iff_getElem?.mp h
  have hl := (List.getElem?_eq_some_iff.mp hi).1
  rw [enT_len] at hl
  have e : S[i]? = some S[i] := List.getElem?_eq_getElem hl
  have e2 := enT_get (k := 0) e
  rw [hi] at e2
  cases e2
  exact ⟨i, _, e, by simp⟩
theorem enT_pl : ∀ {k : Nat} {S : List Sp}, (enT k S).map (fun t => t.2.2.toNat) = (List.range S.length).map (k + ·)
  | _, [] => rfl
  | k, p :: S => by
    rw [enT, List.map_cons, enT_pl, List.length_cons, List.range_succ_eq_map, List.map_cons, List.map_map]
    congr 1
    exact List.map_congr_left fun x _ => by show k + 1 + x = k + (x + 1); omega
theorem enT_pr : ∀ {k : Nat} {S : List Sp}, (enT k S).map (fun t => (t.1, t.2.1)) = S
  | _, [] => rfl
  | k, p :: S => by rw [enT, List.map_cons, enT_pr]
def tri (S : List Sp) : List (Int × Int × Int) := (enT 0 S).mergeSort le3
theorem tri_perm {S : List Sp} : (tri S).Perm (enT 0 S) := sorted_tr.1
theorem tri_len {S : List Sp} : (tri S).length = S.length := by rw [tri_perm.length_eq, enT_len]
theorem tri_at {S : List Sp} {j : Nat} {t : Int × Int × Int} (h : (tri S)[j]? = some t) : ∃ (i : Nat) (p : Sp), S[i]? = some p ∧ t = (p.1, p.2, (i : Int)) ∧ i < S.length := by
  obtain ⟨i, p, h1, h2⟩ := enT_mem (tri_perm.mem_iff.mp (List.mem_of_getElem? h))
  exact ⟨i, p, h1, h2, (List.getElem?_eq_some_iff.mp h1).1⟩
theorem tri_le {S : List Sp} {j k : Nat} {t u : Int × Int × Int} (hjk : j < k) (h : (tri S)[j]? = some t) (h2 : (tri S)[k]? = some u) : t.1 ≤ u.1 := by
  obtain ⟨l1, e1⟩ := List.getElem?_eq_some_iff.mp h
  obtain ⟨l2, e2⟩ := List.getElem?_eq_some_iff.mp h2
  have := List.pairwise_iff_getElem.mp (sorted_tr (ts := enT 0 S)).2 j k l1 l2 hjk
  have e1 : (List.mergeSort (enT 0 S) le3)[j] = t := e1
  have e2 : (List.mergeSort (enT 0 S) le3)[k] = u := e2
  rw [e1, e2] at this
  exact this
theorem tri_pl {S : List Sp} : ((tri S).map fun t => t.2.2.toNat).Perm (List.range S.length) := by
  have h := tri_perm (S := S) |>.map fun t => t.2.2.toNat
  rw [enT_pl] at h
  simpa using h
theorem tri_inj {S : List Sp} {j k : Nat} {t u : Int × Int × Int} (h : (tri S)[j]? = some t) (h2 : (tri S)[k]? = some u) (e : t.2.2.toNat = u.2.2.toNat) : j = k := by
  have hn : ((tri S).map fun t => t.2.2.toNat).Nodup := tri_pl.nodup_iff.mpr List.nodup_range
  obtain ⟨l1, e1⟩ := List.getElem?_eq_some_iff.mp h
  obtain ⟨l2, e2⟩ := List.getElem?_eq_some_iff.mp h2
  have key : ∀ (j k : Nat) (l1 : j < (tri S).length) (l2 : k < (tri S).length), (tri S)[j].2.2.toNat = (tri S)[k].2.2.toNat → ¬ j < k := fun j k l1 l2 e w => by
    have := List.pairwise_iff_getElem.mp hn j k (by simpa using l1) (by simpa using l2) w
    rw [List.getElem_map, List.getElem_map] at this
    exact this e
  have a := key j k l1 l2 (by rw [e1, e2]; exact e)
  have b := key k j l2 l1 (by rw [e1, e2]; exact e.symm)
  omega
theorem tri_ex {S : List Sp} {i : Nat} (h : i < S.length) : ∃ (j : Nat) (t : Int × Int × Int), (tri S)[j]? = some t ∧ t.2.2.toNat = i := by
  have := tri_pl (S := S) |>.mem_iff.mpr (List.mem_range.mpr h)
  obtain ⟨t, ht, e⟩ := List.mem_map.mp this
  obtain ⟨j, hj⟩ := List.mem_iff_getElem?.mp ht
  exact ⟨j, t, hj, e⟩
/-- the room r is taken at the minute a, by those dealt so far -/
def Taken (T : List (Int × Int × Int)) (R : List Nat) (n r : Nat) (a : Int) : Prop := ∃ (k : Nat) (t : Int × Int × Int), k < n ∧ T[k]? = some t ∧ R[k]? = some r ∧ a < t.2.1
/-- each has the least room that is not taken -/
def DealtN (T : List (Int × Int × Int)) (R : List Nat) (n : Nat) : Prop := ∀ (j : Nat) (t : Int × Int × Int) (r : Nat), j < n → T[j]? = some t → R[j]? = some r → ¬ Taken T R j r t.1 ∧ ∀ q < r, Taken T R j q t.1
structure Dealt (T : List (Int × Int × Int)) (R : List Nat) : Prop where
  len : R.length = T.length
  ok : DealtN T R T.length
theorem taken_app {T : List (Int × Int × Int)} {R : List Nat} {n r x : Nat} {a : Int} (hn : n ≤ R.length) : Taken T (R ++ [x]) n r a ↔ Taken T R n r a := by
  have e : ∀ k, k < n → (R ++ [x])[k]? = R[k]? := fun k hk => List.getElem?_append_left (by omega)
  constructor
  · rintro ⟨k, t, h1, h2, h3, h4⟩
    exact ⟨k, t, h1, h2, by rw [← e k h1]; exact h3, h4⟩
  · rintro ⟨k, t, h1, h2, h3, h4⟩
    exact ⟨k, t, h1, h2, by rw [e k h1]; exact h3, h4⟩
theorem DealtN.snoc {T : List (Int × Int × Int)} {R : List Nat} {n r : Nat} {t : Int × Int × Int} (h : DealtN T R n) (hl : R.length = n) (ht : T[n]? = some t) (h1 : ¬ Taken T R n r t.1) (h2 : ∀ q < r, Taken T R n q t.1) : DealtN T (R ++ [r]) (n + 1) := by
  intro j u q hj hu hq
  by_cases e : j = n
  · subst e
    rw [ht] at hu
    cases hu
    rw [List.getElem?_append_right (by omega), hl, Nat.sub_self] at hq
    cases hq
    exact ⟨fun w => h1 ((taken_app (by omega)).mp w), fun q hq => (taken_app (by omega)).mpr (h2 q hq)⟩
  · rw [List.getElem?_append_left (by omega)] at hq
    obtain ⟨k1, k2⟩ := h j u q (by omega) hu hq
    exact ⟨fun w => k1 ((taken_app (by omega)).mp w), fun q hq => (taken_app (by omega)).mpr (k2 q hq)⟩
theorem dealt_uniq {T : List (Int × Int × Int)} {R R' : List Nat} (h : Dealt T R) (h' : Dealt T R') : R = R' := by
  have key : ∀ n : Nat, ∀ j < n, R[j]? = R'[j]? := by
    intro n
    induction n with
    | zero => intro j w; omega
    | succ n ih =>
      intro j hj
      by_cases e : j < n
      · exact ih j e
      · have : j = n := by omega
        subst this
        by_cases c : j < T.length
        · have hT : T[j]? = some T[j] := List.getElem?_eq_getElem c
          have hR : R[j]? = some (R[j]'(by rw [h.len]; exact c)) := List.getElem?_eq_getElem _
          have hR' : R'[j]? = some (R'[j]'(by rw [h'.len]; exact c)) := List.getElem?_eq_getElem _
          obtain ⟨a1, a2⟩ := h.ok j _ _ c hT hR
          obtain ⟨b1, b2⟩ := h'.ok j _ _ c hT hR'
          have sw : ∀ q, Taken T R j q (T[j]).1 ↔ Taken T R' j q (T[j]).1 := fun q => by
            constructor
            · rintro ⟨k, t, k1, k2, k3, k4⟩
              exact ⟨k, t, k1, k2, by rw [← ih k k1]; exact k3, k4⟩
            · rintro ⟨k, t, k1, k2, k3, k4⟩
              exact ⟨k, t, k1, k2, by rw [ih k k1]; exact k3, k4⟩
          rw [hR, hR']
          congr 1
          rcases Nat.lt_trichotomy (R[j]'(by rw [h.len]; exact c)) (R'[j]'(by rw [h'.len]; exact c)) with w | w | w
          · exact absurd ((sw _).mpr (b2 _ w)) a1
          · exact w
          · exact absurd ((sw _).mp (a2 _ w)) b1
        · rw [List.getElem?_eq_none (by rw [h.len]; omega), List.getElem?_eq_none (by rw [h'.len]; omega)]
  exact List.ext_getElem? fun j => key (j + 1) j (by omega)
theorem dealt_le {T : List (Int × Int × Int)} {R : List Nat} {n : Nat} (h : DealtN T R n) (hn : n ≤ T.length) : ∀ (j : Nat) (r : Nat), j < n → R[j]? = some r → r ≤ j := by
  intro j
  induction j using Nat.strongRecOn with
  | ind j ih =>
    intro r hj hr
    rcases Nat.lt_or_ge j r with w | w
    · have hT : T[j]? = some (T[j]'(by omega)) := List.getElem?_eq_getElem _
      obtain ⟨k, t, k1, k2, k3, k4⟩ := (h j _ r hj hT hr).2 j w
      have := ih k k1 j (by omega) k3
      omega
    · exact w
theorem taken_snoc {T : List (Int × Int × Int)} {R : List Nat} {n r q : Nat} {t : Int × Int × Int} {a : Int} (hl : R.length = n) (ht : T[n]? = some t) : Taken T (R ++ [r]) (n + 1) q a ↔ Taken T R n q a ∨ (q = r ∧ a < t.2.1) := by
  constructor
  · rintro ⟨k, u, k1, k2, k3, k4⟩
    by_cases e : k = n
    · subst e
      rw [ht] at k2
      cases k2
      rw [List.getElem?_append_right (by omega), hl, Nat.sub_self] at k3
      cases k3
      exact .inr ⟨rfl, k4⟩
    · rw [List.getElem?_append_left (by omega)] at k3
      exact .inl ⟨k, u, by omega, k2, k3, k4⟩
  · rintro (⟨k, u, k1, k2, k3, k4⟩ | ⟨rfl, w⟩)
    · exact ⟨k, u, by omega, k2, by rw [List.getElem?_append_left (by omega)]; exact k3, k4⟩
    · exact ⟨n, t, by omega, ht, by rw [List.getElem?_append_right (by omega), hl, Nat.sub_self]; rfl, w⟩
/-- what the rooms' last ends tell -/
structure EndsOk (T : List (Int × Int × Int)) (R : List Nat) (n : Nat) (ends : List Int) : Prop where
  at_ : ∀ (r : Nat) (e : Int), ends[r]? = some e → ∀ a, Taken T R n r a ↔ a < e
  no : ∀ r a, ends.length ≤ r → ¬ Taken T R n r a
  len : ends.length ≤ n
theorem EndsOk.new {T : List (Int × Int × Int)} {R : List Nat} {n : Nat} {ends : List Int} {t : Int × Int × Int} (h : EndsOk T R n ends) (hl : R.length = n) (ht : T[n]? = some t) : EndsOk T (R ++ [ends.length]) (n + 1) (ends ++ [t.2.1]) := by
  refine ⟨fun r e he a => ?_, fun r a hr => ?_, by rw [List.length_append, List.length_singleton]; have := h.len; omega⟩
  · rw [taken_snoc hl ht]
    by_cases c : r = ends.length
    · subst c
      rw [List.getElem?_append_right (Nat.le_refl _), Nat.sub_self] at he
      cases he
      constructor
      · rintro (w | w)
        · exact absurd w (h.no _ _ (Nat.le_refl _))
        · exact w.2
      · intro w
        exact .inr ⟨rfl, w⟩
    · have hlt := (List.getElem?_eq_some_iff.mp he).1
      rw [List.length_append, List.length_singleton] at hlt
      rw [List.getElem?_append_left (by omega)] at he
      rw [← h.at_ r e he a]
      constructor
      · rintro (w | w)
        · exact w
        · exact absurd w.1 c
      · exact .inl
  · rw [List.length_append, List.length_singleton] at hr
    rw [taken_snoc hl ht]
    rintro (w | w)
    · exact h.no _ _ (by omega) w
    · omega
theorem EndsOk.put {T : List (Int × Int × Int)} {R : List Nat} {n r : Nat} {ends : List Int} {t : Int × Int × Int} {e0 : Int} (h : EndsOk T R n ends) (hl : R.length = n) (ht : T[n]? = some t) (hr : ends[r]? = some e0) (h0 : e0 ≤ t.1) (hp : t.1 < t.2.1) : EndsOk T (R ++ [r]) (n + 1) (ends.set r t.2.1) := by
  have hlt := (List.getElem?_eq_some_iff.mp hr).1
  refine ⟨fun q e he a => ?_, fun q a hq => ?_, by rw [List.length_set]; have := h.len; omega⟩
  · rw [taken_snoc hl ht]
    by_cases c : q = r
    · subst c
      rw [List.getElem?_set_self hlt] at he
      cases he
      rw [h.at_ q e0 hr a]
      constructor
      · rintro (w | w)
        · omega
        · exact w.2
      · intro w
        exact .inr ⟨rfl, w⟩
    · rw [List.getElem?_set_ne (Ne.symm c)] at he
      rw [← h.at_ q e he a]
      constructor
      · rintro (w | w)
        · exact w
        · exact absurd w.1 c
      · exact .inl
  · rw [List.length_set] at hq
    rw [taken_snoc hl ht]
    rintro (w | w)
    · exact h.no _ _ hq w
    · omega
/-- the rooms, each at its span's place -/
def At (T : List (Int × Int × Int)) (R : List Nat) (n : Nat) (f : Nat → Option Int) : Prop := ∀ (j : Nat) (t : Int × Int × Int) (r : Nat), j < n → T[j]? = some t → R[j]? = some r → f t.2.2.toNat = some (r : Int)
/-- how many spans run at a minute -/
def cov (S : List Sp) (m : Int) : Nat := (S.filter fun p => decide (p.1 ≤ m ∧ m < p.2)).length
def zAt (T : List (Int × Int × Int)) (R : List Nat) (m : Int) : List ((Int × Int × Int) × Nat) := (T.zip R).filter fun z => decide (z.1.1 ≤ m ∧ m < z.1.2.1)
theorem zAt_len {S : List Sp} {R : List Nat} (hl : R.length = (tri S).length) {m : Int} : (zAt (tri S) R m).length = cov S m := by
  have e1 : ((tri S).filter fun t => decide (t.1 ≤ m ∧ m < t.2.1)).length = cov S m := by
    have h := (tri_perm (S := S)).filter (fun t => decide (t.1 ≤ m ∧ m < t.2.1))
    rw [h.length_eq]
    unfold cov
    conv => rhs; rw [← enT_pr (k := 0) (S := S), List.filter_map, List.length_map]
    rfl
  rw [← e1]
  unfold zAt
  conv => rhs; rw [show tri S = ((tri S).zip R).map Prod.fst from (List.map_fst_zip (by omega)).symm, List.filter_map, List.length_map]
  rfl
theorem zip_mem {T : List (Int × Int × Int)} {R : List Nat} {j : Nat} {t : Int × Int × Int} {r : Nat} (h1 : T[j]? = some t) (h2 : R[j]? = some r) : (t, r) ∈ T.zip R :=
  List.mem_of_getElem? (i := j) (by rw [List.getElem?_zip_eq_some]; exact ⟨h1, h2⟩)
theorem rooms_most {S : List Sp} {R : List Nat} {v most : Int} (hp : ∀ p ∈ S, p.1 < p.2 ∧ 0 ≤ p.1 ∧ p.1 < 141) (hR : Dealt (tri S) R) (hv : (S = [] ∧ v = 0) ∨ ∃ m ∈ R, v = m + 1 ∧ ∀ r ∈ R, r ≤ m)
    (h1 : ∀ m : Int, 0 ≤ m → m < 141 → (cov S m : Int) ≤ most) (h2 : most = 0 ∨ ∃ m : Int, most = cov S m) : v = most := by
  rcases hv with ⟨rfl, rfl⟩ | ⟨m, hm, rfl, hmax⟩
  · rcases h2 with w | ⟨m, w⟩
    · exact w.symm
    · rw [w]; rfl
  · have up : ∀ x : Int, cov S x ≤ m + 1 := fun x => by
      rw [← zAt_len hR.len, ← List.length_map (f := Prod.snd)]
      have hn : ((zAt (tri S) R x).map Prod.snd).Nodup := by
        refine List.pairwise_map.mpr ?_
        have hz : ((tri S).zip R).Pairwise fun z w => ¬ ((z.1.1 ≤ x ∧ x < z.1.2.1) ∧ (w.1.1 ≤ x ∧ x < w.1.2.1) ∧ z.2 = w.2) := by
          refine List.pairwise_iff_getElem.mpr fun i j hi hj hij => ?_
          rw [List.length_zip] at hi hj
          rw [List.getElem_zip, List.getElem_zip]
          rintro ⟨⟨a1, a2⟩, ⟨b1, b2⟩, e⟩
          have hTi : (tri S)[i]? = some (tri S)[i] := List.getElem?_eq_getElem (by omega)
          have hTj : (tri S)[j]? = some (tri S)[j] := List.getElem?_eq_getElem (by omega)
          have hRi : R[i]? = some R[i] := List.getElem?_eq_getElem (by omega)
          have hRj : R[j]? = some R[j] := List.getElem?_eq_getElem (by omega)
          have e : R[i] = R[j] := e
          have b1 : (tri S)[j].1 ≤ x := b1
          have a2 : x < (tri S)[i].2.1 := a2
          exact (hR.ok j _ _ (by omega) hTj hRj).1 ⟨i, _, hij, hTi, by rw [hRi, e], by omega⟩
        exact (hz.filter _).imp_of_mem fun {z w} hz hw h e => h ⟨by simpa using (List.mem_filter.mp hz).2, by simpa using (List.mem_filter.mp hw).2, e⟩
      have := len_of_sub hn (bs := List.range (m + 1)) fun q hq => by
        obtain ⟨z, hz, rfl⟩ := List.mem_map.mp hq
        have := hmax z.2 (List.of_mem_zip (List.mem_filter.mp hz).1).2
        exact List.mem_range.mpr (by omega)
      rw [List.length_range] at this
      exact this
    obtain ⟨j, hj⟩ := List.mem_iff_getElem?.mp hm
    have hjl := (List.getElem?_eq_some_iff.mp hj).1
    rw [hR.len] at hjl
    have hTj : (tri S)[j]? = some (tri S)[j] := List.getElem?_eq_getElem hjl
    generalize (tri S)[j] = t at hTj
    obtain ⟨i, p, hi, rfl, _⟩ := tri_at hTj
    have hpp := hp p (List.mem_of_getElem? hi)
    have dn : m + 1 ≤ cov S p.1 := by
      rw [← zAt_len hR.len, ← List.length_map (f := Prod.snd)]
      have := len_of_sub (List.nodup_range (n := m + 1)) (bs := (zAt (tri S) R p.1).map Prod.snd) fun q hq => by
        have hq := List.mem_range.mp hq
        by_cases e : q = m
        · subst e
          exact List.mem_map.mpr ⟨_, List.mem_filter.mpr ⟨zip_mem hTj hj, decide_eq_true ⟨Int.le_refl _, hpp.1⟩⟩, rfl⟩
        · obtain ⟨k, u, k1, k2, k3, k4⟩ := (hR.ok j _ _ hjl hTj hj).2 q (by omega)
          have := tri_le k1 k2 hTj
          exact List.mem_map.mpr ⟨_, List.mem_filter.mpr ⟨zip_mem k2 k3, decide_eq_true ⟨this, k4⟩⟩, rfl⟩
      rw [List.length_range] at this
      exact this
    have u1 := h1 p.1 hpp.2.1 hpp.2.2
    rcases h2 with w | ⟨x, w⟩
    · omega
    · have := up x
      omega

def p_dealt_rooms : PSp := fun ds M Q _ => match ds with
  | [.lst xs] => ∃ S : List Sp, xs = S.map spD ∧ (∀ p ∈ S, p.1 < p.2) ∧ S.length ≤ 100 ∧ ∀ (R : List Nat) (F : List Int), Dealt (tri S) R → F.length = S.length → At (tri S) R S.length (fun i => F[i]?) → Q (.ow (.lst (F.map D.int))) M
  | _ => False

def lawIs (told due : D) : Bool := match due with
  | .non => PL.isNon told
  | .bl _ => (match told with | .bl _ => deq told due | _ => false)
  | .int _ => (match told with | .int _ => deq told due | .bl _ => deq told due | _ => false)
  | .str _ => (match told with | .str _ => deq told due | _ => false)
  | .tup _ => (match told with | .tup _ => deq told due | _ => false)
  | .lst _ => (match told with | .lst _ => deq told due | _ => false)
  | _ => false
theorem lawIs_self {d : D} (h : cmpOk d = true) : lawIs d d = true := by
  cases d with
  | ref a => cases h
  | ty a => cases h
  | set f n => cases h
  | dic ks ds => cases h
  | non => rfl
  | _ => exact deq_refl h

def p__law_is : PSp := fun ds M Q _ => match ds with
  | [told, due] => (cmpOk told = true ∧ cmpOk due = true) ∧ Q (.va (.bl (lawIs told due))) M
  | _ => False

theorem em0 {a n : Int} (h : 1 ≤ n) : 0 ≤ a % n := Int.emod_nonneg _ (by omega)
theorem em1 {a n : Int} (h : 1 ≤ n) : a % n < n := Int.emod_lt_of_pos _ (by omega)
theorem ed0 {a n : Int} (h : 1 ≤ n) (ha : 0 ≤ a) : 0 ≤ a / n := Int.ediv_nonneg ha (by omega)

def p_rooms_needed : PSp := fun ds M Q _ => match ds with
  | [.lst xs] => ∃ S : List Sp, xs = S.map spD ∧ (∀ p ∈ S, p.1 < p.2) ∧ S.length ≤ 100 ∧ ∀ (R : List Nat) (v : Int), Dealt (tri S) R → ((S = [] ∧ v = 0) ∨ ∃ m ∈ R, v = m + 1 ∧ ∀ r ∈ R, r ≤ m) → Q (.va (.int v)) M
  | _ => False

theorem ok_dealt_rooms (T : TF K mg) : FnOk P w K mg base CX0 1 T.a_dealt_rooms T.x_dealt_rooms ["spans"] (liP K p_dealt_rooms) := by
  refine fn_P T.f_dealt_rooms sc_dealt_rooms (by intro ds M Q E h; unfold p_dealt_rooms at h; split at h <;> first | rfl | exact h.elim) (fun cdv A outer s H E z hz hr => (qs_cons (qs_set (i := 1) sc_dealt_rooms.nd rfl (by first | exact Or.inl rfl | exact Or.inr rfl) (qe_callB (cb_sortD (hu64 hr)) (by rfl) T.m_sorted (by decide +kernel) (qab_cons (qb_of (qe_lc rfl sc_dealt_rooms.nd (own := [("place", 6), ("first", 4), ("end", 5)]) (qi_enumerate (by rfl) T.m_enumerate (qa_cons (qe_var 0) qa_nil)) (blkOk_by (own := [("place", 6), ("first", 4), ("end", 5)]) (N := N_dealt_rooms) (sc := defScope s_dealt_rooms) (by decide +kernel)) (fun _ _ _ _ _ z hz => (qg_seq (n := 2) rfl (qgs_cons (qg_name (i := 6) sc_dealt_rooms.nd rfl (by first | exact Or.inl rfl | exact Or.inr rfl)) (qgs_cons (qg_seq (n := 2) rfl (qgs_cons (qg_name (i := 4) sc_dealt_rooms.nd rfl (by first | exact Or.inl rfl | exact Or.inr rfl)) (qgs_cons (qg_name (i := 5) sc_dealt_rooms.nd rfl (by first | exact Or.inl rfl | exact Or.inr rfl)) qgs_nil))) qgs_nil)))) (fun _ _ _ _ _ => an_t0) (fun _ _ _ _ _ z hz => (qe_tup (qa_cons (qe_var 4) (qa_cons (qe_var 5) (qa_cons (qe_var 6) qa_nil))))))) qab_nil)))
    (qs_cons (qs_set (i := 2) sc_dealt_rooms.nd rfl (by first | exact Or.inl rfl | exact Or.inr rfl) (qe_lst qa_nil))
    (qs_cons (qs_setLc (i := 3) rfl sc_dealt_rooms.nd rfl rfl (sw_true rfl rfl rfl (by decide +kernel)) (own := [("span", 8)]) (qi_seq (h := (qe_var 0))) (blkOk_by (own := [("span", 8)]) (N := N_dealt_rooms) (sc := defScope s_dealt_rooms) (by decide +kernel)) (fun _ _ _ _ _ z hz => (qg_name (i := 8) sc_dealt_rooms.nd rfl (by first | exact Or.inl rfl | exact Or.inr rfl))) (fun _ _ _ _ _ => an_t0) (fun _ _ _ _ _ z hz => qe_int))
    (qs_cons (qs_for PassesOwn.never rfl (qi_seq (h := (qe_var 1))) (qg_seq (n := 3) rfl (qgs_cons (qg_name (i := 4) sc_dealt_rooms.nd rfl (by first | exact Or.inl rfl | exact Or.inr rfl)) (qgs_cons (qg_name (i := 5) sc_dealt_rooms.nd rfl (by first | exact Or.inl rfl | exact Or.inr rfl)) (qgs_cons (qg_name (i := 6) sc_dealt_rooms.nd rfl (by first | exact Or.inl rfl | exact Or.inr rfl)) qgs_nil))))
    (qs_cons (qs_set (i := 7) sc_dealt_rooms.nd rfl (by first | exact Or.inl rfl | exact Or.inr rfl) qe_int)
    (qs_cons (qs_while PassesOwn.never (PW.pt (qw_and (qt_cmp ob_lt (qb_var 7) (qb_of (qe_callB cb_len (by rfl) T.m_len (by decide +kernel) (qab_cons (qb_var 2) qab_nil))) (nomark _)) (qw_and1 (qt_cmp ob_gt (qb_of (qe_ix (qb_var 2) (qb_var 7))) (qb_var 4) (nomark _)))))
    (qs_end (qs_aug (i := 7) sc_dealt_rooms.nd rfl (by first | exact Or.inl rfl | exact Or.inr rfl) qb_int ib_add)))
    (qs_cons (qs_if (qt_cmp (ob_eq (hu64 hr)) (qb_var 7) (qb_of (qe_callB cb_len (by rfl) T.m_len (by decide +kernel) (qab_cons (qb_var 2) qab_nil))) (nomark _))
    (qs_end (qs_append (i := 2) rfl (by first | exact Or.inl rfl | exact Or.inr (Or.inl rfl) | exact Or.inr (Or.inr rfl)) (qe_var 5)))
    (qs_end (qs_setItem (i := 2) rfl (by first | exact Or.inl rfl | exact Or.inr (Or.inl rfl) | exact Or.inr (Or.inr rfl)) (qe_var 5) (qb_var 7))))
    (qs_end (qs_setItem (i := 3) rfl (by first | exact Or.inl rfl | exact Or.inr (Or.inl rfl) | exact Or.inr (Or.inr rfl)) (qe_var 7) (qb_var 6)))))))
    (qs_end (qs_ret (qe_mov 3)))))))) ?_
  intro ds M Q0 h
  unfold p_dealt_rooms at h
  split at h
  · skip
    obtain ⟨S, rfl, hp, hl, h⟩ := h
    refine sSeq_i fun N1 h1 => ?_
    walk_at "pl"
    refine eLc_k fun N hN => ?_
    walk_at "pl"
    refine hN _ _ _ ?_
    clear hN
    refine eLc_inv trD (fun i bs => bs = (enT 0 S).take i) (enumD 0 (S.map spD)) _ _ (fun Q h => h) rfl rfl ?_ ?_
    · rintro i d bs J hd rfl hJ
      obtain ⟨x, hx, rfl⟩ := enumD_get hd
      obtain ⟨⟨a, b⟩, hi, rfl⟩ := map_get hx
      have hJ := hJ _ rfl
      rw [spD_eq]
      walk_at "gn"
      walk_at "pl"
      rw [List.take_add_one, enT_get hi, List.map_append, Nat.zero_add] at hJ
      refine ⟨by rw [List.length_take, enT_len]; omega, hJ⟩
    rintro bs rfl
    rw [enumD_len, List.length_map, ← enT_len (k := 0) (S := S), List.take_length]
    walk_at "pl"
    refine ⟨sortOk_tr, h1 _ _ ?_⟩
    clear h1
    rw [sort_tr]
    rw [show (enT 0 S).mergeSort le3 = tri S from rfl]
    refine sSeq_i fun N1 h1 => ?_
    walk_at "pl"
    refine h1 _ _ ?_
    clear h1
    refine sSeq_i fun N1 h1 => ?_
    walk_at "pl"
    refine eLc_k fun N hN => ?_
    walk_at "pl"
    refine hN _ _ _ ?_
    clear hN
    refine eLc_inv D.int (fun i bs => bs = List.replicate i 0) (S.map spD) _ _ (fun Q h => h) rfl rfl ?_ ?_
    · rintro i d bs J hd rfl hJ
      have hil := (List.getElem?_eq_some_iff.mp hd).1
      rw [List.length_map] at hil
      have hJ := hJ _ rfl
      walk_at "gn"
      walk_at "pl"
      rw [List.replicate_succ', List.map_append] at hJ
      refine ⟨by rw [List.length_replicate]; omega, hJ⟩
    rintro bs rfl
    rw [List.length_map]
    refine h1 _ _ ?_
    clear h1
    refine sSeq_i fun N1 h1 => ?_
    refine sFor_k fun N hN => ?_
    walk_at "pl"
    refine hN _ _ _ ?_
    clear hN
    have hTl := tri_len (S := S)
    refine loop_i (fun i ρ M1 => M1 = M ∧ i ≤ S.length ∧ ∃ (R : List Nat) (ends F : List Int) (b4 b5 b6 b7 : Sl), R.length = i ∧ DealtN (tri S) R i ∧ EndsOk (tri S) R i ends ∧ F.length = S.length ∧ At (tri S) R i (fun i => F[i]?) ∧ ρ = [.va (.lst (S.map spD)), .va (.lst ((tri S).map trD)), .ow (.lst (ends.map D.int)), .ow (.lst (F.map D.int)), b4, b5, b6, b7, .un])
      ⟨rfl, Nat.zero_le _, [], [], _, _, _, _, _, rfl, fun j t r w => (by omega), ⟨fun r e w => (by simp at w), fun r a _ ⟨k, t, w, _⟩ => (by omega), Nat.le_refl _⟩, List.length_replicate, fun j t r w => (by omega), rfl⟩ ?_ ?_
    · rintro J hJ i dd ρ M1 hd ⟨rfl, hi, R, ends, F, b4, b5, b6, b7, g1, g2, g3, g4, g5, rfl⟩
      obtain ⟨t, ht, rfl⟩ := map_get hd
      obtain ⟨pl, p, hpl, rfl, hpn⟩ := tri_at ht
      obtain ⟨a, b⟩ := p
      have hab : a < b := hp _ (List.mem_of_getElem? hpl)
      have hilt : i < S.length := by rw [← hTl]; exact (List.getElem?_eq_some_iff.mp ht).1
      rw [trD_eq]
      walk_at "gn"
      refine sSeq_i fun N2 h2 => ?_
      walk_at "pl"
      refine h2 _ _ ?_
      clear h2
      refine sSeq_i fun N2 h2 => ?_
      refine sWhile_k (fun m ρ M2 => M2 = M1 ∧ ∃ (r : Nat), m = ends.length - r ∧ r ≤ ends.length ∧ (∀ q < r, Taken (tri S) R i q a) ∧ ρ = [.va (.lst (S.map spD)), .va (.lst ((tri S).map trD)), .ow (.lst (ends.map D.int)), .ow (.lst (F.map D.int)), .va (.int a), .va (.int b), .va (.int (pl : Int)), .va (.int (r : Int)), .un]) _ ⟨rfl, 0, rfl, Nat.zero_le _, fun q w => by omega, rfl⟩ ?_
      rintro m JJ hJJ ρ M2 ⟨rfl, r, rfl, hr, hq, rfl⟩ NN hNN
      have done : ¬ Taken (tri S) R i r a → N2 [.va (.lst (S.map spD)), .va (.lst ((tri S).map trD)), .ow (.lst (ends.map D.int)), .ow (.lst (F.map D.int)), .va (.int a), .va (.int b), .va (.int (pl : Int)), .va (.int (r : Int)), .un] M2 := fun hn => by
        have fin : ∀ ends' : List Int, EndsOk (tri S) (R ++ [r]) (i + 1) ends' → J (i + 1) [.va (.lst (S.map spD)), .va (.lst ((tri S).map trD)), .ow (.lst (ends'.map D.int)), .ow (.lst ((F.set pl (r : Int)).map D.int)), .va (.int a), .va (.int b), .va (.int (pl : Int)), .va (.int (r : Int)), .un] M2 := fun ends' he => by
          refine hJ _ _ _ ⟨rfl, hilt, R ++ [r], ends', _, _, _, _, _, by rw [List.length_append, g1]; rfl, g2.snoc g1 ht hn hq, he, by rw [List.length_set]; exact g4, fun j u q hj hu hq' => ?_, rfl⟩
          by_cases e : j = i
          · subst e
            rw [ht] at hu
            cases hu
            rw [List.getElem?_append_right (by omega), g1, Nat.sub_self] at hq'
            cases hq'
            show (F.set pl (r : Int))[(pl : Int).toNat]? = some (r : Int)
            rw [Int.toNat_natCast, List.getElem?_set_self (by omega)]
          · rw [List.getElem?_append_left (by omega)] at hq'
            have hne : u.2.2.toNat ≠ pl := fun w => e (tri_inj hu ht (by rw [w]; show pl = (pl : Int).toNat; omega))
            show (F.set pl (r : Int))[u.2.2.toNat]? = some (q : Int)
            rw [List.getElem?_set_ne (Ne.symm hne)]
            exact g5 j u q (by omega) hu hq'
        refine h2 _ _ ?_
        clear h2
        refine sSeq_i fun N3 h3 => ?_
        walk_at "pl"
        have hel := g3.len
        by_cases c : r = ends.length
        · rw [if_pos (by omega)]
          refine ⟨by omega, h3 _ _ ?_⟩
          clear h3
          walk_at "pl"
          have hx : ixN F.length (pl : Int) = some pl := by
            unfold ixN
            rw [if_pos (by omega), if_pos (by omega), Int.toNat_natCast]
          have := fin (ends ++ [b]) (by subst c; exact g3.new g1 ht)
          rw [List.map_append, List.map_set] at this
          simp only [↓sSeq, ↓sAsg, ↓sRet, ↓sRetN, ↓sIf, ↓sDrop, ↓sPar, ↓sAug, ↓sNext, ↓sTgt, ↓sApp, ↓sExt, ↓sPop, ↓sSet, ↓sBreak, ↓sCont, ↓eVar, ↓bVar, ↓eMov, ↓bE, ↓eBin, ↓tE, ↓eChain_eq, chS_bl, chS_true, chS_false, wipeE_nil, wipeE_cons, ↓eUn, ↓qAnd, ↓qOr, ↓qNot, ↓eAnd_eq, ↓eOr_eq, ↓sNever, ↓eNot, ↓eIf, ↓aNil, ↓aCons, ↓aConsB, ↓eTup, ↓eLst, ↓iSeq, ↓iR1, ↓iR2, ↓iEnum1, ↓iRev1, ↓cSortD,  ↓gN, ↓gsNil, ↓gsCons, ↓gT, ↓eCall, ↓eCallX, ↓sRaise, ↓sTry, ↓dI2, ↓dAdd, ↓dEq, ↓dNe, ↓dIsN, ↓dNotN, ↓dIx, ↓oNone, ↓oSome, ↓eSl, ↓eB, ↓cLen, ↓cInt, ↓cAbs, ↓cMax2, ↓cMin2, ↓cDivmod, ↓cList, ↓cTuple, ↓cSum, ↓cMax, ↓cMin, ↓cAll, ↓cAny, ↓cSorted, ↓dIn, ↓dInX, ↓eM, ↓mIndex, ↓tyM, ↓gSq, ↓cSet, natc0, natc1, natc2, List.findIdx?_cons, List.findIdx?_nil, intsOf_ints, boolsOf_bls, plAnyI, plAnyR, ↓cGcd, ↓cLcm, ↓eRange, ↓eIsi, ↓Sl.val, ↓Ow.toD, ↓stE, ↓tYes', ↓eIxM, ↓sSetM, ↓PL.isNon, ↓eC, ↓bC, ↓dSub, ↓dMul, ↓dDiv, ↓dMod, ↓dPow, ↓dLt, ↓dLe, ↓dGt, ↓dGe, ↓dAddI, ↓dDivS, ↓dEqI, ↓dNeI,
  List.getElem?_cons_zero, List.getElem?_cons_succ, List.set_cons_zero, List.set_cons_succ, List.map_cons, List.map_nil, List.length_cons, List.length_nil, List.nil_append, List.cons_append, List.replicate_succ, List.replicate_zero, List.append_nil, atI0, atI1, atI2, atI3, atI4,
  cmpOk_int, cmpOk_bl, cmpOk_non, deq_int, deq_bl, true_and, and_true, Nat.reduceAdd, Nat.reduceSub, Nat.reduceLeDiff, Nat.reduceLT, Bool.not_eq_true', Bool.false_eq_true, if_false, if_true, decide_eq_true_eq, decide_eq_false_iff_not, Nat.zero_add, Nat.sub_zero, Nat.add_zero, Nat.sub_self, isi_non_bool, isi_non_int, isi_non_str, isi_non_list, isi_non_tuple, isi_bl_bool, isi_bl_int, isi_bl_str, isi_bl_list, isi_bl_tuple, isi_int_bool, isi_int_int, isi_int_str, isi_int_list, isi_int_tuple, isi_str_bool, isi_str_int, isi_str_str, isi_str_list, isi_str_tuple, isi_lst_bool, isi_lst_int, isi_lst_str, isi_lst_list, isi_lst_tuple, isi_tup_bool, isi_tup_int, isi_tup_str, isi_tup_list, isi_tup_tuple, ixN31, ixN32, List.length_map, List.length_set, Int.reduceToNat, Int.reducePow, Int.reduceNeg, Int.reduceAdd, Int.reduceSub, Int.reduceMul, Int.reduceLT, Int.reduceLE, Int.reduceEq, Nat.reduceEqDiff, reduceCtorEq, List.mem_singleton, eq_self, not_true_eq_false, not_false_eq_true, or_true, true_or, cmpOk_lstA, cmpOk_tupA, ckA_lst, ckA_tup, ckAl_nil, ckAl_cons, ckAl_ints, ckAl_rangeL, ck_int, ck_bl, ck_non, ck_strI, cmpOk_str, deq_str, deq_tup, deq_lst, deqA_nil, deqA_cons, deqA_ints, Bool.and_true, Bool.true_and, Bool.and_false, Bool.false_and, decide_true, decide_false, Bool.not_true, Bool.not_false, hx]
          exact this
        · rw [if_neg (by omega)]
          have hrl : r < ends.length := by omega
          have hx0 : ixN ends.length (r : Int) = some r := by
            unfold ixN
            rw [if_pos (by omega), if_pos (by omega), Int.toNat_natCast]
          rw [hx0]
          refine h3 _ _ ?_
          clear h3
          walk_at "pl"
          have hx : ixN F.length (pl : Int) = some pl := by
            unfold ixN
            rw [if_pos (by omega), if_pos (by omega), Int.toNat_natCast]
          have he : ends[r]? = some ends[r] := List.getElem?_eq_getElem hrl
          have hle : ends[r] ≤ a := by
            rcases Int.lt_or_le a ends[r] with w | w
            · exact absurd ((g3.at_ r _ he a).mpr w) hn
            · exact w
          have := fin (ends.set r b) (g3.put g1 ht he hle hab)
          rw [List.map_set, List.map_set] at this
          simp only [↓sSeq, ↓sAsg, ↓sRet, ↓sRetN, ↓sIf, ↓sDrop, ↓sPar, ↓sAug, ↓sNext, ↓sTgt, ↓sApp, ↓sExt, ↓sPop, ↓sSet, ↓sBreak, ↓sCont, ↓eVar, ↓bVar, ↓eMov, ↓bE, ↓eBin, ↓tE, ↓eChain_eq, chS_bl, chS_true, chS_false, wipeE_nil, wipeE_cons, ↓eUn, ↓qAnd, ↓qOr, ↓qNot, ↓eAnd_eq, ↓eOr_eq, ↓sNever, ↓eNot, ↓eIf, ↓aNil, ↓aCons, ↓aConsB, ↓eTup, ↓eLst, ↓iSeq, ↓iR1, ↓iR2, ↓iEnum1, ↓iRev1, ↓cSortD,  ↓gN, ↓gsNil, ↓gsCons, ↓gT, ↓eCall, ↓eCallX, ↓sRaise, ↓sTry, ↓dI2, ↓dAdd, ↓dEq, ↓dNe, ↓dIsN, ↓dNotN, ↓dIx, ↓oNone, ↓oSome, ↓eSl, ↓eB, ↓cLen, ↓cInt, ↓cAbs, ↓cMax2, ↓cMin2, ↓cDivmod, ↓cList, ↓cTuple, ↓cSum, ↓cMax, ↓cMin, ↓cAll, ↓cAny, ↓cSorted, ↓dIn, ↓dInX, ↓eM, ↓mIndex, ↓tyM, ↓gSq, ↓cSet, natc0, natc1, natc2, List.findIdx?_cons, List.findIdx?_nil, intsOf_ints, boolsOf_bls, plAnyI, plAnyR, ↓cGcd, ↓cLcm, ↓eRange, ↓eIsi, ↓Sl.val, ↓Ow.toD, ↓stE, ↓tYes', ↓eIxM, ↓sSetM, ↓PL.isNon, ↓eC, ↓bC, ↓dSub, ↓dMul, ↓dDiv, ↓dMod, ↓dPow, ↓dLt, ↓dLe, ↓dGt, ↓dGe, ↓dAddI, ↓dDivS, ↓dEqI, ↓dNeI,
  List.getElem?_cons_zero, List.getElem?_cons_succ, List.set_cons_zero, List.set_cons_succ, List.map_cons, List.map_nil, List.length_cons, List.length_nil, List.nil_append, List.cons_append, List.replicate_succ, List.replicate_zero, List.append_nil, atI0, atI1, atI2, atI3, atI4,
  cmpOk_int, cmpOk_bl, cmpOk_non, deq_int, deq_bl, true_and, and_true, Nat.reduceAdd, Nat.reduceSub, Nat.reduceLeDiff, Nat.reduceLT, Bool.not_eq_true', Bool.false_eq_true, if_false, if_true, decide_eq_true_eq, decide_eq_false_iff_not, Nat.zero_add, Nat.sub_zero, Nat.add_zero, Nat.sub_self, isi_non_bool, isi_non_int, isi_non_str, isi_non_list, isi_non_tuple, isi_bl_bool, isi_bl_int, isi_bl_str, isi_bl_list, isi_bl_tuple, isi_int_bool, isi_int_int, isi_int_str, isi_int_list, isi_int_tuple, isi_str_bool, isi_str_int, isi_str_str, isi_str_list, isi_str_tuple, isi_lst_bool, isi_lst_int, isi_lst_str, isi_lst_list, isi_lst_tuple, isi_tup_bool, isi_tup_int, isi_tup_str, isi_tup_list, isi_tup_tuple, ixN31, ixN32, List.length_map, List.length_set, Int.reduceToNat, Int.reducePow, Int.reduceNeg, Int.reduceAdd, Int.reduceSub, Int.reduceMul, Int.reduceLT, Int.reduceLE, Int.reduceEq, Nat.reduceEqDiff, reduceCtorEq, List.mem_singleton, eq_self, not_true_eq_false, not_false_eq_true, or_true, true_or, cmpOk_lstA, cmpOk_tupA, ckA_lst, ckA_tup, ckAl_nil, ckAl_cons, ckAl_ints, ckAl_rangeL, ck_int, ck_bl, ck_non, ck_strI, cmpOk_str, deq_str, deq_tup, deq_lst, deqA_nil, deqA_cons, deqA_ints, Bool.and_true, Bool.true_and, Bool.and_false, Bool.false_and, decide_true, decide_false, Bool.not_true, Bool.not_false, hx]
          exact this
      walk_at "pl"
      by_cases c : r < ends.length
      · rw [if_pos (by omega)]
        have he : ends[r]? = some ends[r] := List.getElem?_eq_getElem c
        rw [atI_nn (d := D.int ends[r]) (by omega) (by rw [List.getElem?_map, Int.toNat_natCast, he]; rfl)]
        refine hNN _ _ _ ?_
        clear hNN
        by_cases c2 : a < ends[r]
        · rw [if_pos (decide_eq_true c2)]
          walk_at "pl"
          refine hJJ _ _ _ ?_ ⟨rfl, r + 1, rfl, c, fun q hq' => ?_, by rw [show ((r + 1 : Nat) : Int) = (r : Int) + 1 by omega]⟩
          · omega
          · by_cases e : q = r
            · subst e
              exact (g3.at_ q _ he a).mpr c2
            · exact hq q (by omega)
        · rw [if_neg (by simpa using c2)]
          exact done fun w => c2 ((g3.at_ r _ he a).mp w)
      · rw [if_neg (by omega)]
        refine hNN _ _ _ ?_
        rw [if_neg (by decide)]
        exact done (g3.no _ _ (by omega))
    · rintro ρ M1 ⟨rfl, hi, R, ends, F, b4, b5, b6, b7, g1, g2, g3, g4, g5, rfl⟩
      rw [List.length_map, hTl] at g1 g2 g5
      refine h1 _ _ ?_
      walk_at "pl"
      exact h R F ⟨by rw [g1, hTl], by rw [hTl]; exact g2⟩ g4 g5
  · exact h.elim

theorem ok__law_is (T : TF K mg) : FnOk P w K mg base CX0 1 T.a__law_is T.x__law_is ["told", "due"] (liP K p__law_is) := by
  refine fn_P T.f__law_is sc__law_is (by intro ds M Q E h; unfold p__law_is at h; split at h <;> first | rfl | exact h.elim) (fun cdv A outer s H E z hz hr => (qs_cons (qs_if (qt_cmp ob_isN (qb_var 1) qb_non (nomark _))
    (qs_end (qs_ret (qe_cmp ob_isN (qb_var 0) qb_non (nomark _))))
    qs_nil)
    (qs_cons (qs_if (qt_val (qe_isi (N := "bool") (by rfl) T.m_isinstance (by rfl) T.m_bool (by decide +kernel) (qb_var 1)))
    (qs_end (qs_ret (qe_and (qe_isi (N := "bool") (by rfl) T.m_isinstance (by rfl) T.m_bool (by decide +kernel) (qb_var 0)) (qe_one (qe_cmp (ob_eq (hu64 hr)) (qb_var 0) (qb_var 1) (nomark _))))))
    qs_nil)
    (qs_cons (qs_if (qt_val (qe_isi (N := "int") (by rfl) T.m_isinstance (by rfl) T.m_int (by decide +kernel) (qb_var 1)))
    (qs_end (qs_ret (qe_and (qe_isi (N := "int") (by rfl) T.m_isinstance (by rfl) T.m_int (by decide +kernel) (qb_var 0)) (qe_one (qe_cmp (ob_eq (hu64 hr)) (qb_var 0) (qb_var 1) (nomark _))))))
    qs_nil)
    (qs_cons (qs_if (qt_val (qe_isi (N := "str") (by rfl) T.m_isinstance (by rfl) T.m_str (by decide +kernel) (qb_var 1)))
    (qs_end (qs_ret (qe_and (qe_isi (N := "str") (by rfl) T.m_isinstance (by rfl) T.m_str (by decide +kernel) (qb_var 0)) (qe_one (qe_cmp (ob_eq (hu64 hr)) (qb_var 0) (qb_var 1) (nomark _))))))
    qs_nil)
    (qs_cons (qs_if (qt_val (qe_isi (N := "tuple") (by rfl) T.m_isinstance (by rfl) T.m_tuple (by decide +kernel) (qb_var 1)))
    (qs_end (qs_ret (qe_and (qe_isi (N := "tuple") (by rfl) T.m_isinstance (by rfl) T.m_tuple (by decide +kernel) (qb_var 0)) (qe_one (qe_cmp (ob_eq (hu64 hr)) (qb_var 0) (qb_var 1) (nomark _))))))
    qs_nil)
    (qs_end (qs_ret (qe_and (qe_isi (N := "list") (by rfl) T.m_isinstance (by rfl) T.m_list (by decide +kernel) (qb_var 0)) (qe_one (qe_cmp (ob_eq (hu64 hr)) (qb_var 0) (qb_var 1) (nomark _)))))))))))) ?_
  intro ds M Q0 h
  unfold p__law_is at h
  split at h
  · rename_i told due
    obtain ⟨⟨h1, h2⟩, q⟩ := h
    simp only [↓sSeq, ↓sAsg, ↓sRet, ↓sRetN, ↓sIf, ↓sDrop, ↓sPar, ↓sAug, ↓sNext, ↓sTgt, ↓sApp, ↓sExt, ↓sPop, ↓sSet, ↓sBreak, ↓sCont, ↓eVar, ↓bVar, ↓eMov, ↓bE, ↓eBin, ↓tE, ↓eChain_eq, chS_bl, chS_true, chS_false, wipeE_nil, wipeE_cons, ↓eUn, ↓qAnd, ↓qOr, ↓qNot, ↓eAnd_eq, ↓eOr_eq, ↓sNever, ↓eNot, ↓eIf, ↓aNil, ↓aCons, ↓aConsB, ↓eTup, ↓eLst, ↓iSeq, ↓iR1, ↓iR2, ↓iEnum1, ↓iRev1, ↓cSortD,  ↓gN, ↓gsNil, ↓gsCons, ↓gT, ↓eCall, ↓eCallX, ↓sRaise, ↓sTry, ↓dI2, ↓dAdd, ↓dEq, ↓dNe, ↓dIsN, ↓dNotN, ↓dIx, ↓oNone, ↓oSome, ↓eSl, ↓eB, ↓cLen, ↓cInt, ↓cAbs, ↓cMax2, ↓cMin2, ↓cDivmod, ↓cList, ↓cTuple, ↓cSum, ↓cMax, ↓cMin, ↓cAll, ↓cAny, ↓cSorted, ↓dIn, ↓dInX, ↓eM, ↓mIndex, ↓tyM, ↓gSq, ↓cSet, natc0, natc1, natc2, List.findIdx?_cons, List.findIdx?_nil, intsOf_ints, boolsOf_bls, plAnyI, plAnyR, ↓cGcd, ↓cLcm, ↓eRange, ↓eIsi, ↓Sl.val, ↓Ow.toD, ↓stE, ↓tYes', ↓eIxM, ↓sSetM, ↓PL.isNon, ↓eC, ↓bC, ↓dSub, ↓dMul, ↓dDiv, ↓dMod, ↓dPow, ↓dLt, ↓dLe, ↓dGt, ↓dGe, ↓dAddI, ↓dDivS, ↓dEqI, ↓dNeI,
  List.getElem?_cons_zero, List.getElem?_cons_succ, List.set_cons_zero, List.set_cons_succ, List.map_cons, List.map_nil, List.length_cons, List.length_nil, List.nil_append, List.cons_append, List.replicate_succ, List.replicate_zero, List.append_nil, atI0, atI1, atI2, atI3, atI4,
  cmpOk_int, cmpOk_bl, cmpOk_non, deq_int, deq_bl, true_and, and_true, Nat.reduceAdd, Nat.reduceSub, Nat.reduceLeDiff, Nat.reduceLT, Bool.not_eq_true', Bool.false_eq_true, if_false, if_true, decide_eq_true_eq, decide_eq_false_iff_not, Nat.zero_add, Nat.sub_zero, Nat.add_zero, Nat.sub_self, isi_non_bool, isi_non_int, isi_non_str, isi_non_list, isi_non_tuple, isi_bl_bool, isi_bl_int, isi_bl_str, isi_bl_list, isi_bl_tuple, isi_int_bool, isi_int_int, isi_int_str, isi_int_list, isi_int_tuple, isi_str_bool, isi_str_int, isi_str_str, isi_str_list, isi_str_tuple, isi_lst_bool, isi_lst_int, isi_lst_str, isi_lst_list, isi_lst_tuple, isi_tup_bool, isi_tup_int, isi_tup_str, isi_tup_list, isi_tup_tuple, ixN31, ixN32, List.length_map, List.length_set, Int.reduceToNat, Int.reducePow, Int.reduceNeg, Int.reduceAdd, Int.reduceSub, Int.reduceMul, Int.reduceLT, Int.reduceLE, Int.reduceEq, Nat.reduceEqDiff, reduceCtorEq, List.mem_singleton, eq_self, not_true_eq_false, not_false_eq_true, or_true, true_or, cmpOk_lstA, cmpOk_tupA, ckA_lst, ckA_tup, ckAl_nil, ckAl_cons, ckAl_ints, ckAl_rangeL, ck_int, ck_bl, ck_non, ck_strI, cmpOk_str, deq_str, deq_tup, deq_lst, deqA_nil, deqA_cons, deqA_ints, Bool.and_true, Bool.true_and, Bool.and_false, Bool.false_and, decide_true, decide_false, Bool.not_true, Bool.not_false, isInst_bool h1, isInst_int h1, isInst_str h1, isInst_tuple h1, isInst_list h1, isInst_bool h2, isInst_int h2, isInst_str h2, isInst_tuple h2, isInst_list h2]
    unfold lawIs at q
    cases due with
    | ref a => cases h2
    | ty a => cases h2
    | set f n => cases h2
    | dic ks ds => cases h2
    | non => exact q
    | _ =>
      dsimp only at q ⊢
      rw [if_neg Bool.false_ne_true]
      repeat (first | rw [if_pos rfl] | rw [if_neg Bool.false_ne_true])
      cases told <;> dsimp only at q ⊢ <;> first | exact q | exact ⟨⟨h1, h2⟩, q⟩
  · exact h.elim

theorem ok__law_draw (T : TF K mg) : FnOk P w K mg base CX0 1 T.a__law_draw T.x__law_draw ["tape", "many"] (liP K pDraw) := by
  refine fn_draw T.f__law_draw sc__law_draw rfl (fun cdv A outer s H E z hz hr => (qs_cons (qs_if (qt_cmp ob_lt (qb_of (qe_ixM (qb_var 0) qb_int)) (qb_var 1) (nomark _))
    (qs_cons (qs_set (i := 2) sc__law_draw.nd rfl (by first | exact Or.inl rfl | exact Or.inr rfl) (qe_ixM (qb_var 0) qb_int))
    (qs_cons (qs_set (i := 3) sc__law_draw.nd rfl (by first | exact Or.inl rfl | exact Or.inr rfl) (qe_ixM (qb_var 0) qb_int))
    (qs_cons (qs_set (i := 4) sc__law_draw.nd rfl (by first | exact Or.inl rfl | exact Or.inr rfl) qe_int)
    (qs_cons (qs_if (qt_cmp ob_lt (qb_var 3) (qb_of (qe_callB cb_len (by rfl) T.m_len (by decide +kernel) (qab_cons (qb_var 2) qab_nil))) (nomark _))
    (qs_end (qs_set (i := 4) sc__law_draw.nd rfl (by first | exact Or.inl rfl | exact Or.inr rfl) (qe_ix (qb_var 2) (qb_var 3))))
    qs_nil)
    (qs_cons (qs_if (qt_cmp ob_lt (qb_var 4) qb_int (nomark _))
    (qs_end (qs_set (i := 4) sc__law_draw.nd rfl (by first | exact Or.inl rfl | exact Or.inr rfl) (qe_bin ob_sub (qb_of (qe_bin ob_mul (qb_of (qe_un ub_neg qb_int)) (qb_var 4))) qb_int)))
    qs_nil)
    (qs_cons (qs_if (qt_cmp ob_lt (qb_var 4) (qb_of (qe_bin ob_pow qb_int qb_int)) (nomark _))
    (qs_cons (qs_set (i := 4) sc__law_draw.nd rfl (by first | exact Or.inl rfl | exact Or.inr rfl) (qe_bin ob_mod (qb_of (qe_callTy cb_int (by rfl) T.m_int (by decide +kernel) (qab_cons (qb_of (qe_bin ob_add (qb_of (qe_bin ob_add (qb_of (qe_bin ob_mul (qb_var 4) qb_int)) (qb_of (qe_bin ob_mul (qb_var 3) qb_int)))) qb_int)) qab_nil))) qb_int))
    (qs_end (qs_set (i := 4) sc__law_draw.nd rfl (by first | exact Or.inl rfl | exact Or.inr rfl) (qe_bin ob_mod (qb_of (qe_callTy cb_int (by rfl) T.m_int (by decide +kernel) (qab_cons (qb_of (qe_bin ob_add (qb_of (qe_bin ob_add (qb_of (qe_bin ob_mul (qb_var 4) qb_int)) (qb_of (qe_bin ob_mul (qb_var 3) qb_int)))) qb_int)) qab_nil))) qb_int))))
    qs_nil)
    (qs_cons (qs_setM (qe_bin ob_add (qb_var 3) qb_int) (qb_var 0) qb_int)
    (qs_end (qs_setM (qe_var 4) (qb_var 0) qb_int)))))))))
    qs_nil)
    (qs_cons (qs_set (i := 5) sc__law_draw.nd rfl (by first | exact Or.inl rfl | exact Or.inr rfl) (qe_bin ob_mod (qb_of (qe_callTy cb_int (by rfl) T.m_int (by decide +kernel) (qab_cons (qb_of (qe_ixM (qb_var 0) qb_int)) qab_nil))) (qb_var 1)))
    (qs_cons (qs_setM (qe_bin ob_div (qb_of (qe_ixM (qb_var 0) qb_int)) (qb_var 1)) (qb_var 0) qb_int)
    (qs_end (qs_ret (qe_var 5))))))) ?_
  intro T n M ns c x Q0 hM hc hx hn hn2 hQ
  have hL : ∀ o, (mput M T o).lookup T = some o := fun o => lookup_mput ⟨_, lookup_mem hM, rfl⟩
  by_cases hb : c < (ns.length : Int)
  · obtain ⟨v, hv⟩ : ∃ v, atI (ns.map D.int) c = some (.int v) := by
      have h2 : c.toNat < ns.length := by omega
      refine ⟨ns[c.toNat], ?_⟩
      rw [atI_nn hc]
      simp [h2]
    simp only [↓sSeq, ↓sAsg, ↓sRet, ↓sRetN, ↓sIf, ↓sDrop, ↓sPar, ↓sAug, ↓sNext, ↓sTgt, ↓sApp, ↓sExt, ↓sPop, ↓sSet, ↓sBreak, ↓sCont, ↓eVar, ↓bVar, ↓eMov, ↓bE, ↓eBin, ↓tE, ↓eChain_eq, chS_bl, chS_true, chS_false, wipeE_nil, wipeE_cons, ↓eUn, ↓qAnd, ↓qOr, ↓qNot, ↓eAnd_eq, ↓eOr_eq, ↓sNever, ↓eNot, ↓eIf, ↓aNil, ↓aCons, ↓aConsB, ↓eTup, ↓eLst, ↓iSeq, ↓iR1, ↓iR2, ↓iEnum1, ↓iRev1, ↓cSortD,  ↓gN, ↓gsNil, ↓gsCons, ↓gT, ↓eCall, ↓eCallX, ↓sRaise, ↓sTry, ↓dI2, ↓dAdd, ↓dEq, ↓dNe, ↓dIsN, ↓dNotN, ↓dIx, ↓oNone, ↓oSome, ↓eSl, ↓eB, ↓cLen, ↓cInt, ↓cAbs, ↓cMax2, ↓cMin2, ↓cDivmod, ↓cList, ↓cTuple, ↓cSum, ↓cMax, ↓cMin, ↓cAll, ↓cAny, ↓cSorted, ↓dIn, ↓dInX, ↓eM, ↓mIndex, ↓tyM, ↓gSq, ↓cSet, natc0, natc1, natc2, List.findIdx?_cons, List.findIdx?_nil, intsOf_ints, boolsOf_bls, plAnyI, plAnyR, ↓cGcd, ↓cLcm, ↓eRange, ↓eIsi, ↓Sl.val, ↓Ow.toD, ↓stE, ↓tYes', ↓eIxM, ↓sSetM, ↓PL.isNon, ↓eC, ↓bC, ↓dSub, ↓dMul, ↓dDiv, ↓dMod, ↓dPow, ↓dLt, ↓dLe, ↓dGt, ↓dGe, ↓dAddI, ↓dDivS, ↓dEqI, ↓dNeI,
  List.getElem?_cons_zero, List.getElem?_cons_succ, List.set_cons_zero, List.set_cons_succ, List.map_cons, List.map_nil, List.length_cons, List.length_nil, List.nil_append, List.cons_append, List.replicate_succ, List.replicate_zero, List.append_nil, atI0, atI1, atI2, atI3, atI4,
  cmpOk_int, cmpOk_bl, cmpOk_non, deq_int, deq_bl, true_and, and_true, Nat.reduceAdd, Nat.reduceSub, Nat.reduceLeDiff, Nat.reduceLT, Bool.not_eq_true', Bool.false_eq_true, if_false, if_true, decide_eq_true_eq, decide_eq_false_iff_not, Nat.zero_add, Nat.sub_zero, Nat.add_zero, Nat.sub_self, isi_non_bool, isi_non_int, isi_non_str, isi_non_list, isi_non_tuple, isi_bl_bool, isi_bl_int, isi_bl_str, isi_bl_list, isi_bl_tuple, isi_int_bool, isi_int_int, isi_int_str, isi_int_list, isi_int_tuple, isi_str_bool, isi_str_int, isi_str_str, isi_str_list, isi_str_tuple, isi_lst_bool, isi_lst_int, isi_lst_str, isi_lst_list, isi_lst_tuple, isi_tup_bool, isi_tup_int, isi_tup_str, isi_tup_list, isi_tup_tuple, ixN31, ixN32, List.length_map, List.length_set, Int.reduceToNat, Int.reducePow, Int.reduceNeg, Int.reduceAdd, Int.reduceSub, Int.reduceMul, Int.reduceLT, Int.reduceLE, Int.reduceEq, Nat.reduceEqDiff, reduceCtorEq, List.mem_singleton, eq_self, not_true_eq_false, not_false_eq_true, or_true, true_or, cmpOk_lstA, cmpOk_tupA, ckA_lst, ckA_tup, ckAl_nil, ckAl_cons, ckAl_ints, ckAl_rangeL, ck_int, ck_bl, ck_non, ck_strI, cmpOk_str, deq_str, deq_tup, deq_lst, deqA_nil, deqA_cons, deqA_ints, Bool.and_true, Bool.true_and, Bool.and_false, Bool.false_and, decide_true, decide_false, Bool.not_true, Bool.not_false, hM, hL, mput_mput, hv]
    walk_at "sp"
    all_goals first
      | walk_at "cs"
      | exact hQ _ _ _ (em0 hn) (em1 hn) (by omega) (ed0 hn (by omega))
  · simp only [↓sSeq, ↓sAsg, ↓sRet, ↓sRetN, ↓sIf, ↓sDrop, ↓sPar, ↓sAug, ↓sNext, ↓sTgt, ↓sApp, ↓sExt, ↓sPop, ↓sSet, ↓sBreak, ↓sCont, ↓eVar, ↓bVar, ↓eMov, ↓bE, ↓eBin, ↓tE, ↓eChain_eq, chS_bl, chS_true, chS_false, wipeE_nil, wipeE_cons, ↓eUn, ↓qAnd, ↓qOr, ↓qNot, ↓eAnd_eq, ↓eOr_eq, ↓sNever, ↓eNot, ↓eIf, ↓aNil, ↓aCons, ↓aConsB, ↓eTup, ↓eLst, ↓iSeq, ↓iR1, ↓iR2, ↓iEnum1, ↓iRev1, ↓cSortD,  ↓gN, ↓gsNil, ↓gsCons, ↓gT, ↓eCall, ↓eCallX, ↓sRaise, ↓sTry, ↓dI2, ↓dAdd, ↓dEq, ↓dNe, ↓dIsN, ↓dNotN, ↓dIx, ↓oNone, ↓oSome, ↓eSl, ↓eB, ↓cLen, ↓cInt, ↓cAbs, ↓cMax2, ↓cMin2, ↓cDivmod, ↓cList, ↓cTuple, ↓cSum, ↓cMax, ↓cMin, ↓cAll, ↓cAny, ↓cSorted, ↓dIn, ↓dInX, ↓eM, ↓mIndex, ↓tyM, ↓gSq, ↓cSet, natc0, natc1, natc2, List.findIdx?_cons, List.findIdx?_nil, intsOf_ints, boolsOf_bls, plAnyI, plAnyR, ↓cGcd, ↓cLcm, ↓eRange, ↓eIsi, ↓Sl.val, ↓Ow.toD, ↓stE, ↓tYes', ↓eIxM, ↓sSetM, ↓PL.isNon, ↓eC, ↓bC, ↓dSub, ↓dMul, ↓dDiv, ↓dMod, ↓dPow, ↓dLt, ↓dLe, ↓dGt, ↓dGe, ↓dAddI, ↓dDivS, ↓dEqI, ↓dNeI,
  List.getElem?_cons_zero, List.getElem?_cons_succ, List.set_cons_zero, List.set_cons_succ, List.map_cons, List.map_nil, List.length_cons, List.length_nil, List.nil_append, List.cons_append, List.replicate_succ, List.replicate_zero, List.append_nil, atI0, atI1, atI2, atI3, atI4,
  cmpOk_int, cmpOk_bl, cmpOk_non, deq_int, deq_bl, true_and, and_true, Nat.reduceAdd, Nat.reduceSub, Nat.reduceLeDiff, Nat.reduceLT, Bool.not_eq_true', Bool.false_eq_true, if_false, if_true, decide_eq_true_eq, decide_eq_false_iff_not, Nat.zero_add, Nat.sub_zero, Nat.add_zero, Nat.sub_self, isi_non_bool, isi_non_int, isi_non_str, isi_non_list, isi_non_tuple, isi_bl_bool, isi_bl_int, isi_bl_str, isi_bl_list, isi_bl_tuple, isi_int_bool, isi_int_int, isi_int_str, isi_int_list, isi_int_tuple, isi_str_bool, isi_str_int, isi_str_str, isi_str_list, isi_str_tuple, isi_lst_bool, isi_lst_int, isi_lst_str, isi_lst_list, isi_lst_tuple, isi_tup_bool, isi_tup_int, isi_tup_str, isi_tup_list, isi_tup_tuple, ixN31, ixN32, List.length_map, List.length_set, Int.reduceToNat, Int.reducePow, Int.reduceNeg, Int.reduceAdd, Int.reduceSub, Int.reduceMul, Int.reduceLT, Int.reduceLE, Int.reduceEq, Nat.reduceEqDiff, reduceCtorEq, List.mem_singleton, eq_self, not_true_eq_false, not_false_eq_true, or_true, true_or, cmpOk_lstA, cmpOk_tupA, ckA_lst, ckA_tup, ckAl_nil, ckAl_cons, ckAl_ints, ckAl_rangeL, ck_int, ck_bl, ck_non, ck_strI, cmpOk_str, deq_str, deq_tup, deq_lst, deqA_nil, deqA_cons, deqA_ints, Bool.and_true, Bool.true_and, Bool.and_false, Bool.false_and, decide_true, decide_false, Bool.not_true, Bool.not_false, hM, hL, mput_mput]
    walk_at "sp"
    all_goals first
      | walk_at "cs"
      | exact hQ _ _ _ (em0 hn) (em1 hn) (by omega) (ed0 hn (by omega))

theorem ok__law_tape (T : TF K mg) : FnOk P w K mg base CX0 1 T.a__law_tape T.x__law_tape ["script"] (spTape K) := by
  refine T.f__law_tape.ok sc__law_tape (fun vs H Q E ⟨a, ns, e, _⟩ => by rw [e]; rfl) (fun cdv A outer s H vs Q E hr ⟨a, ns, e, hS, q⟩ => ⟨_, PSs.nox (pss_one (ps_ret (pe_lst (pa_cons (pe_callTy call_list_of (by rfl) T.m_list (by decide +kernel) (pa_cons (pv 0) pa_nil)) (pa_cons pe_int (pa_cons pe_int pa_nil)))))), ?_⟩)
  subst e
  refine ⟨.ref a, rfl, a, _, rfl, .inl hS, fun c hc => ⟨by show 3 ≤ sizeLine; decide, fun p hp => ?_⟩⟩
  have hpc : p ≠ c := fun e => by rw [e, upd_same] at hp; cases hp
  have hp0 : H p = none := by rw [upd_ne hpc] at hp; exact hp
  exact q _ c p (fun b o e => by rw [upd_ne (ne_of_none e hp0), upd_ne (ne_of_none e hc)]; exact e) hc hp0 hpc (by rw [upd_ne hpc.symm, upd_same]) upd_same
local macro_rules | `(tactic| walk_at "go") => `(tactic| repeat' (first | assumption | with_reducible apply And.intro | walk_at "cs"))
local macro_rules | `(tactic| walk_at "ex") => `(tactic| simp only [List.cons.injEq, Sl.va.injEq, Sl.ow.injEq, Ow.lst.injEq, D.int.injEq, D.bl.injEq, D.str.injEq, D.lst.injEq, D.tup.injEq, true_and, and_true])
local macro_rules | `(tactic| walk_at "gn") => `(tactic| simp only [↓gN, ↓gsNil, ↓gsCons, ↓gT, ↓gSq, List.length_cons, List.length_nil, Nat.reduceAdd, true_and, List.set_cons_zero, List.set_cons_succ])
local macro_rules | `(tactic| walk_at "sp") => `(tactic| repeat' (first | split | with_reducible apply And.intro))
local macro_rules | `(tactic| walk_at "cs") => `(tactic| first | (unfold CMulP; omega) | (unfold CPowP; omega) | (unfold CModP; omega) | (unfold CDivP; omega))
local macro_rules | `(tactic| walk_at "pl") => `(tactic| simp only [↓sSeq, ↓sAsg, ↓sRet, ↓sRetN, ↓sIf, ↓sDrop, ↓sPar, ↓sAug, ↓sNext, ↓sTgt, ↓sApp, ↓sExt, ↓sPop, ↓sSet, ↓sBreak, ↓sCont, ↓eVar, ↓bVar, ↓eMov, ↓bE, ↓eBin, ↓tE, ↓eChain_eq, chS_bl, chS_true, chS_false, wipeE_nil, wipeE_cons, ↓eUn, ↓qAnd, ↓qOr, ↓qNot, ↓eAnd_eq, ↓eOr_eq, ↓sNever, ↓eNot, ↓eIf, ↓aNil, ↓aCons, ↓aConsB, ↓eTup, ↓eLst, ↓iSeq, ↓iR1, ↓iR2, ↓iEnum1, ↓iRev1, ↓cSortD,  ↓gN, ↓gsNil, ↓gsCons, ↓gT, ↓eCall, ↓eCallX, ↓sRaise, ↓sTry, ↓dI2, ↓dAdd, ↓dEq, ↓dNe, ↓dIsN, ↓dNotN, ↓dIx, ↓oNone, ↓oSome, ↓eSl, ↓eB, ↓cLen, ↓cInt, ↓cAbs, ↓cMax2, ↓cMin2, ↓cDivmod, ↓cList, ↓cTuple, ↓cSum, ↓cMax, ↓cMin, ↓cAll, ↓cAny, ↓cSorted, ↓dIn, ↓dInX, ↓eM, ↓mIndex, ↓tyM, ↓gSq, ↓cSet, natc0, natc1, natc2, List.findIdx?_cons, List.findIdx?_nil, intsOf_ints, boolsOf_bls, plAnyI, plAnyR, ↓cGcd, ↓cLcm, ↓eRange, ↓eIsi, ↓Sl.val, ↓Ow.toD, ↓stE, ↓tYes', ↓eIxM, ↓sSetM, ↓PL.isNon, ↓eC, ↓bC, ↓dSub, ↓dMul, ↓dDiv, ↓dMod, ↓dPow, ↓dLt, ↓dLe, ↓dGt, ↓dGe, ↓dAddI, ↓dDivS, ↓dEqI, ↓dNeI,
  List.getElem?_cons_zero, List.getElem?_cons_succ, List.set_cons_zero, List.set_cons_succ, List.map_cons, List.map_nil, List.length_cons, List.length_nil, List.nil_append, List.cons_append, List.replicate_succ, List.replicate_zero, List.append_nil, atI0, atI1, atI2, atI3, atI4,
  cmpOk_int, cmpOk_bl, cmpOk_non, deq_int, deq_bl, true_and, and_true, Nat.reduceAdd, Nat.reduceSub, Nat.reduceLeDiff, Nat.reduceLT, Bool.not_eq_true', Bool.false_eq_true, if_false, if_true, decide_eq_true_eq, decide_eq_false_iff_not, Nat.zero_add, Nat.sub_zero, Nat.add_zero, Nat.sub_self, isi_non_bool, isi_non_int, isi_non_str, isi_non_list, isi_non_tuple, isi_bl_bool, isi_bl_int, isi_bl_str, isi_bl_list, isi_bl_tuple, isi_int_bool, isi_int_int, isi_int_str, isi_int_list, isi_int_tuple, isi_str_bool, isi_str_int, isi_str_str, isi_str_list, isi_str_tuple, isi_lst_bool, isi_lst_int, isi_lst_str, isi_lst_list, isi_lst_tuple, isi_tup_bool, isi_tup_int, isi_tup_str, isi_tup_list, isi_tup_tuple, ixN31, ixN32, List.length_map, List.length_set, Int.reduceToNat, Int.reducePow, Int.reduceNeg, Int.reduceAdd, Int.reduceSub, Int.reduceMul, Int.reduceLT, Int.reduceLE, Int.reduceEq, Nat.reduceEqDiff, reduceCtorEq, List.mem_singleton, eq_self, not_true_eq_false, not_false_eq_true, or_true, true_or, cmpOk_lstA, cmpOk_tupA, ckA_lst, ckA_tup, ckAl_nil, ckAl_cons, ckAl_ints, ckAl_rangeL, ck_int, ck_bl, ck_non, ck_strI, cmpOk_str, deq_str, deq_tup, deq_lst, deqA_nil, deqA_cons, deqA_ints, Bool.and_true, Bool.true_and, Bool.and_false, Bool.false_and, decide_true, decide_false, Bool.not_true, Bool.not_false, ↓p_dealt_rooms])
theorem ok_rooms_needed (T : TF K mg) : FnOk P w K mg base CX0 2 T.a_rooms_needed T.x_rooms_needed ["spans"] (liP K p_rooms_needed) := by
  refine fn_P T.f_rooms_needed sc_rooms_needed (by intro ds M Q E h; unfold p_rooms_needed at h; split at h <;> first | rfl | exact h.elim) (fun cdv A outer s H E z hz hr => (qs_cons (qs_set (i := 1) sc_rooms_needed.nd rfl (by first | exact Or.inl rfl | exact Or.inr rfl) (qe_call (ok_dealt_rooms T) hr (by rfl) T.g_dealt_rooms T.f_dealt_rooms.kp T.b_dealt_rooms pass0 (qa_cons (qe_var 0) qa_nil)))
    (qs_end (qs_ret (qe_ifExp (qt_cmp ob_gt (qb_of (qe_callB cb_len (by rfl) T.m_len (by decide +kernel) (qab_cons (qb_var 1) qab_nil))) qb_int (nomark _)) (qe_bin ob_add (qb_of (qe_callB (cb_max rfl) (by rfl) T.m_max (by decide +kernel) (qab_cons (qb_var 1) qab_nil))) qb_int) qe_int))))) ?_
  intro ds M Q0 h
  unfold p_rooms_needed at h
  split at h
  · skip
    obtain ⟨S, rfl, hp, hl, h⟩ := h
    refine sSeq_i fun N1 h1 => ?_
    walk_at "pl"
    refine ⟨S, rfl, hp, hl, fun R F hR hF hA => h1 _ _ ?_⟩
    clear h1
    walk_at "pl"
    have hRl := hR.len
    rw [tri_len] at hRl
    by_cases c : 0 < F.length
    · rw [if_pos (by omega)]
      refine ⟨c, fun v hv hm => ?_⟩
      refine h R _ hR (.inr ?_)
      obtain ⟨i, hi⟩ := List.mem_iff_getElem?.mp hv
      have hil := (List.getElem?_eq_some_iff.mp hi).1
      obtain ⟨j, t, hj, rfl⟩ := tri_ex (S := S) (i := i) (by omega)
      have hjl := (List.getElem?_eq_some_iff.mp hj).1
      rw [tri_len] at hjl
      have hr : R[j]? = some (R[j]'(by omega)) := List.getElem?_eq_getElem _
      have hA1 : F[t.2.2.toNat]? = some ((R[j]'(by omega) : Nat) : Int) := hA j t _ hjl hj hr
      rw [hi] at hA1
      cases hA1
      refine ⟨_, List.getElem_mem (h := by omega), rfl, fun r hrm => ?_⟩
      obtain ⟨k, hk⟩ := List.mem_iff_getElem?.mp hrm
      have hkl := (List.getElem?_eq_some_iff.mp hk).1
      have hu : (tri S)[k]? = some ((tri S)[k]'(by rw [tri_len]; omega)) := List.getElem?_eq_getElem _
      have hA2 : F[((tri S)[k]'(by rw [tri_len]; omega)).2.2.toNat]? = some (r : Int) := hA k _ r (by omega) hu hk
      have := hm (r : Int) (List.mem_of_getElem? hA2)
      omega
    · rw [if_neg (by omega)]
      exact h R 0 hR (.inl ⟨List.length_eq_zero_iff.mp (by omega), rfl⟩)
  · exact h.elim

theorem flt_tS {S : List Sp} {P : Sp → Prop} [DecidablePred P] {j : Nat} {x : Sp} (hx : S[j]? = some x) (h : P x) : (S.take (j + 1)).filter (fun t => decide (P t)) = (S.take j).filter (fun t => decide (P t)) ++ [x] := by
  rw [List.take_add_one, hx, List.filter_append]
  simp [h]
theorem flt_fS {S : List Sp} {P : Sp → Prop} [DecidablePred P] {j : Nat} {x : Sp} (hx : S[j]? = some x) (h : ¬ P x) : (S.take (j + 1)).filter (fun t => decide (P t)) = (S.take j).filter (fun t => decide (P t)) := by
  rw [List.take_add_one, hx, List.filter_append]
  simp [h]
structure AtO (T : List (Int × Int × Int)) (R : List Nat) (n : Nat) (G : List (Option Int)) : Prop where
  on : ∀ (j : Nat) (t : Int × Int × Int) (r : Nat), j < n → T[j]? = some t → R[j]? = some r → G[t.2.2.toNat]? = some (some (r : Int))
  of : ∀ (p : Nat) (v : Int), G[p]? = some (some v) → ∃ (j : Nat) (t : Int × Int × Int) (r : Nat), j < n ∧ T[j]? = some t ∧ R[j]? = some r ∧ t.2.2.toNat = p ∧ v = r

local macro_rules | `(tactic| walk_at "go") => `(tactic| repeat' (first | assumption | with_reducible apply And.intro | walk_at "cs"))
local macro_rules | `(tactic| walk_at "ex") => `(tactic| simp only [List.cons.injEq, Sl.va.injEq, Sl.ow.injEq, Ow.lst.injEq, D.int.injEq, D.bl.injEq, D.str.injEq, D.lst.injEq, D.tup.injEq, true_and, and_true])
local macro_rules | `(tactic| walk_at "gn") => `(tactic| simp only [↓gN, ↓gsNil, ↓gsCons, ↓gT, ↓gSq, List.length_cons, List.length_nil, Nat.reduceAdd, true_and, List.set_cons_zero, List.set_cons_succ])
local macro_rules | `(tactic| walk_at "sp") => `(tactic| repeat' (first | split | with_reducible apply And.intro))
local macro_rules | `(tactic| walk_at "cs") => `(tactic| first | (unfold CMulP; omega) | (unfold CPowP; omega) | (unfold CModP; omega) | (unfold CDivP; omega))
local macro_rules | `(tactic| walk_at "pl") => `(tactic| simp only [↓sSeq, ↓sAsg, ↓sRet, ↓sRetN, ↓sIf, ↓sDrop, ↓sPar, ↓sAug, ↓sNext, ↓sTgt, ↓sApp, ↓sExt, ↓sPop, ↓sSet, ↓sBreak, ↓sCont, ↓eVar, ↓bVar, ↓eMov, ↓bE, ↓eBin, ↓tE, ↓eChain_eq, chS_bl, chS_true, chS_false, wipeE_nil, wipeE_cons, ↓eUn, ↓qAnd, ↓qOr, ↓qNot, ↓eAnd_eq, ↓eOr_eq, ↓sNever, ↓eNot, ↓eIf, ↓aNil, ↓aCons, ↓aConsB, ↓eTup, ↓eLst, ↓iSeq, ↓iR1, ↓iR2, ↓iEnum1, ↓iRev1, ↓cSortD,  ↓gN, ↓gsNil, ↓gsCons, ↓gT, ↓eCall, ↓eCallX, ↓sRaise, ↓sTry, ↓dI2, ↓dAdd, ↓dEq, ↓dNe, ↓dIsN, ↓dNotN, ↓dIx, ↓oNone, ↓oSome, ↓eSl, ↓eB, ↓cLen, ↓cInt, ↓cAbs, ↓cMax2, ↓cMin2, ↓cDivmod, ↓cList, ↓cTuple, ↓cSum, ↓cMax, ↓cMin, ↓cAll, ↓cAny, ↓cSorted, ↓dIn, ↓dInX, ↓eM, ↓mIndex, ↓tyM, ↓gSq, ↓cSet, natc0, natc1, natc2, List.findIdx?_cons, List.findIdx?_nil, intsOf_ints, boolsOf_bls, plAnyI, plAnyR, ↓cGcd, ↓cLcm, ↓eRange, ↓eIsi, ↓Sl.val, ↓Ow.toD, ↓stE, ↓tYes', ↓eIxM, ↓sSetM, ↓PL.isNon, ↓eC, ↓bC, ↓dSub, ↓dMul, ↓dDiv, ↓dMod, ↓dPow, ↓dLt, ↓dLe, ↓dGt, ↓dGe, ↓dAddI, ↓dDivS, ↓dEqI, ↓dNeI,
  List.getElem?_cons_zero, List.getElem?_cons_succ, List.set_cons_zero, List.set_cons_succ, List.map_cons, List.map_nil, List.length_cons, List.length_nil, List.nil_append, List.cons_append, List.replicate_succ, List.replicate_zero, List.append_nil, atI0, atI1, atI2, atI3, atI4,
  cmpOk_int, cmpOk_bl, cmpOk_non, deq_int, deq_bl, true_and, and_true, Nat.reduceAdd, Nat.reduceSub, Nat.reduceLeDiff, Nat.reduceLT, Bool.not_eq_true', Bool.false_eq_true, if_false, if_true, decide_eq_true_eq, decide_eq_false_iff_not, Nat.zero_add, Nat.sub_zero, Nat.add_zero, Nat.sub_self, isi_non_bool, isi_non_int, isi_non_str, isi_non_list, isi_non_tuple, isi_bl_bool, isi_bl_int, isi_bl_str, isi_bl_list, isi_bl_tuple, isi_int_bool, isi_int_int, isi_int_str, isi_int_list, isi_int_tuple, isi_str_bool, isi_str_int, isi_str_str, isi_str_list, isi_str_tuple, isi_lst_bool, isi_lst_int, isi_lst_str, isi_lst_list, isi_lst_tuple, isi_tup_bool, isi_tup_int, isi_tup_str, isi_tup_list, isi_tup_tuple, ixN31, ixN32, List.length_map, List.length_set, Int.reduceToNat, Int.reducePow, Int.reduceNeg, Int.reduceAdd, Int.reduceSub, Int.reduceMul, Int.reduceLT, Int.reduceLE, Int.reduceEq, Nat.reduceEqDiff, reduceCtorEq, List.mem_singleton, eq_self, not_true_eq_false, not_false_eq_true, or_true, true_or, cmpOk_lstA, cmpOk_tupA, ckA_lst, ckA_tup, ckAl_nil, ckAl_cons, ckAl_ints, ckAl_rangeL, ck_int, ck_bl, ck_non, ck_strI, cmpOk_str, deq_str, deq_tup, deq_lst, deqA_nil, deqA_cons, deqA_ints, Bool.and_true, Bool.true_and, Bool.and_false, Bool.false_and, decide_true, decide_false, Bool.not_true, Bool.not_false, ↓pDraw, ↓p__law_is, ↓p_dealt_rooms, ↓p_rooms_needed])
theorem ok_law (T : TF K mg) : FnOk P w K mg base CX0 3 T.a_law T.x_law ["script"] (spLaw K) := by
  refine T.f_law.ok sc_law (fun vs H Q E ⟨a, ns, e, _⟩ => by rw [e]; rfl) (fun cdv A outer s H vs Q E hr ⟨a, ns, e, hS, q⟩ => ⟨_, PSs.nox (pss_cons (ps_set (i := 1) sc_law.nd rfl (by first | exact Or.inl rfl | exact Or.inr rfl) (pe_call (ok__law_tape T) (hr.mono (by decide)) (by rfl) T.g__law_tape T.f__law_tape.kp T.b__law_tape .nil pass0 (pa_cons (pv 0) pa_nil)))
    (show PSs _ _ (liS (zOf K H (fun _ => none) []) _) from (qs_cons (qs_set (i := 2) sc_law.nd rfl (by first | exact Or.inl rfl | exact Or.inr rfl) (qe_lst qa_nil))
    (qs_cons (qs_for PassesOwn.never rfl (qi_range1 (by rfl) T.m_range (qa_cons (qe_call (ok__law_draw T) (hr.mono (by decide)) (by rfl) T.g__law_draw T.f__law_draw.kp T.b__law_draw pass0 (qa_cons (qe_var 1) (qa_cons qe_int qa_nil))) qa_nil)) (qg_name (i := 3) sc_law.nd rfl (by first | exact Or.inl rfl | exact Or.inr rfl))
    (qs_cons (qs_set (i := 4) sc_law.nd rfl (by first | exact Or.inl rfl | exact Or.inr rfl) (qe_call (ok__law_draw T) (hr.mono (by decide)) (by rfl) T.g__law_draw T.f__law_draw.kp T.b__law_draw pass0 (qa_cons (qe_var 1) (qa_cons qe_int qa_nil))))
    (qs_end (qs_append (i := 2) rfl (by first | exact Or.inl rfl | exact Or.inr (Or.inl rfl) | exact Or.inr (Or.inr rfl)) (qe_tup (qa_cons (qe_var 4) (qa_cons (qe_bin ob_add (qb_of (qe_bin ob_add (qb_var 4) qb_int)) (qb_of (qe_call (ok__law_draw T) (hr.mono (by decide)) (by rfl) T.g__law_draw T.f__law_draw.kp T.b__law_draw pass0 (qa_cons (qe_var 1) (qa_cons qe_int qa_nil))))) qa_nil)))))))
    (qs_cons (qs_set (i := 5) sc_law.nd rfl (by first | exact Or.inl rfl | exact Or.inr rfl) (qe_call (ok_dealt_rooms T) (hr.mono (by decide)) (by rfl) T.g_dealt_rooms T.f_dealt_rooms.kp T.b_dealt_rooms pass0 (qa_cons (qe_callTy cb_list (by rfl) T.m_list (by decide +kernel) (qab_cons (qb_var 2) qab_nil)) qa_nil)))
    (qs_cons (qs_set (i := 6) sc_law.nd rfl (by first | exact Or.inl rfl | exact Or.inr rfl) (qe_lc rfl sc_law.nd (own := [("span", 8)]) (qi_seq (h := (qe_var 2))) (blkOk_by (own := [("span", 8)]) (N := N_law) (sc := defScope s_law) (by decide +kernel)) (fun _ _ _ _ _ z hz => (qg_name (i := 8) sc_law.nd rfl (by first | exact Or.inl rfl | exact Or.inr rfl))) (fun _ _ _ _ _ => an_t0) (fun _ _ _ _ _ z hz => qe_non)))
    (qs_cons (qs_set (i := 7) sc_law.nd rfl (by first | exact Or.inl rfl | exact Or.inr rfl) (qe_callB (cb_sortD (hu64 hr)) (by rfl) T.m_sorted (by decide +kernel) (qab_cons (qb_of (qe_lc rfl sc_law.nd (own := [("k", 3)]) (qi_range1 (by rfl) T.m_range (qa_cons (qe_callB cb_len (by rfl) T.m_len (by decide +kernel) (qab_cons (qb_var 2) qab_nil)) qa_nil)) (blkOk_by (own := [("k", 3)]) (N := N_law) (sc := defScope s_law) (by decide +kernel)) (fun _ _ _ _ _ z hz => (qg_name (i := 3) sc_law.nd rfl (by first | exact Or.inl rfl | exact Or.inr rfl))) (fun _ _ _ _ _ => an_t0) (fun _ _ _ _ _ z hz => (qe_tup (qa_cons (qe_ix (qb_var 2) (qb_var 3)) (qa_cons (qe_var 3) qa_nil)))))) qab_nil)))
    (qs_cons (qs_for PassesOwn.never rfl (qi_seq (h := (qe_var 7))) (qg_seq (n := 2) rfl (qgs_cons (qg_name (i := 8) sc_law.nd rfl (by first | exact Or.inl rfl | exact Or.inr rfl)) (qgs_cons (qg_name (i := 3) sc_law.nd rfl (by first | exact Or.inl rfl | exact Or.inr rfl)) qgs_nil)))
    (qs_cons (qs_set (i := 9) sc_law.nd rfl (by first | exact Or.inl rfl | exact Or.inr rfl) qe_int)
    (qs_cons (qs_for PassesOwn.never rfl (qi_range1 (by rfl) T.m_range (qa_cons (qe_callB cb_len (by rfl) T.m_len (by decide +kernel) (qab_cons (qb_var 2) qab_nil)) qa_nil)) (qg_name (i := 10) sc_law.nd rfl (by first | exact Or.inl rfl | exact Or.inr rfl))
    (qs_cons (qs_setLc (i := 11) rfl sc_law.nd rfl rfl (sw_true rfl rfl rfl (by decide +kernel)) (own := [("j", 14)]) (qi_range1 (by rfl) T.m_range (qa_cons (qe_callB cb_len (by rfl) T.m_len (by decide +kernel) (qab_cons (qb_var 2) qab_nil)) qa_nil)) (blkOk_by (own := [("j", 14)]) (N := N_law) (sc := defScope s_law) (by decide +kernel)) (fun _ _ _ _ _ z hz => (qg_name (i := 14) sc_law.nd rfl (by first | exact Or.inl rfl | exact Or.inr rfl))) (fun _ _ _ _ _ => an_t1 fun z hz => (PW.pt (qw_and (qt_cmp (ob_eq (hu64 hr)) (qb_of (qe_ix (qb_var 6) (qb_var 14))) (qb_var 9) (nomark _)) (qw_and (qt_cmp ob_lt (qb_of (qe_ix (qb_of (qe_ix (qb_var 2) (qb_var 14))) qb_int)) (qb_of (qe_ix (qb_var 8) qb_int)) (nomark _)) (qw_and1 (qt_cmp ob_lt (qb_of (qe_ix (qb_var 8) qb_int)) (qb_of (qe_ix (qb_of (qe_ix (qb_var 2) (qb_var 14))) qb_int)) (nomark _))))))) (fun _ _ _ _ _ z hz => (qe_var 14)))
    (qs_end (qs_if (qt_cmp ob_gt (qb_of (qe_callB cb_len (by rfl) T.m_len (by decide +kernel) (qab_cons (qb_var 11) qab_nil))) qb_int (nomark _))
    (qs_end (qs_set (i := 9) sc_law.nd rfl (by first | exact Or.inl rfl | exact Or.inr rfl) (qe_bin ob_add (qb_var 9) qb_int)))
    qs_nil))))
    (qs_end (qs_setItem (i := 6) rfl (by first | exact Or.inl rfl | exact Or.inr (Or.inl rfl) | exact Or.inr (Or.inr rfl)) (qe_var 9) (qb_var 3))))))
    (qs_cons (qs_if (qt_not (qt_val (qe_call (ok__law_is T) (hr.mono (by decide)) (by rfl) T.g__law_is T.f__law_is.kp T.b__law_is pass0 (qa_cons (qe_var 5) (qa_cons (qe_var 6) qa_nil)))))
    (qs_end (qs_ret qe_bl))
    qs_nil)
    (qs_cons (qs_set (i := 12) sc_law.nd rfl (by first | exact Or.inl rfl | exact Or.inr rfl) qe_int)
    (qs_cons (qs_for PassesOwn.never rfl (qi_range1 (by rfl) T.m_range (qa_cons qe_int qa_nil)) (qg_name (i := 13) sc_law.nd rfl (by first | exact Or.inl rfl | exact Or.inr rfl))
    (qs_end (qs_set (i := 12) sc_law.nd rfl (by first | exact Or.inl rfl | exact Or.inr rfl) (qe_callB (cb_max2 rfl) (by rfl) T.m_max (by decide +kernel) (qab_cons (qb_var 12) (qab_cons (qb_of (qe_callB cb_len (by rfl) T.m_len (by decide +kernel) (qab_cons (qb_of (qe_lc rfl sc_law.nd (own := [("a", 15), ("b", 16)]) (qi_seq (h := (qe_var 2))) (blkOk_by (own := [("a", 15), ("b", 16)]) (N := N_law) (sc := defScope s_law) (by decide +kernel)) (fun _ _ _ _ _ z hz => (qg_seq (n := 2) rfl (qgs_cons (qg_name (i := 15) sc_law.nd rfl (by first | exact Or.inl rfl | exact Or.inr rfl)) (qgs_cons (qg_name (i := 16) sc_law.nd rfl (by first | exact Or.inl rfl | exact Or.inr rfl)) qgs_nil)))) (fun _ _ _ _ _ => an_t1 fun z hz => (qt_chain ob_le ob_lt (qb_var 15) (qb_var 13) (qb_var 16))) (fun _ _ _ _ _ z hz => qe_int))) qab_nil))) qab_nil))))))
    (qs_end (qs_ret (qe_cmp (ob_eq (hu64 hr)) (qb_of (qe_call (ok_rooms_needed T) hr (by rfl) T.g_rooms_needed T.f_rooms_needed.kp T.b_rooms_needed pass0 (qa_cons (qe_callTy cb_list (by rfl) T.m_list (by decide +kernel) (qab_cons (qb_var 2) qab_nil)) qa_nil))) (qb_var 12) (nomark _))))))))))))))), ?_⟩)
  subst e
  refine law_P (by decide) hS q (fun Q' h => ⟨_, rfl, a, ns, rfl, hS, h⟩) ?_
  intro T
  refine sSeq_i fun N1 h1 => ?_
  walk_at "pl"
  refine h1 _ _ ?_
  clear h1
  refine sSeq_i fun N1 h1 => ?_
  refine sFor_k fun N hN => ?_
  walk_at "pl"
  refine fun n n0 n1 => ⟨by omega, hN _ _ _ ?_⟩
  clear hN
  refine loop_i (fun i ρ M1 => M1 = [(T, MO.tape)] ∧ ∃ (S : List Sp) (a b : Sl), S.length = i ∧ (∀ p ∈ S, p.1 < p.2 ∧ 0 ≤ p.1 ∧ p.1 < 141) ∧ (∀ o, a ≠ .ow o) ∧ (∀ o, b ≠ .ow o) ∧ ρ = [.un, .va (.ref T), .ow (.lst (S.map spD)), a, b, .un, .un, .un, .un, .un, .un, .un, .un, .un, .un, .un, .un]) ⟨rfl, [], _, _, rfl, by simp, fun o e => (by cases e), fun o e => (by cases e), rfl⟩ ?_ ?_
  · rintro J hJ i dd ρ M1 hd ⟨rfl, S, a, b, hl, hS, ha, hb, rfl⟩
    obtain ⟨rfl, hi⟩ := rangeL_get hd
    walk_at "gn"
    walk_at "pl"
    intro u u0 u1 v v0 v1
    refine ⟨by omega, ?_⟩
    have := hJ (i + 1) [.un, .va (.ref T), .ow (.lst ((S ++ [(u, u + 1 + v)]).map spD)), .va (.int (0 + (i : Nat))), .va (.int u), .un, .un, .un, .un, .un, .un, .un, .un, .un, .un, .un, .un] [(T, MO.tape)] ⟨rfl, _, _, _, by rw [List.length_append, hl]; rfl, fun p hp => by
      rcases List.mem_append.mp hp with w | w
      · exact hS p w
      · rw [List.mem_singleton.mp w]
        exact ⟨by show u < u + 1 + v; omega, u0, by show u < 141; omega⟩, fun o e => (by cases e), fun o e => (by cases e), rfl⟩
    rw [List.map_append] at this
    exact this
  rintro ρ M1 ⟨rfl, S, a, b, hl, hS, ha, hb, rfl⟩
  rw [rangeL_len] at hl
  refine h1 _ _ ?_
  clear h1
  refine sSeq_i fun N1 h1 => ?_
  walk_at "pl"
  have hSl : S.length ≤ 12 := by omega
  refine ⟨S, rfl, fun p hp => (hS p hp).1, by omega, fun R F hR hF hA => h1 _ _ ?_⟩
  clear h1
  refine sSeq_i fun N1 h1 => ?_
  walk_at "pl"
  refine eLc_k fun N hN => ?_
  walk_at "pl"
  refine hN _ _ _ ?_
  clear hN
  refine eLc_inv optD (fun i bs => bs = List.replicate i none) (S.map spD) _ _ (fun Q h => h) rfl rfl ?_ ?_
  · rintro i d bs J hd rfl hJ
    have hil := (List.getElem?_eq_some_iff.mp hd).1
    rw [List.length_map] at hil
    have hJ := hJ _ rfl
    walk_at "gn"
    walk_at "pl"
    rw [List.replicate_succ', List.map_append] at hJ
    refine ⟨by rw [List.length_replicate]; omega, hJ⟩
  rintro bs rfl
  rw [List.length_map]
  refine h1 _ _ ?_
  clear h1
  refine sSeq_i fun N1 h1 => ?_
  walk_at "pl"
  refine eLc_k fun N hN => ?_
  walk_at "pl"
  refine ⟨by omega, hN _ _ _ ?_⟩
  clear hN
  refine eLc_inv neD (fun i bs => bs = (enT 0 S).take i) (rangeL 0 S.length) _ _ (fun Q h => h) (by cases a with | ow o => exact absurd rfl (ha o) | _ => rfl) rfl ?_ ?_
  · rintro i d bs J hd rfl hJ
    obtain ⟨rfl, hi⟩ := rangeL_get hd
    obtain ⟨⟨x, y⟩, hp⟩ : ∃ p, S[i]? = some p := ⟨_, List.getElem?_eq_getElem (by omega)⟩
    have a1 : atI (S.map spD) ((0 : Int) + (i : Nat)) = some (spD (x, y)) := atI_nn (by omega) (by rw [List.getElem?_map, show ((0 : Int) + (i : Nat)).toNat = i by omega, hp]; rfl)
    have hJ := hJ _ rfl
    walk_at "gn"
    simp only [↓sSeq, ↓sAsg, ↓sRet, ↓sRetN, ↓sIf, ↓sDrop, ↓sPar, ↓sAug, ↓sNext, ↓sTgt, ↓sApp, ↓sExt, ↓sPop, ↓sSet, ↓sBreak, ↓sCont, ↓eVar, ↓bVar, ↓eMov, ↓bE, ↓eBin, ↓tE, ↓eChain_eq, chS_bl, chS_true, chS_false, wipeE_nil, wipeE_cons, ↓eUn, ↓qAnd, ↓qOr, ↓qNot, ↓eAnd_eq, ↓eOr_eq, ↓sNever, ↓eNot, ↓eIf, ↓aNil, ↓aCons, ↓aConsB, ↓eTup, ↓eLst, ↓iSeq, ↓iR1, ↓iR2, ↓iEnum1, ↓iRev1, ↓cSortD,  ↓gN, ↓gsNil, ↓gsCons, ↓gT, ↓eCall, ↓eCallX, ↓sRaise, ↓sTry, ↓dI2, ↓dAdd, ↓dEq, ↓dNe, ↓dIsN, ↓dNotN, ↓dIx, ↓oNone, ↓oSome, ↓eSl, ↓eB, ↓cLen, ↓cInt, ↓cAbs, ↓cMax2, ↓cMin2, ↓cDivmod, ↓cList, ↓cTuple, ↓cSum, ↓cMax, ↓cMin, ↓cAll, ↓cAny, ↓cSorted, ↓dIn, ↓dInX, ↓eM, ↓mIndex, ↓tyM, ↓gSq, ↓cSet, natc0, natc1, natc2, List.findIdx?_cons, List.findIdx?_nil, intsOf_ints, boolsOf_bls, plAnyI, plAnyR, ↓cGcd, ↓cLcm, ↓eRange, ↓eIsi, ↓Sl.val, ↓Ow.toD, ↓stE, ↓tYes', ↓eIxM, ↓sSetM, ↓PL.isNon, ↓eC, ↓bC, ↓dSub, ↓dMul, ↓dDiv, ↓dMod, ↓dPow, ↓dLt, ↓dLe, ↓dGt, ↓dGe, ↓dAddI, ↓dDivS, ↓dEqI, ↓dNeI,
  List.getElem?_cons_zero, List.getElem?_cons_succ, List.set_cons_zero, List.set_cons_succ, List.map_cons, List.map_nil, List.length_cons, List.length_nil, List.nil_append, List.cons_append, List.replicate_succ, List.replicate_zero, List.append_nil, atI0, atI1, atI2, atI3, atI4,
  cmpOk_int, cmpOk_bl, cmpOk_non, deq_int, deq_bl, true_and, and_true, Nat.reduceAdd, Nat.reduceSub, Nat.reduceLeDiff, Nat.reduceLT, Bool.not_eq_true', Bool.false_eq_true, if_false, if_true, decide_eq_true_eq, decide_eq_false_iff_not, Nat.zero_add, Nat.sub_zero, Nat.add_zero, Nat.sub_self, isi_non_bool, isi_non_int, isi_non_str, isi_non_list, isi_non_tuple, isi_bl_bool, isi_bl_int, isi_bl_str, isi_bl_list, isi_bl_tuple, isi_int_bool, isi_int_int, isi_int_str, isi_int_list, isi_int_tuple, isi_str_bool, isi_str_int, isi_str_str, isi_str_list, isi_str_tuple, isi_lst_bool, isi_lst_int, isi_lst_str, isi_lst_list, isi_lst_tuple, isi_tup_bool, isi_tup_int, isi_tup_str, isi_tup_list, isi_tup_tuple, ixN31, ixN32, List.length_map, List.length_set, Int.reduceToNat, Int.reducePow, Int.reduceNeg, Int.reduceAdd, Int.reduceSub, Int.reduceMul, Int.reduceLT, Int.reduceLE, Int.reduceEq, Nat.reduceEqDiff, reduceCtorEq, List.mem_singleton, eq_self, not_true_eq_false, not_false_eq_true, or_true, true_or, cmpOk_lstA, cmpOk_tupA, ckA_lst, ckA_tup, ckAl_nil, ckAl_cons, ckAl_ints, ckAl_rangeL, ck_int, ck_bl, ck_non, ck_strI, cmpOk_str, deq_str, deq_tup, deq_lst, deqA_nil, deqA_cons, deqA_ints, Bool.and_true, Bool.true_and, Bool.and_false, Bool.false_and, decide_true, decide_false, Bool.not_true, Bool.not_false, ↓pDraw, ↓p__law_is, ↓p_dealt_rooms, ↓p_rooms_needed, a1]
    rw [List.take_add_one, enT_get hp, List.map_append] at hJ
    refine ⟨by rw [List.length_take, enT_len]; omega, hJ⟩
  rintro bs rfl
  rw [rangeL_len, show ((S.length : Int) - 0).toNat = (enT 0 S).length by rw [enT_len]; omega, List.take_length]
  walk_at "pl"
  refine ⟨sortOk_ne, h1 _ _ ?_⟩
  clear h1
  rw [sort_ne, show (enT 0 S).mergeSort le3 = tri S from rfl]
  have hTl := tri_len (S := S)
  refine sSeq_i fun N1 h1 => ?_
  refine sFor_k fun N hN => ?_
  walk_at "pl"
  refine hN _ _ _ ?_
  clear hN
  refine loop_i (fun i ρ M1 => M1 = [(T, MO.tape)] ∧ i ≤ S.length ∧ ∃ (R' : List Nat) (G : List (Option Int)) (b3 b8 b9 b10 b11 : Sl), R'.length = i ∧ DealtN (tri S) R' i ∧ G.length = S.length ∧ AtO (tri S) R' i G ∧ ρ = [.un, .va (.ref T), .va (.lst (S.map spD)), b3, b, .ow (.lst (F.map D.int)), .ow (.lst (G.map optD)), .va (.lst ((tri S).map neD)), b8, b9, b10, b11, .un, .un, .un, .un, .un]) ⟨rfl, Nat.zero_le _, [], List.replicate S.length none, _, _, _, _, _, rfl, fun j t r w => (by omega), List.length_replicate, ⟨fun j t r w => (by omega), fun p v w => ?_⟩, rfl⟩ ?_ ?_
  · have := List.mem_of_getElem? w
    rw [List.mem_replicate] at this
    cases this.2
  · rintro J hJ i dd ρ M1 hd ⟨rfl, hi, R', G, b3, b8, b9, b10, b11, g1, g2, g3, g4, rfl⟩
    obtain ⟨t, ht, rfl⟩ := map_get hd
    obtain ⟨pl, p, hpl, rfl, hpn⟩ := tri_at ht
    obtain ⟨x, y⟩ := p
    have hxy := hS _ (List.mem_of_getElem? hpl)
    have hxy : x < y := hxy.1
    have hilt : i < S.length := by rw [← hTl]; exact (List.getElem?_eq_some_iff.mp ht).1
    rw [neD_eq]
    walk_at "gn"
    refine sSeq_i fun N2 h2 => ?_
    walk_at "pl"
    refine h2 _ _ ?_
    clear h2
    refine sSeq_i fun N2 h2 => ?_
    refine sFor_k fun N hN => ?_
    walk_at "pl"
    refine ⟨by omega, hN _ _ _ ?_⟩
    clear hN
    refine loop_i (fun m ρ M2 => M2 = [(T, MO.tape)] ∧ ∃ (r : Nat) (b10 b11 : Sl), (∀ q < r, Taken (tri S) R' i q x) ∧ (r = m ∨ ¬ Taken (tri S) R' i r x) ∧ ρ = [.un, .va (.ref T), .va (.lst (S.map spD)), .va (.int (pl : Int)), b, .ow (.lst (F.map D.int)), .ow (.lst (G.map optD)), .va (.lst ((tri S).map neD)), .va (.tup [.int x, .int y]), .va (.int (r : Int)), b10, b11, .un, .un, .un, .un, .un]) ⟨rfl, 0, _, _, fun q w => by omega, .inl rfl, rfl⟩ ?_ ?_
    · rintro J2 hJ2 m dd ρ M2 hd2 ⟨rfl, r, b10, b11, q1, q2, rfl⟩
      obtain ⟨rfl, hm⟩ := rangeL_get hd2
      walk_at "gn"
      refine sSeq_i fun N3 h3 => ?_
      walk_at "pl"
      refine eLc_k fun N hN => ?_
      walk_at "pl"
      refine ⟨by omega, hN _ _ _ ?_⟩
      clear hN
      refine eLc_inv D.int (fun j bs => (0 < bs.length ↔ ∃ z < j, G[z]? = some (some (r : Int)) ∧ ∃ p, S[z]? = some p ∧ p.1 < y ∧ x < p.2) ∧ bs.length ≤ j) (rangeL 0 S.length) _ _ (fun Q h => h) (by rfl) ⟨⟨fun w => (by simp at w), fun ⟨z, w, _⟩ => by omega⟩, Nat.le_refl _⟩ ?_ ?_
      · rintro j d bs J3 hd3 ⟨e1, e2⟩ hJ3
        obtain ⟨rfl, hj⟩ := rangeL_get hd3
        have hbl : bs.length < 16777216 := by omega
        obtain ⟨g, hg⟩ : ∃ g, G[j]? = some g := ⟨_, List.getElem?_eq_getElem (by omega)⟩
        obtain ⟨⟨c, d⟩, hp⟩ : ∃ p, S[j]? = some p := ⟨_, List.getElem?_eq_getElem (by omega)⟩
        have a1 : atI (S.map spD) ((0 : Int) + (j : Nat)) = some (.tup [.int c, .int d]) := atI_nn (by omega) (by rw [List.getElem?_map, show ((0 : Int) + (j : Nat)).toNat = j by omega, hp]; rfl)
        have a2 : atI (G.map optD) ((0 : Int) + (j : Nat)) = some (optD g) := atI_nn (by omega) (by rw [List.getElem?_map, show ((0 : Int) + (j : Nat)).toNat = j by omega, hg]; rfl)
        have yes : (g = some (r : Int) ∧ c < y ∧ x < d) → J3 (bs.map D.int ++ [.int ((0 : Int) + (j : Nat))]) [(T, MO.tape)] := fun w => by
          have := hJ3 (bs ++ [(0 : Int) + (j : Nat)]) ⟨⟨fun _ => ⟨j, by omega, by rw [hg, w.1], (c, d), hp, w.2.1, w.2.2⟩, fun _ => by simp⟩, by rw [List.length_append, List.length_singleton]; omega⟩
          rw [List.map_append] at this
          exact this
        have no : ¬ (g = some (r : Int) ∧ c < y ∧ x < d) → J3 (bs.map D.int) [(T, MO.tape)] := fun w => by
          refine hJ3 bs ⟨e1.trans ⟨fun ⟨z, z1, z2⟩ => ⟨z, by omega, z2⟩, fun ⟨z, z1, z2, p, z3, z4⟩ => ⟨z, ?_, z2, p, z3, z4⟩⟩, by omega⟩
          rcases Nat.lt_or_ge z j with u | u
          · exact u
          · have : z = j := by omega
            subst this
            rw [hg] at z2
            rw [hp] at z3
            cases z2
            cases z3
            exact absurd ⟨rfl, z4⟩ w
        walk_at "gn"
        simp only [↓sSeq, ↓sAsg, ↓sRet, ↓sRetN, ↓sIf, ↓sDrop, ↓sPar, ↓sAug, ↓sNext, ↓sTgt, ↓sApp, ↓sExt, ↓sPop, ↓sSet, ↓sBreak, ↓sCont, ↓eVar, ↓bVar, ↓eMov, ↓bE, ↓eBin, ↓tE, ↓eChain_eq, chS_bl, chS_true, chS_false, wipeE_nil, wipeE_cons, ↓eUn, ↓qAnd, ↓qOr, ↓qNot, ↓eAnd_eq, ↓eOr_eq, ↓sNever, ↓eNot, ↓eIf, ↓aNil, ↓aCons, ↓aConsB, ↓eTup, ↓eLst, ↓iSeq, ↓iR1, ↓iR2, ↓iEnum1, ↓iRev1, ↓cSortD,  ↓gN, ↓gsNil, ↓gsCons, ↓gT, ↓eCall, ↓eCallX, ↓sRaise, ↓sTry, ↓dI2, ↓dAdd, ↓dEq, ↓dNe, ↓dIsN, ↓dNotN, ↓dIx, ↓oNone, ↓oSome, ↓eSl, ↓eB, ↓cLen, ↓cInt, ↓cAbs, ↓cMax2, ↓cMin2, ↓cDivmod, ↓cList, ↓cTuple, ↓cSum, ↓cMax, ↓cMin, ↓cAll, ↓cAny, ↓cSorted, ↓dIn, ↓dInX, ↓eM, ↓mIndex, ↓tyM, ↓gSq, ↓cSet, natc0, natc1, natc2, List.findIdx?_cons, List.findIdx?_nil, intsOf_ints, boolsOf_bls, plAnyI, plAnyR, ↓cGcd, ↓cLcm, ↓eRange, ↓eIsi, ↓Sl.val, ↓Ow.toD, ↓stE, ↓tYes', ↓eIxM, ↓sSetM, ↓PL.isNon, ↓eC, ↓bC, ↓dSub, ↓dMul, ↓dDiv, ↓dMod, ↓dPow, ↓dLt, ↓dLe, ↓dGt, ↓dGe, ↓dAddI, ↓dDivS, ↓dEqI, ↓dNeI,
  List.getElem?_cons_zero, List.getElem?_cons_succ, List.set_cons_zero, List.set_cons_succ, List.map_cons, List.map_nil, List.length_cons, List.length_nil, List.nil_append, List.cons_append, List.replicate_succ, List.replicate_zero, List.append_nil, atI0, atI1, atI2, atI3, atI4,
  cmpOk_int, cmpOk_bl, cmpOk_non, deq_int, deq_bl, true_and, and_true, Nat.reduceAdd, Nat.reduceSub, Nat.reduceLeDiff, Nat.reduceLT, Bool.not_eq_true', Bool.false_eq_true, if_false, if_true, decide_eq_true_eq, decide_eq_false_iff_not, Nat.zero_add, Nat.sub_zero, Nat.add_zero, Nat.sub_self, isi_non_bool, isi_non_int, isi_non_str, isi_non_list, isi_non_tuple, isi_bl_bool, isi_bl_int, isi_bl_str, isi_bl_list, isi_bl_tuple, isi_int_bool, isi_int_int, isi_int_str, isi_int_list, isi_int_tuple, isi_str_bool, isi_str_int, isi_str_str, isi_str_list, isi_str_tuple, isi_lst_bool, isi_lst_int, isi_lst_str, isi_lst_list, isi_lst_tuple, isi_tup_bool, isi_tup_int, isi_tup_str, isi_tup_list, isi_tup_tuple, ixN31, ixN32, List.length_map, List.length_set, Int.reduceToNat, Int.reducePow, Int.reduceNeg, Int.reduceAdd, Int.reduceSub, Int.reduceMul, Int.reduceLT, Int.reduceLE, Int.reduceEq, Nat.reduceEqDiff, reduceCtorEq, List.mem_singleton, eq_self, not_true_eq_false, not_false_eq_true, or_true, true_or, cmpOk_lstA, cmpOk_tupA, ckA_lst, ckA_tup, ckAl_nil, ckAl_cons, ckAl_ints, ckAl_rangeL, ck_int, ck_bl, ck_non, ck_strI, cmpOk_str, deq_str, deq_tup, deq_lst, deqA_nil, deqA_cons, deqA_ints, Bool.and_true, Bool.true_and, Bool.and_false, Bool.false_and, decide_true, decide_false, Bool.not_true, Bool.not_false, ↓pDraw, ↓p__law_is, ↓p_dealt_rooms, ↓p_rooms_needed, a1, a2, atI0, atI1]
        refine ⟨cmpOk_optD, ?_⟩
        rw [show deq (optD g) (.int (r : Int)) = decide (g = some (r : Int)) from deq_optD (r' := some (r : Int))]
        by_cases c1 : g = some (r : Int)
        · rw [if_pos (decide_eq_true c1)]
          by_cases c2 : c < y
          · rw [if_pos c2]
            by_cases c3 : x < d
            · rw [if_pos c3]
              exact ⟨hbl, yes ⟨c1, c2, c3⟩⟩
            · rw [if_neg c3]
              exact no fun w => c3 w.2.2
          · rw [if_neg c2]
            exact no fun w => c2 w.2.1
        · rw [if_neg (by simpa using c1)]
          exact no fun w => c1 w.1
      rintro bs ⟨e1, e2⟩
      refine h3 _ _ ?_
      clear h3
      walk_at "pl"
      have key : 0 < bs.length ↔ Taken (tri S) R' i r x := by
        rw [e1, rangeL_len]
        constructor
        · rintro ⟨z, z1, z2, p, z3, z4, z5⟩
          obtain ⟨k, u, q, k1, k2, k3, k4, k5⟩ := g4.of z _ z2
          obtain ⟨pl', p', h1, rfl, _⟩ := tri_at k2
          have : pl' = z := by have k4 : ((pl' : Int)).toNat = z := k4; omega
          subst this
          rw [z3] at h1
          cases h1
          have : q = r := by omega
          subst this
          exact ⟨k, _, k1, k2, k3, z5⟩
        · rintro ⟨k, u, k1, k2, k3, k4⟩
          have h5 := g4.on k u r k1 k2 k3
          have h6 := tri_le k1 k2 ht
          obtain ⟨pl', p', h1, rfl, h2⟩ := tri_at k2
          have h6 : p'.1 ≤ x := h6
          exact ⟨pl', by omega, h5, p', h1, by omega, k4⟩
      by_cases c : 0 < bs.length
      · rw [if_pos (by omega)]
        have ht := key.mp c
        refine hJ2 _ _ _ ⟨rfl, r + 1, _, _, fun q hq => ?_, .inl ?_, by rw [show ((r + 1 : Nat) : Int) = (r : Int) + 1 by omega]⟩
        · by_cases e : q = r
          · rw [e]; exact ht
          · exact q1 q (by omega)
        · rcases q2 with w | w
          · omega
          · exact absurd ht w
      · rw [if_neg (by omega)]
        exact hJ2 _ _ _ ⟨rfl, r, _, _, q1, .inr fun w => c (key.mpr w), rfl⟩
    rintro ρ M2 ⟨rfl, r, b10, b11, q1, q2, rfl⟩
    refine h2 _ _ ?_
    clear h2
    have hnt : ¬ Taken (tri S) R' i r x := by
      rcases q2 with w | w
      · rw [rangeL_len] at w
        obtain ⟨k, u, k1, k2, k3, _⟩ := q1 i (by omega)
        have := dealt_le g2 (by omega) k i k1 k3
        omega
      · exact w
    have hx : ixN G.length (pl : Int) = some pl := by
      unfold ixN
      rw [if_pos (by omega), if_pos (by omega), Int.toNat_natCast]
    simp only [↓sSeq, ↓sAsg, ↓sRet, ↓sRetN, ↓sIf, ↓sDrop, ↓sPar, ↓sAug, ↓sNext, ↓sTgt, ↓sApp, ↓sExt, ↓sPop, ↓sSet, ↓sBreak, ↓sCont, ↓eVar, ↓bVar, ↓eMov, ↓bE, ↓eBin, ↓tE, ↓eChain_eq, chS_bl, chS_true, chS_false, wipeE_nil, wipeE_cons, ↓eUn, ↓qAnd, ↓qOr, ↓qNot, ↓eAnd_eq, ↓eOr_eq, ↓sNever, ↓eNot, ↓eIf, ↓aNil, ↓aCons, ↓aConsB, ↓eTup, ↓eLst, ↓iSeq, ↓iR1, ↓iR2, ↓iEnum1, ↓iRev1, ↓cSortD,  ↓gN, ↓gsNil, ↓gsCons, ↓gT, ↓eCall, ↓eCallX, ↓sRaise, ↓sTry, ↓dI2, ↓dAdd, ↓dEq, ↓dNe, ↓dIsN, ↓dNotN, ↓dIx, ↓oNone, ↓oSome, ↓eSl, ↓eB, ↓cLen, ↓cInt, ↓cAbs, ↓cMax2, ↓cMin2, ↓cDivmod, ↓cList, ↓cTuple, ↓cSum, ↓cMax, ↓cMin, ↓cAll, ↓cAny, ↓cSorted, ↓dIn, ↓dInX, ↓eM, ↓mIndex, ↓tyM, ↓gSq, ↓cSet, natc0, natc1, natc2, List.findIdx?_cons, List.findIdx?_nil, intsOf_ints, boolsOf_bls, plAnyI, plAnyR, ↓cGcd, ↓cLcm, ↓eRange, ↓eIsi, ↓Sl.val, ↓Ow.toD, ↓stE, ↓tYes', ↓eIxM, ↓sSetM, ↓PL.isNon, ↓eC, ↓bC, ↓dSub, ↓dMul, ↓dDiv, ↓dMod, ↓dPow, ↓dLt, ↓dLe, ↓dGt, ↓dGe, ↓dAddI, ↓dDivS, ↓dEqI, ↓dNeI,
  List.getElem?_cons_zero, List.getElem?_cons_succ, List.set_cons_zero, List.set_cons_succ, List.map_cons, List.map_nil, List.length_cons, List.length_nil, List.nil_append, List.cons_append, List.replicate_succ, List.replicate_zero, List.append_nil, atI0, atI1, atI2, atI3, atI4,
  cmpOk_int, cmpOk_bl, cmpOk_non, deq_int, deq_bl, true_and, and_true, Nat.reduceAdd, Nat.reduceSub, Nat.reduceLeDiff, Nat.reduceLT, Bool.not_eq_true', Bool.false_eq_true, if_false, if_true, decide_eq_true_eq, decide_eq_false_iff_not, Nat.zero_add, Nat.sub_zero, Nat.add_zero, Nat.sub_self, isi_non_bool, isi_non_int, isi_non_str, isi_non_list, isi_non_tuple, isi_bl_bool, isi_bl_int, isi_bl_str, isi_bl_list, isi_bl_tuple, isi_int_bool, isi_int_int, isi_int_str, isi_int_list, isi_int_tuple, isi_str_bool, isi_str_int, isi_str_str, isi_str_list, isi_str_tuple, isi_lst_bool, isi_lst_int, isi_lst_str, isi_lst_list, isi_lst_tuple, isi_tup_bool, isi_tup_int, isi_tup_str, isi_tup_list, isi_tup_tuple, ixN31, ixN32, List.length_map, List.length_set, Int.reduceToNat, Int.reducePow, Int.reduceNeg, Int.reduceAdd, Int.reduceSub, Int.reduceMul, Int.reduceLT, Int.reduceLE, Int.reduceEq, Nat.reduceEqDiff, reduceCtorEq, List.mem_singleton, eq_self, not_true_eq_false, not_false_eq_true, or_true, true_or, cmpOk_lstA, cmpOk_tupA, ckA_lst, ckA_tup, ckAl_nil, ckAl_cons, ckAl_ints, ckAl_rangeL, ck_int, ck_bl, ck_non, ck_strI, cmpOk_str, deq_str, deq_tup, deq_lst, deqA_nil, deqA_cons, deqA_ints, Bool.and_true, Bool.true_and, Bool.and_false, Bool.false_and, decide_true, decide_false, Bool.not_true, Bool.not_false, ↓pDraw, ↓p__law_is, ↓p_dealt_rooms, ↓p_rooms_needed, hx]
    have := hJ (i + 1) [.un, .va (.ref T), .va (.lst (S.map spD)), .va (.int (pl : Int)), b, .ow (.lst (F.map D.int)), .ow (.lst ((G.set pl (some (r : Int))).map optD)), .va (.lst ((tri S).map neD)), .va (.tup [.int x, .int y]), .va (.int (r : Int)), b10, b11, .un, .un, .un, .un, .un] [(T, MO.tape)] ⟨rfl, hilt, R' ++ [r], _, _, _, _, _, _, by rw [List.length_append, g1]; rfl, g2.snoc g1 ht hnt q1, by rw [List.length_set]; exact g3, ⟨fun j u q hj hu hq' => ?_, fun p v hv => ?_⟩, rfl⟩
    · rw [List.map_set] at this
      exact this
    · by_cases e : j = i
      · subst e
        rw [ht] at hu
        cases hu
        rw [List.getElem?_append_right (by omega), g1, Nat.sub_self] at hq'
        cases hq'
        show (G.set pl (some (r : Int)))[(pl : Int).toNat]? = some (some (r : Int))
        rw [Int.toNat_natCast, List.getElem?_set_self (by omega)]
      · rw [List.getElem?_append_left (by omega)] at hq'
        have hne : u.2.2.toNat ≠ pl := fun w => e (tri_inj hu ht (by rw [w]; show pl = (pl : Int).toNat; omega))
        rw [List.getElem?_set_ne (Ne.symm hne)]
        exact g4.on j u q (by omega) hu hq'
    · by_cases e : p = pl
      · subst e
        rw [List.getElem?_set_self (by omega)] at hv
        cases hv
        exact ⟨i, _, r, by omega, ht, by rw [List.getElem?_append_right (by omega), g1, Nat.sub_self]; rfl, by show (p : Int).toNat = p; omega, rfl⟩
      · rw [List.getElem?_set_ne (Ne.symm e)] at hv
        obtain ⟨j, u, q, k1, k2, k3, k4, k5⟩ := g4.of p v hv
        exact ⟨j, u, q, by omega, k2, by rw [List.getElem?_append_left (by omega)]; exact k3, k4, k5⟩
  rintro ρ M1 ⟨rfl, hi, R', G, b3, b8, b9, b10, b11, g1, g2, g3, g4, rfl⟩
  rw [List.length_map, hTl] at g1 g2 g4
  refine h1 _ _ ?_
  clear h1
  refine sSeq_i fun N1 h1 => ?_
  walk_at "pl"
  have hRR : R' = R := dealt_uniq ⟨by rw [g1, hTl], by rw [hTl]; exact g2⟩ hR
  subst hRR
  have hFG : G.map optD = F.map D.int := by
    refine List.ext_getElem? fun i => ?_
    rw [List.getElem?_map, List.getElem?_map]
    by_cases c : i < S.length
    · obtain ⟨j, t, hj, rfl⟩ := tri_ex c
      have hjl := (List.getElem?_eq_some_iff.mp hj).1
      rw [hTl] at hjl
      have hr : R'[j]? = some (R'[j]'(by omega)) := List.getElem?_eq_getElem _
      have e1 : F[t.2.2.toNat]? = some ((R'[j]'(by omega) : Nat) : Int) := hA j t _ hjl hj hr
      rw [g4.on j t _ hjl hj hr, e1]
      rfl
    · rw [List.getElem?_eq_none (by omega), List.getElem?_eq_none (by omega)]
      rfl
  rw [hFG, lawIs_self (cmpOk_lstA.mpr ckAl_ints), if_neg (by decide)]
  refine ⟨ckAl_ints, h1 _ _ ?_⟩
  clear h1
  refine sSeq_i fun N1 h1 => ?_
  walk_at "pl"
  refine h1 _ _ ?_
  clear h1
  refine sSeq_i fun N1 h1 => ?_
  refine sFor_k fun N hN => ?_
  walk_at "pl"
  refine hN _ _ _ ?_
  clear hN
  refine loop_i (fun i ρ M1 => M1 = [(T, MO.tape)] ∧ ∃ (most : Int) (b13 : Sl), (∀ m : Int, 0 ≤ m → m < i → (cov S m : Int) ≤ most) ∧ (most = 0 ∨ ∃ m : Int, most = cov S m) ∧ 0 ≤ most ∧ ρ = [.un, .va (.ref T), .va (.lst (S.map spD)), b3, b, .va (.lst (F.map D.int)), .va (.lst (F.map D.int)), .va (.lst ((tri S).map neD)), b8, b9, b10, b11, .va (.int most), b13, .un, .un, .un]) ⟨rfl, 0, _, fun m m0 m1 => by omega, .inl rfl, Int.le_refl _, rfl⟩ ?_ ?_
  · rintro J hJ i dd ρ M1 hd ⟨rfl, most, b13, m1, m2, m3, rfl⟩
    obtain ⟨rfl, hi⟩ := rangeL_get hd
    rw [show (0 : Int) + (i : Nat) = (i : Nat) by omega]
    walk_at "gn"
    walk_at "pl"
    refine eLc_k fun N hN => ?_
    walk_at "pl"
    refine hN _ _ _ ?_
    clear hN
    refine eLc_inv D.int (fun j bs => bs.length = ((S.take j).filter fun p => decide (p.1 ≤ (i : Int) ∧ (i : Int) < p.2)).length) (S.map spD) _ _ (fun Q h => h) rfl rfl ?_ ?_
    · rintro j d bs J3 hd3 e1 hJ3
      obtain ⟨⟨c, d⟩, hp, rfl⟩ := map_get hd3
      have hjl := (List.getElem?_eq_some_iff.mp hp).1
      have hfl := List.length_filter_le (fun p : Sp => decide (p.1 ≤ (i : Int) ∧ (i : Int) < p.2)) (S.take j)
      rw [List.length_take] at hfl
      rw [spD_eq]
      walk_at "gn"
      walk_at "pl"
      by_cases c1 : c ≤ (i : Int)
      · rw [if_pos c1]
        by_cases c2 : (i : Int) < d
        · rw [if_pos c2]
          have := hJ3 (bs ++ [1]) (by rw [flt_tS hp ⟨c1, c2⟩, List.length_append, List.length_append, e1]; rfl)
          rw [List.map_append] at this
          exact ⟨by omega, this⟩
        · rw [if_neg c2]
          exact hJ3 bs (by rw [flt_fS hp fun w => c2 w.2, e1])
      · rw [if_neg c1]
        exact hJ3 bs (by rw [flt_fS hp fun w => c1 w.1, e1])
    rintro bs e1
    rw [List.length_map, List.take_length] at e1
    walk_at "pl"
    have e1 : (bs.length : Int) = cov S i := by rw [e1]; rfl
    refine hJ _ _ _ ⟨rfl, _, _, fun m k0 k1 => ?_, ?_, ?_, rfl⟩
    · by_cases e : m = (i : Int)
      · subst e
        split <;> omega
      · have := m1 m k0 (by omega)
        split <;> omega
    · split
      · exact .inr ⟨i, e1⟩
      · exact m2
    · split <;> omega
  rintro ρ M1 ⟨rfl, most, b13, m1, m2, m3, rfl⟩
  refine h1 _ _ ?_
  clear h1
  walk_at "pl"
  refine ⟨S, rfl, fun p hp => (hS p hp).1, by omega, fun R2 v hR2 hv => ?_⟩
  rw [rooms_most hS hR2 hv (fun m k0 k1 => m1 m k0 (by rw [rangeL_len]; omega)) m2]
  rw [decide_eq_true rfl]

end
/-! ### the head -/
theorem facts {P : Program} {w : World} {K : PySem.W.Frag} {h : Heap} {mg : Str → Option Value} {f : Addr} (X : K.In h) (G : h.Ns mainGlobals mg) (hfa : mg ("law" : Str) = some (.ref f)) (c : SaysE fa fn ex K) :
    ∃ fd : FuncData, (∀ (s : Shared) (v : Value), BindsTo s fd ⟨[v], []⟩ [("script", v)]) ∧ ∀ base : Heap, K.In base → base.Ns mainGlobals mg → FnOk P w K mg base CX0 3 f fd ["script"] (spLaw K) := by
  obtain ⟨x_dealt_rooms, F_dealt_rooms⟩ := c.d.def_ 0 (d := d_dealt_rooms) rfl
  obtain ⟨x_rooms_needed, F_rooms_needed⟩ := c.d.def_ 1 (d := d_rooms_needed) rfl
  obtain ⟨x__law_is, F__law_is⟩ := c.d.def_ 2 (d := d__law_is) rfl
  obtain ⟨x__law_draw, F__law_draw⟩ := c.d.def_ 3 (d := d__law_draw) rfl
  obtain ⟨x__law_tape, F__law_tape⟩ := c.d.def_ 4 (d := d__law_tape) rfl
  obtain ⟨x_law, F_law⟩ := c.d.def_ 5 (d := d_law) rfl
  have g_dealt_rooms := He.glo_ok X G (c.d.fact 0 (f := .glo "dealt_rooms") rfl)
  have g_rooms_needed := He.glo_ok X G (c.d.fact 1 (f := .glo "rooms_needed") rfl)
  have g__law_is := He.glo_ok X G (c.d.fact 2 (f := .glo "_law_is") rfl)
  have g__law_draw := He.glo_ok X G (c.d.fact 3 (f := .glo "_law_draw") rfl)
  have g__law_tape := He.glo_ok X G (c.d.fact 4 (f := .glo "_law_tape") rfl)
  have g_law := He.glo_ok X G (c.d.fact 5 (f := .glo "law") rfl)
  have m_bool := He.free_ok X G (c.d.fact 6 (f := .free "bool") rfl)
  have m_enumerate := He.free_ok X G (c.d.fact 7 (f := .free "enumerate") rfl)
  have m_int := He.free_ok X G (c.d.fact 8 (f := .free "int") rfl)
  have m_isinstance := He.free_ok X G (c.d.fact 9 (f := .free "isinstance") rfl)
  have m_len := He.free_ok X G (c.d.fact 10 (f := .free "len") rfl)
  have m_list := He.free_ok X G (c.d.fact 11 (f := .free "list") rfl)
  have m_max := He.free_ok X G (c.d.fact 12 (f := .free "max") rfl)
  have m_range := He.free_ok X G (c.d.fact 13 (f := .free "range") rfl)
  have m_sorted := He.free_ok X G (c.d.fact 14 (f := .free "sorted") rfl)
  have m_str := He.free_ok X G (c.d.fact 15 (f := .free "str") rfl)
  have m_tuple := He.free_ok X G (c.d.fact 16 (f := .free "tuple") rfl)
  have hex := c.x
  have e := hfa.symm.trans g_law
  cases e
  let T : TF K mg := {
    a_dealt_rooms := He.ga K "dealt_rooms"
    x_dealt_rooms := x_dealt_rooms
    f_dealt_rooms := F_dealt_rooms
    g_dealt_rooms := g_dealt_rooms
    b_dealt_rooms := FunD.bindsN (ps := ["spans"]) F_dealt_rooms fun _ _ _ _ _ _ us hl => match us, hl with | [_], _ => rfl
    a_rooms_needed := He.ga K "rooms_needed"
    x_rooms_needed := x_rooms_needed
    f_rooms_needed := F_rooms_needed
    g_rooms_needed := g_rooms_needed
    b_rooms_needed := FunD.bindsN (ps := ["spans"]) F_rooms_needed fun _ _ _ _ _ _ us hl => match us, hl with | [_], _ => rfl
    a__law_is := He.ga K "_law_is"
    x__law_is := x__law_is
    f__law_is := F__law_is
    g__law_is := g__law_is
    b__law_is := FunD.bindsN (ps := ["told", "due"]) F__law_is fun _ _ _ _ _ _ us hl => match us, hl with | [_, _], _ => rfl
    a__law_draw := He.ga K "_law_draw"
    x__law_draw := x__law_draw
    f__law_draw := F__law_draw
    g__law_draw := g__law_draw
    b__law_draw := FunD.bindsN (ps := ["tape", "many"]) F__law_draw fun _ _ _ _ _ _ us hl => match us, hl with | [_, _], _ => rfl
    a__law_tape := He.ga K "_law_tape"
    x__law_tape := x__law_tape
    f__law_tape := F__law_tape
    g__law_tape := g__law_tape
    b__law_tape := FunD.bindsN (ps := ["script"]) F__law_tape fun _ _ _ _ _ _ us hl => match us, hl with | [_], _ => rfl
    a_law := He.ga K "law"
    x_law := x_law
    f_law := F_law
    g_law := g_law
    b_law := FunD.bindsN (ps := ["script"]) F_law fun _ _ _ _ _ _ us hl => match us, hl with | [_], _ => rfl
    m_bool := m_bool
    m_enumerate := m_enumerate
    m_int := m_int
    m_isinstance := m_isinstance
    m_len := m_len
    m_list := m_list
    m_max := m_max
    m_range := m_range
    m_sorted := m_sorted
    m_str := m_str
    m_tuple := m_tuple }
  have b := FunD.bindsA (ps := ["script"]) F_law fun _ _ _ _ _ _ us hl => match us, hl with | [_], _ => rfl
  exact ⟨x_law, fun s v => b s [v] rfl, fun base _ _ => ok_law T⟩
end Lw
open PySem PySem.W PySem.Calls PyProof.Rows
set_option maxHeartbeats 0 in
theorem PySem.Challenge.cw_everdays_k48_whole_rooms_dealt_out_holds : PySem.Challenge.rw_everdays_k48_whole_rooms_dealt_out.Holds := by
  w_on; o_law
  refine HandSHeadRun.head_any (r := OpenLaw.row PySem.Challenge.rw_everdays_k48_whole_rooms_dealt_out) (q := view (OpenLaw.row PySem.Challenge.rw_everdays_k48_whole_rooms_dealt_out).prog [7]) (H := Lw.hk) (ob := Lw.headOb) (M := 1080) (loose := Lw.loose) (d := HandSHeadRun.topDef (OpenLaw.row PySem.Challenge.rw_everdays_k48_whole_rooms_dealt_out).prog 7) (kwd := []) Lw.headOb_eq
    (by kernel_rfl) (fun s => by kernel_rfl) Lw.run (by kernel_rfl) (by kernel_rfl) (by kernel_rfl) (by rfl) (by first | assumption | decide +kernel) (by decide +kernel) ⟨rfl, rfl, rfl, rfl, rfl, by decide +kernel⟩ ?hw ?hc
  case hw => w_witness2
  case hc =>
    refine L2.walk_ofE (l := PySem.Challenge.rw_everdays_k48_whole_rooms_dealt_out) (n := 63) (k := 3) (x := "script") (CX := L2.CX0) rfl (by decide) (by kernel_rfl) ⟨rfl, by decide, by decide⟩ ?F (fun _ _ _ _ z => z)
    intro w mg fa h Y G hmg0
    obtain ⟨K, KX, c⟩ := Y
    have hmg : mg ("law" : PySem.Str) = some (.ref fa) := by
      have e : (HandSHeadRun.topDef (OpenLaw.row PySem.Challenge.rw_everdays_k48_whole_rooms_dealt_out).prog 7).name = ("law" : PySem.Str) := by kernel_rfl
      rw [← e]
      exact hmg0
    obtain ⟨fd, hb, hF⟩ := Lw.facts (P := (PySem.Challenge.rw_everdays_k48_whole_rooms_dealt_out).prog) (w := w) KX G hmg c
    exact ⟨K, fd, PL.spLaw K, KX, hb, fun H a ns hl _ hS => ⟨a, ns, rfl, hS, fun _ => rfl⟩, hF⟩
