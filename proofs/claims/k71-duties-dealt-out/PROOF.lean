import PyProof.Rows.All
import Wide.All
import OpenK.AllK
import Wide.FinOn
import HandS.ForMost
import HandS.ForExc
import HandS.Wide
import HandS.IsInst
import HandS.Deep
import HandS.Flow
import HandS.TupAny
import HandS.SortInts
import HandS.Gcd
import HandS.Conv
import HandS.Defaults
import HandS.Head0
import HandS.Head1
import HandS.Head2
import HandS.HeadEnd
import HandS.HeadHook1
import HandS.HeadHook2
import HandS.TryOnly
import HandS.SetFor
import HandS.ExcOwn
import HandS.WordsExc
import HandS.Iter
import KE.GoesEnum
import HandS.Strs
import HandS.SetFor
import KE.SortData
import KE.DataMinMax
import PySem.Challenge.RW_everdays_k71_duties_dealt_out
set_option Elab.async false
set_option linter.all false
set_option maxRecDepth 100000
set_option maxHeartbeats 8000000
/-! A layer of pure data over HandS: slots hold values (data without addresses) or lists of one's own; readings speak of data alone. -/
namespace PL
open PySem PySem.Spec PyProof.Rows L2

/-! ### data -/
inductive D where
  | non | bl (b : Bool) | int (i : Int) | str (x : Str) | tup (xs : List D) | lst (xs : List D) | ref (a : Addr) | ty (n : String) | set (f : Int → Bool) (n : Nat) | dic (ks : List Key) (xs : List D)
abbrev Fg := PySem.W.Frag
abbrev St := L2.St
mutual
inductive Rp (K : Fg) (S : Hp) : V → D → Prop
  | non : Rp K S .non .non
  | bl (b : Bool) : Rp K S (.bl b) (.bl b)
  | int (i : Int) : Rp K S (.int i) (.int i)
  | str (x : Str) : Rp K S (.str x) (.str x)
  | ty (n : String) : Rp K S (.ty n) (.ty n)
  | ref (a : Addr) : Rp K S (.ref a) (.ref a)
  | lst {a : Addr} {xs : List V} {ds : List D} : S a = some (.lst xs) → RpA K S xs ds → Rp K S (.ref a) (.lst ds)
  | tup {a : Addr} {xs : List V} {ds : List D} : SqT K S a xs → RpA K S xs ds → Rp K S (.ref a) (.tup ds)
  | set {a : Addr} {f : Int → Bool} {n : Nat} : S a = some (.set f n) → Rp K S (.ref a) (.set f n)
  | dic {a : Addr} {ks : List Key} {xs : List V} {ds : List D} : S a = some (.dK (ks.zip xs)) → ks.length = xs.length → RpA K S xs ds → Rp K S (.ref a) (.dic ks ds)
inductive RpA (K : Fg) (S : Hp) : List V → List D → Prop
  | nil : RpA K S [] []
  | cons {v : V} {vs : List V} {d : D} {ds : List D} : Rp K S v d → RpA K S vs ds → RpA K S (v :: vs) (d :: ds)
end
theorem same_seqT {K : Fg} {H H' : Hp} {a : Addr} {xs : List V} (e : Same H H') (h : SqT K H a xs) : SqT K H' a xs := by
  rcases h with (h | ⟨o, h⟩) | h
  · exact .inl (.inl (e _ _ h))
  · exact .inl (.inr ⟨o, e _ _ h⟩)
  · exact .inr h
mutual
theorem Rp.ext {K : Fg} {S S' : Hp} (e : Same S S') : ∀ (d : D) (v : V), Rp K S v d → Rp K S' v d
  | .non, _, h => by cases h; exact .non
  | .bl b, _, h => by cases h; exact .bl b
  | .int i, _, h => by cases h; exact .int i
  | .str x, _, h => by cases h; exact .str x
  | .ty n, _, h => by cases h; exact .ty n
  | .ref a, _, h => by cases h; exact .ref a
  | .lst ds, _, h => by cases h with | lst a b => exact .lst (e _ _ a) (RpA.ext e ds _ b)
  | .tup ds, _, h => by cases h with | tup a b => exact .tup (same_seqT e a) (RpA.ext e ds _ b)
  | .set f n, _, h => by cases h with | set a => exact .set (e _ _ a)
  | .dic ks ds, _, h => by cases h with | dic a l b => exact .dic (e _ _ a) l (RpA.ext e ds _ b)
theorem RpA.ext {K : Fg} {S S' : Hp} (e : Same S S') : ∀ (ds : List D) (vs : List V), RpA K S vs ds → RpA K S' vs ds
  | [], _, h => by cases h; exact .nil
  | d :: ds, _, h => by cases h with | cons a b => exact .cons (Rp.ext e d _ a) (RpA.ext e ds _ b)
end
section
variable {K : Fg} {S : Hp}
theorem RpA.length : ∀ {ds : List D} {vs : List V}, RpA K S vs ds → vs.length = ds.length
  | [], _, h => by cases h; rfl
  | d :: ds, _, h => by cases h with | cons a b => rw [List.length_cons, List.length_cons, RpA.length b]
theorem RpA.get : ∀ {ds : List D} {vs : List V} {i : Nat} {d : D}, RpA K S vs ds → ds[i]? = some d → ∃ v, vs[i]? = some v ∧ Rp K S v d
  | [], _, _, _, _, e => by simp at e
  | c :: ds, _, 0, d, h, e => by cases h with | cons a b => simp at e; subst e; exact ⟨_, rfl, a⟩
  | c :: ds, _, i + 1, d, h, e => by
    cases h with
    | cons a b =>
      obtain ⟨v, h1, h2⟩ := RpA.get (i := i) b (by simpa using e)
      exact ⟨v, by simpa using h1, h2⟩
theorem RpA.getV {ds : List D} {vs : List V} {i : Nat} {v : V} (h : RpA K S vs ds) (e : vs[i]? = some v) : ∃ d, ds[i]? = some d ∧ Rp K S v d := by
  have hl := h.length
  have hi : i < vs.length := (List.getElem?_eq_some_iff.mp e).1
  have q : ds[i]? = some ds[i] := List.getElem?_eq_getElem (by omega)
  obtain ⟨u, h1, h2⟩ := h.get q
  rw [e] at h1
  cases h1
  exact ⟨_, q, h2⟩
theorem RpA.append : ∀ {ds : List D} {vs : List V} {es : List D} {us : List V}, RpA K S vs ds → RpA K S us es → RpA K S (vs ++ us) (ds ++ es)
  | [], _, _, _, h, k => by cases h; exact k
  | d :: ds, _, _, _, h, k => by cases h with | cons a b => exact .cons a (b.append k)
theorem RpA.one {v : V} {d : D} (h : Rp K S v d) : RpA K S [v] [d] := .cons h .nil
theorem RpA.set : ∀ {ds : List D} {vs : List V} {i : Nat} {v : V} {d : D}, RpA K S vs ds → Rp K S v d → RpA K S (vs.set i v) (ds.set i d)
  | [], _, _, _, _, h, _ => by cases h; exact .nil
  | c :: ds, _, 0, _, _, h, k => by cases h with | cons a b => exact .cons k b
  | c :: ds, _, i + 1, _, _, h, k => by cases h with | cons a b => exact .cons a (b.set k)
theorem RpA.take : ∀ {ds : List D} {vs : List V} (n : Nat), RpA K S vs ds → RpA K S (vs.take n) (ds.take n)
  | [], _, n, h => by cases h; simp; exact .nil
  | c :: ds, _, 0, h => by simp; exact .nil
  | c :: ds, _, n + 1, h => by cases h with | cons a b => exact .cons a (b.take n)
theorem RpA.drop : ∀ {ds : List D} {vs : List V} (n : Nat), RpA K S vs ds → RpA K S (vs.drop n) (ds.drop n)
  | [], _, n, h => by cases h; simp; exact .nil
  | c :: ds, _, 0, h => h
  | c :: ds, _, n + 1, h => by cases h with | cons a b => exact b.drop n
theorem RpA.ints : ∀ {ns : List Int}, RpA K S (ns.map V.int) (ns.map D.int)
  | [] => .nil
  | n :: ns => .cons (.int n) RpA.ints
theorem RpA.intsV : ∀ {ns : List Int} {vs : List V}, RpA K S vs (ns.map D.int) → vs = ns.map V.int
  | [], _, h => by cases h; rfl
  | n :: ns, _, h => by cases h with | cons a b => cases a; rw [RpA.intsV b]; rfl
theorem RpA.blsV : ∀ {ns : List Bool} {vs : List V}, RpA K S vs (ns.map D.bl) → vs = ns.map V.bl
  | [], _, h => by cases h; rfl
  | n :: ns, _, h => by cases h with | cons a b => cases a; rw [RpA.blsV b]; rfl
theorem RpA.reverse : ∀ {ds : List D} {vs : List V}, RpA K S vs ds → RpA K S vs.reverse ds.reverse
  | [], _, h => by cases h; exact .nil
  | d :: ds, _, h => by
    cases h with
    | cons a b =>
      rw [List.reverse_cons, List.reverse_cons]
      exact b.reverse.append (.one a)
end

/-! ### what stands in a slot; what may be changed -/
inductive Ow where
  | lst (ds : List D)
def Ow.toD : Ow → D
  | .lst ds => .lst ds
def OwOk (K : Fg) (S H : Hp) (a : Addr) : Ow → Prop
  | .lst ds => ∃ xs, H a = some (.lst xs) ∧ RpA K S xs ds
inductive Sl where
  | un | va (d : D) | ow (o : Ow)
def Sl.val : Sl → D
  | .un => .non
  | .va d => d
  | .ow o => o.toD
/-- objects known by their address: the law's tape, a list that several hold -/
inductive MO where
  | tape | lst (ds : List D)
def MOk (K : Fg) (S H : Hp) (a : Addr) : MO → Prop
  | .tape => ∃ c ns k x, H a = some (.lst [.ref c, .int k, .int x]) ∧ S c = some (.lst (List.map V.int ns)) ∧ (0 : Int) ≤ k ∧ (0 : Int) ≤ x
  | .lst ds => ∃ xs, H a = some (.lst xs) ∧ RpA K S xs ds
abbrev Mu := List (Addr × MO)
abbrev Ev := List Sl
theorem MOk.at {K : Fg} {S H : Hp} {a : Addr} : ∀ {o : MO}, MOk K S H a o → ∃ u, H a = some u
  | .tape, ⟨_, _, _, _, e, _⟩ => ⟨_, e⟩
  | .lst _, ⟨_, e, _⟩ => ⟨_, e⟩
theorem OwOk.at {K : Fg} {S H : Hp} {a : Addr} : ∀ {o : Ow}, OwOk K S H a o → ∃ u, H a = some u
  | .lst _, ⟨_, e, _⟩ => ⟨_, e⟩
theorem MOk.ext {K : Fg} {S H S' H' : Hp} {a : Addr} (e : Same S S') (k : H' a = H a) : ∀ {o : MO}, MOk K S H a o → MOk K S' H' a o
  | .tape, ⟨c, ns, i, x, h, q, r⟩ => ⟨c, ns, i, x, k.trans h, e _ _ q, r⟩
  | .lst _, ⟨xs, h, q⟩ => ⟨xs, k.trans h, RpA.ext e _ _ q⟩
theorem OwOk.ext {K : Fg} {S H S' H' : Hp} {a : Addr} (e : Same S S') (k : H' a = H a) : ∀ {o : Ow}, OwOk K S H a o → OwOk K S' H' a o
  | .lst _, ⟨xs, h, q⟩ => ⟨xs, k.trans h, RpA.ext e _ _ q⟩

/-- what an expression, a call may do: objects known by address change, all else stands, new things come -/
structure Step (S : Hp) (M : Mu) (H S' : Hp) (M' : Mu) (H' : Hp) : Prop where
  same : Same S S'
  keep : ∀ b o, H b = some o → (∀ p ∈ M, p.1 ≠ b) → H' b = some o
  mnew : ∀ p ∈ M', (∃ q ∈ M, q.1 = p.1) ∨ H p.1 = none
  dom : ∀ b, H b ≠ none → H' b ≠ none
section
variable {S S1 S2 S' H H1 H2 H' : Hp} {M M1 M2 M' : Mu}
theorem Step.refl : Step S M H S M H := ⟨.refl _, fun _ _ h _ => h, fun p hp => .inl ⟨p, hp, rfl⟩, fun _ h => h⟩
theorem Step.trans (a : Step S M H S1 M1 H1) (b : Step S1 M1 H1 S2 M2 H2) : Step S M H S2 M2 H2 := by
  refine ⟨a.same.trans b.same, fun c o h n => ?_, fun p hp => ?_, fun c h => b.dom c (a.dom c h)⟩
  · refine b.keep c o (a.keep c o h n) fun p hp e => ?_
    rcases a.mnew p hp with ⟨q, hq, e2⟩ | e2
    · exact n q hq (e2.trans e)
    · rw [e, h] at e2; cases e2
  · rcases b.mnew p hp with ⟨q, hq, e⟩ | e
    · rcases a.mnew q hq with ⟨r, hr, e2⟩ | e2
      · exact .inl ⟨r, hr, e2.trans e⟩
      · exact .inr (e ▸ e2)
    · refine .inr ?_
      cases h : H p.1 with
      | none => rfl
      | some o => exact absurd e (a.dom p.1 (by rw [h]; simp))
/-- new things alone -/
theorem Step.grow (hS : Same S S') (hH : Same H H') : Step S M H S' M H' :=
  ⟨hS, fun b o h _ => hH b o h, fun p hp => .inl ⟨p, hp, rfl⟩, fun b h => by
    cases e : H b with
    | none => exact absurd e h
    | some o => rw [hH b o e]; simp⟩
end

/-- a def's call: its written part, its entry -/
structure Z where
  K : Fg
  H0 : Hp
  S0 : Hp
  M0 : Mu
  /-- what is not to be known (a comprehension's list) -/
  R : Addr → Prop := fun _ => False
/-- new, and to be known -/
def Z.Nw (z : Z) (a : Addr) : Prop := z.H0 a = none ∧ ¬ z.R a
structure Core (z : Z) (S : Hp) (M : Mu) (H : Hp) : Prop where
  step : Step z.S0 z.M0 z.H0 S M H
  sub : Same S H
  frS : ∀ b, S b ≠ none → z.S0 b ≠ none ∨ z.H0 b = none
  mu : ∀ p ∈ M, S p.1 = none ∧ MOk z.K S H p.1 p.2
  mnd : (M.map (·.1)).Nodup
  rsv : ∀ b, z.R b → S b = none ∧ H b ≠ none ∧ ∀ p ∈ M, p.1 ≠ b
structure Sim (z : Z) (S : Hp) (M : Mu) (ρ : Ev) (σ : St) (H : Hp) : Prop extends Core z S M H where
  len : σ.length = ρ.length
  va : ∀ (i : Nat) d, ρ[i]? = some (.va d) → ∃ v, σ[i]? = some (some v) ∧ Rp z.K S v d
  ow : ∀ (i : Nat) o, ρ[i]? = some (.ow o) → ∃ a, σ[i]? = some (some (.ref a)) ∧ S a = none ∧ z.Nw a ∧ OwOk z.K S H a o ∧ ∀ p ∈ M, p.1 ≠ a
  sep : ∀ (i j : Nat) o o' a, ρ[i]? = some (.ow o) → ρ[j]? = some (.ow o') → σ[i]? = some (some (.ref a)) → σ[j]? = some (some (.ref a)) → i = j
/-- an expression's value -/
def ResE (z : Z) (S : Hp) (M : Mu) (ρ : Ev) (σ : St) (H : Hp) (v : V) : Sl → Prop
  | .un => False
  | .va d => Rp z.K S v d
  | .ow o => ∃ a, v = .ref a ∧ S a = none ∧ z.Nw a ∧ OwOk z.K S H a o ∧ (∀ p ∈ M, p.1 ≠ a) ∧ ∀ (i : Nat) o', ρ[i]? = some (.ow o') → σ[i]? ≠ some (some (.ref a))
/-- a def's value -/
def ResF (z : Z) (S : Hp) (M : Mu) (H : Hp) (v : V) : Sl → Prop
  | .un => False
  | .va d => Rp z.K S v d
  | .ow o => ∃ a, v = .ref a ∧ S a = none ∧ z.Nw a ∧ OwOk z.K S H a o ∧ (∀ p ∈ M, p.1 ≠ a)
/-- a value that is only looked at -/
def Rb (K : Fg) (S : Hp) (M : Mu) (H : Hp) (v : V) (d : D) : Prop :=
  Rp K S v d ∨ ∃ a xs ds, v = .ref a ∧ d = .lst ds ∧ H a = some (.lst xs) ∧ RpA K S xs ds ∧ ∀ p ∈ M, p.1 ≠ a
theorem ResE.f {z : Z} {S : Hp} {M : Mu} {ρ : Ev} {σ : St} {H : Hp} {v : V} {r : Sl} (h : ResE z S M ρ σ H v r) : ResF z S M H v r := by
  cases r with
  | un => exact h
  | va d => exact h
  | ow o => obtain ⟨a, h1, h2, h3, h4, h5, _⟩ := h; exact ⟨a, h1, h2, h3, h4, h5⟩
theorem ResE.rb {z : Z} {S : Hp} {M : Mu} {ρ : Ev} {σ : St} {H : Hp} {v : V} {r : Sl} (h : ResE z S M ρ σ H v r) : Rb z.K S M H v r.val := by
  cases r with
  | un => exact h.elim
  | va d => exact .inl h
  | ow o =>
    cases o with
    | lst ds => obtain ⟨a, h1, h2, h3, ⟨xs, h4, h6⟩, h5, _⟩ := h; exact .inr ⟨a, xs, ds, h1, rfl, h4, h6, h5⟩
theorem Rb.step {K : Fg} {S S' : Hp} {M M' : Mu} {H H' : Hp} {v : V} {d : D} (h : Rb K S M H v d) (t : Step S M H S' M' H') : Rb K S' M' H' v d := by
  rcases h with h | ⟨a, xs, ds, h1, h2, h3, h4, h5⟩
  · exact .inl (Rp.ext t.same _ _ h)
  · refine .inr ⟨a, xs, ds, h1, h2, t.keep a _ h3 h5, RpA.ext t.same _ _ h4, fun p hp e => ?_⟩
    rcases t.mnew p hp with ⟨q, hq, e2⟩ | e2
    · exact h5 q hq (e2.trans e)
    · rw [e, h3] at e2; cases e2

section
variable {z : Z} {S S' : Hp} {M M' : Mu} {ρ : Ev} {σ : St} {H H' : Hp} {v : V} {r : Sl}
theorem Core.h0 (h : Core z S M H) {b : Addr} (e : H b = none) : z.H0 b = none := by
  cases q : z.H0 b with
  | none => rfl
  | some o => exact absurd e (h.step.dom b (by rw [q]; simp))
theorem Core.sNone (h : Core z S M H) {b : Addr} (e : H b = none) : S b = none := by
  cases q : S b with
  | none => rfl
  | some o => rw [h.sub b o q] at e; cases e
theorem Core.grow (h : Core z S M H) (hS : Same S S') (hH : Same H H') (hSH : Same S' H') (fr : ∀ b, S' b ≠ none → S b ≠ none ∨ H b = none) : Core z S' M H' := by
  refine ⟨h.step.trans (.grow hS hH), hSH, fun b e => ?_, fun p hp => ?_, h.mnd, fun b hb => ?_⟩
  · rcases fr b e with e | e
    · exact h.frS b e
    · exact .inr (h.h0 e)
  · obtain ⟨a, b⟩ := h.mu p hp
    obtain ⟨u, hu⟩ := b.at
    refine ⟨?_, b.ext hS ((hH _ _ hu).trans hu.symm)⟩
    cases q : S' p.1 with
    | none => rfl
    | some o =>
      rcases fr p.1 (by rw [q]; simp) with e | e
      · exact absurd a e
      · rw [hu] at e; cases e
  · obtain ⟨r1, r2, r3⟩ := h.rsv b hb
    refine ⟨?_, ?_, r3⟩
    · cases q : S' b with
      | none => rfl
      | some o =>
        rcases fr b (by rw [q]; simp) with e | e
        · exact absurd r1 e
        · exact absurd e r2
    · cases e : H b with
      | none => exact absurd e r2
      | some o => rw [hH b o e]; simp
theorem Core.nw (h : Core z S M H) {b : Addr} (e : H b = none) : z.Nw b := ⟨h.h0 e, fun r => (h.rsv b r).2.1 e⟩
theorem Sim.grow (h : Sim z S M ρ σ H) (hS : Same S S') (hH : Same H H') (hSH : Same S' H') (fr : ∀ b, S' b ≠ none → S b ≠ none ∨ H b = none) : Sim z S' M ρ σ H' := by
  refine ⟨h.toCore.grow hS hH hSH fr, h.len, fun i d e => ?_, fun i o e => ?_, h.sep⟩
  · obtain ⟨v, a, b⟩ := h.va i d e
    exact ⟨v, a, Rp.ext hS _ _ b⟩
  · obtain ⟨a, h1, h2, h3, h4, h5⟩ := h.ow i o e
    obtain ⟨u, hu⟩ := h4.at
    refine ⟨a, h1, ?_, h3, h4.ext hS ((hH _ _ hu).trans hu.symm), h5⟩
    cases q : S' a with
    | none => rfl
    | some o =>
      rcases fr a (by rw [q]; simp) with e | e
      · exact absurd h2 e
      · rw [hu] at e; cases e
theorem same_upd {p : Addr} {o : HO} (hp : H p = none) : Same H (upd H p o) := fun b u e => by rw [upd_ne (ne_of_none e hp)]; exact e
/-- a new thing, known from now on -/
theorem Sim.alloc {p : Addr} {o : HO} (h : Sim z S M ρ σ H) (hp : H p = none) : Sim z (upd S p o) M ρ σ (upd H p o) ∧ Step S M H (upd S p o) M (upd H p o) := by
  have hs : S p = none := h.toCore.sNone hp
  refine ⟨h.grow (same_upd hs) (same_upd hp) (fun b u e => ?_) fun b e => ?_, .grow (same_upd hs) (same_upd hp)⟩
  · by_cases hb : b = p
    · subst hb; rw [upd_same] at e ⊢; exact e
    · rw [upd_ne hb] at e ⊢; exact h.sub b u e
  · by_cases hb : b = p
    · subst hb; exact .inr hp
    · rw [upd_ne hb] at e; exact .inl e
/-- a new thing that nothing is said of -/
theorem Sim.more {p : Addr} {o : HO} (h : Sim z S M ρ σ H) (hp : H p = none) : Sim z S M ρ σ (upd H p o) ∧ Step S M H S M (upd H p o) :=
  ⟨h.grow (.refl _) (same_upd hp) (h.sub.trans (same_upd hp)) fun b e => .inl e, .grow (.refl _) (same_upd hp)⟩
/-- a new list of one's own -/
theorem Sim.fresh {p : Addr} {xs : List V} {ds : List D} (h : Sim z S M ρ σ H) (hp : H p = none) (hr : RpA z.K S xs ds) :
    Sim z S M ρ σ (upd H p (.lst xs)) ∧ Step S M H S M (upd H p (.lst xs)) ∧ ResE z S M ρ σ (upd H p (.lst xs)) (.ref p) (.ow (.lst ds)) := by
  obtain ⟨a, b⟩ := h.more (o := .lst xs) hp
  refine ⟨a, b, p, rfl, h.toCore.sNone hp, h.toCore.nw hp, ⟨xs, upd_same, hr⟩, fun q hq e => ?_, fun i o' e q => ?_⟩
  · obtain ⟨u, hu⟩ := (h.mu q hq).2.at
    rw [e, hp] at hu; cases hu
  · obtain ⟨a, h1, _, _, h4, _⟩ := h.ow i o' e
    rw [q] at h1; cases h1
    obtain ⟨u, hu⟩ := h4.at
    rw [hp] at hu; cases hu
/-- an object of one's own is known from now on -/
theorem Sim.adopt {a : Addr} {o : HO} (h : Sim z S M ρ σ H) (ha : H a = some o) (hs : S a = none) (h0 : z.Nw a) (hm : ∀ p ∈ M, p.1 ≠ a) (hn : ∀ (i : Nat) o', ρ[i]? = some (.ow o') → σ[i]? ≠ some (some (.ref a))) :
    Sim z (upd S a o) M ρ σ H := by
  have hS : Same S (upd S a o) := same_upd hs
  refine ⟨⟨h.step.trans ⟨hS, fun _ _ e _ => e, fun p hp => .inl ⟨p, hp, rfl⟩, fun _ e => e⟩, fun b u e => ?_, fun b e => ?_, fun p hp => ?_, h.mnd, fun b hb => ?_⟩, h.len, fun i d e => ?_, fun i o' e => ?_, h.sep⟩
  · by_cases hb : b = a
    · subst hb; rw [upd_same] at e; cases e; exact ha
    · rw [upd_ne hb] at e; exact h.sub b u e
  · by_cases hb : b = a
    · subst hb; exact .inr h0.1
    · rw [upd_ne hb] at e; exact h.frS b e
  · obtain ⟨q, w⟩ := h.mu p hp
    exact ⟨by rw [upd_ne (hm p hp)]; exact q, w.ext hS rfl⟩
  · obtain ⟨r1, r2, r3⟩ := h.rsv b hb
    exact ⟨by rw [upd_ne (fun e : b = a => h0.2 (by rw [← e]; exact hb))]; exact r1, r2, r3⟩
  · obtain ⟨v, q, w⟩ := h.va i d e
    exact ⟨v, q, Rp.ext hS _ _ w⟩
  · obtain ⟨b, h1, h2, h3, h4, h5⟩ := h.ow i o' e
    refine ⟨b, h1, ?_, h3, h4.ext hS rfl, h5⟩
    rw [upd_ne (fun z => hn i o' e (by rw [← z]; exact h1))]
    exact h2
theorem Sim.freeze (h : Sim z S M ρ σ H) (hr : ResE z S M ρ σ H v r) : ∃ S', Sim z S' M ρ σ H ∧ Step S M H S' M H ∧ Rp z.K S' v r.val := by
  cases r with
  | un => exact hr.elim
  | va d => exact ⟨S, h, .refl, (show Rp z.K S v d from hr)⟩
  | ow o =>
    cases o with
    | lst ds =>
      obtain ⟨a, rfl, h2, h3, ⟨xs, h4, h6⟩, h5, h7⟩ := hr
      have hS : Same S (upd S a (.lst xs)) := same_upd h2
      exact ⟨_, h.adopt h4 h2 h3 h5 h7, .grow hS (.refl _), .lst upd_same (RpA.ext hS _ _ h6)⟩
theorem set_get {α : Type} {l : List α} {i j : Nat} {x y : α} (h : (l.set i x)[j]? = some y) : (i = j ∧ x = y ∧ i < l.length) ∨ (i ≠ j ∧ l[j]? = some y) := by
  rw [List.getElem?_set] at h
  by_cases e : i = j
  · subst e
    rw [if_pos rfl] at h
    by_cases hl : i < l.length
    · rw [if_pos hl] at h
      exact .inl ⟨rfl, Option.some.inj h, hl⟩
    · rw [if_neg hl] at h
      cases h
  · rw [if_neg e] at h
    exact .inr ⟨e, h⟩
/-- a slot is forgotten -/
theorem Sim.drop {i : Nat} (h : Sim z S M ρ σ H) : Sim z S M (ρ.set i .un) σ H := by
  refine ⟨h.toCore, by rw [List.length_set]; exact h.len, fun j d q => ?_, fun j o' q => ?_, fun j k o1 o2 b q1 q2 => ?_⟩
  · rcases set_get q with ⟨_, e, _⟩ | ⟨_, e⟩
    · cases e
    · exact h.va j d e
  · rcases set_get q with ⟨_, e, _⟩ | ⟨_, e⟩
    · cases e
    · exact h.ow j o' e
  · rcases set_get q1 with ⟨_, e, _⟩ | ⟨_, e1⟩
    · cases e
    · rcases set_get q2 with ⟨_, e, _⟩ | ⟨_, e2⟩
      · cases e
      · exact h.sep j k o1 o2 b e1 e2
/-- a slot's list is handed on -/
theorem Sim.move {i : Nat} {o : Ow} (h : Sim z S M ρ σ H) (e : ρ[i]? = some (.ow o)) : ∃ v, σ[i]? = some (some v) ∧ ResE z S M (ρ.set i .un) σ H v (.ow o) := by
  obtain ⟨a, h1, h2, h3, h4, h5⟩ := h.ow i o e
  refine ⟨_, h1, a, rfl, h2, h3, h4, h5, fun j o' q w => ?_⟩
  rcases set_get q with ⟨_, e, _⟩ | ⟨ne, e2⟩
  · cases e
  · exact ne (h.sep i j o o' a e e2 h1 w)
/-- a slot's list is known from now on -/
theorem Sim.freezeSlot {i : Nat} {o : Ow} (h : Sim z S M ρ σ H) (e : ρ[i]? = some (.ow o)) : ∃ S', Sim z S' M (ρ.set i (.va o.toD)) σ H ∧ Step S M H S' M H ∧ ∃ v, σ[i]? = some (some v) ∧ Rp z.K S' v o.toD := by
  obtain ⟨v, h1, hm⟩ := h.move e
  have hi : i < ρ.length := (List.getElem?_eq_some_iff.mp e).1
  obtain ⟨S', s1, s2, s3⟩ := h.drop.freeze hm
  refine ⟨S', ?_, s2, _, h1, s3⟩
  refine ⟨s1.toCore, by rw [List.length_set]; exact h.len, fun j d q => ?_, fun j o' q => ?_, fun j k o1 o2 b q1 q2 => ?_⟩
  · rcases set_get q with ⟨e1, e2, _⟩ | ⟨ne, e2⟩
    · subst e1
      cases e2
      exact ⟨_, h1, s3⟩
    · exact s1.va j d (by rw [List.getElem?_set, if_neg ne]; exact e2)
  · rcases set_get q with ⟨e1, e2, _⟩ | ⟨ne, e2⟩
    · cases e2
    · exact s1.ow j o' (by rw [List.getElem?_set, if_neg ne]; exact e2)
  · rcases set_get q1 with ⟨_, e2, _⟩ | ⟨n1, e1⟩
    · cases e2
    · rcases set_get q2 with ⟨_, e2, _⟩ | ⟨n2, e2⟩
      · cases e2
      · exact s1.sep j k o1 o2 b (by rw [List.getElem?_set, if_neg n1]; exact e1) (by rw [List.getElem?_set, if_neg n2]; exact e2)
/-- a slot is stored -/
theorem Sim.put {i : Nat} (h : Sim z S M ρ σ H) (hr : ResE z S M ρ σ H v r) : Sim z S M (ρ.set i r) (σ.set i (some v)) H := by
  have at_ : ∀ {x : Sl}, i < ρ.length → (σ.set i (some v))[i]? = some (some v) := fun {x} hl => by
    rw [List.getElem?_set_self (by rw [h.len]; exact hl)]
  have ne_ : ∀ {j : Nat}, i ≠ j → (σ.set i (some v))[j]? = σ[j]? := fun {j} n => List.getElem?_set_ne n
  refine ⟨h.toCore, by rw [List.length_set, List.length_set]; exact h.len, fun j d q => ?_, fun j o' q => ?_, fun j k o1 o2 b q1 q2 w1 w2 => ?_⟩
  · rcases set_get q with ⟨e1, e2, hl⟩ | ⟨ne, e2⟩
    · subst e1 e2
      exact ⟨v, at_ (x := .un) hl, hr⟩
    · rw [ne_ ne]
      exact h.va j d e2
  · rcases set_get q with ⟨e1, e2, hl⟩ | ⟨ne, e2⟩
    · subst e1 e2
      obtain ⟨a, rfl, x1, x2, x3, x4, _⟩ := hr
      exact ⟨a, at_ (x := .un) hl, x1, x2, x3, x4⟩
    · rw [ne_ ne]
      exact h.ow j o' e2
  · rcases set_get q1 with ⟨e1, e2, hl⟩ | ⟨n1, e1⟩
    · subst e1 e2
      rcases set_get q2 with ⟨e1, e2, _⟩ | ⟨n2, e2⟩
      · exact e1
      · rw [at_ (x := .un) hl] at w1
        rw [ne_ n2] at w2
        cases w1
        obtain ⟨a, e, _, _, _, _, x⟩ := hr
        cases e
        exact absurd w2 (x k o2 e2)
    · rcases set_get q2 with ⟨e3, e2, hl⟩ | ⟨n2, e2⟩
      · subst e3 e2
        rw [at_ (x := .un) hl] at w2
        rw [ne_ n1] at w1
        cases w2
        obtain ⟨a, e, _, _, _, _, x⟩ := hr
        cases e
        exact absurd w1 (x j o1 e1)
      · rw [ne_ n1] at w1
        rw [ne_ n2] at w2
        exact h.sep j k o1 o2 b e1 e2 w1 w2
/-- a slot's own list is changed -/
theorem Sim.owSet {i : Nat} {a : Addr} {o : Ow} {ys : List V} {es : List D} (h : Sim z S M ρ σ H) (e : ρ[i]? = some (.ow o)) (ea : σ[i]? = some (some (.ref a))) (hr : RpA z.K S ys es) :
    Sim z S M (ρ.set i (.ow (.lst es))) σ (upd H a (.lst ys)) := by
  obtain ⟨b, h1, h2, h3, h4, h5⟩ := h.ow i o e
  rw [ea] at h1
  cases h1
  obtain ⟨u, hu⟩ := h4.at
  have hs : ∀ {c : Addr} {o : HO}, S c = some o → c ≠ a := fun {c o} q z => by rw [z, h2] at q; cases q
  refine ⟨⟨⟨h.step.same, fun c o q n => ?_, h.step.mnew, fun c q => ?_⟩, fun c o q => ?_, h.frS, fun p hp => ?_, h.mnd, fun c hc => ?_⟩, by rw [List.length_set]; exact h.len, fun j d q => ?_, fun j o' q => ?_, fun j k o1 o2 b q1 q2 => ?_⟩
  · have k := h.step.keep c o q n
    rw [upd_ne (fun w => by rw [w, h3.1] at q; cases q)]
    exact k
  · by_cases w : c = a
    · subst w; rw [upd_same]; simp
    · rw [upd_ne w]; exact h.step.dom c q
  · rw [upd_ne (hs q)]; exact h.sub c o q
  · obtain ⟨q, w⟩ := h.mu p hp
    exact ⟨q, w.ext (.refl _) (upd_ne (h5 p hp))⟩
  · obtain ⟨r1, r2, r3⟩ := h.rsv c hc
    exact ⟨r1, by rw [upd_ne (fun e : c = a => h3.2 (by rw [← e]; exact hc))]; exact r2, r3⟩
  · rcases set_get q with ⟨e1, e2, hl⟩ | ⟨ne, e2⟩
    · cases e2
    · exact h.va j d e2
  · rcases set_get q with ⟨e1, e2, hl⟩ | ⟨ne, e2⟩
    · subst e1
      cases e2
      exact ⟨a, ea, h2, h3, ⟨ys, upd_same, hr⟩, h5⟩
    · obtain ⟨b, k1, k2, k3, k4, k5⟩ := h.ow j o' e2
      refine ⟨b, k1, k2, k3, k4.ext (.refl _) (upd_ne fun w => ?_), k5⟩
      subst w
      exact ne (h.sep i j o o' b e e2 ea k1)
  · intro w1 w2
    rcases set_get q1 with ⟨e1, _, _⟩ | ⟨n1, e1⟩
    · subst e1
      rcases set_get q2 with ⟨e1, _, _⟩ | ⟨n2, e2⟩
      · exact e1
      · exact h.sep i k o o2 b e e2 w1 w2
    · rcases set_get q2 with ⟨e3, _, _⟩ | ⟨n2, e2⟩
      · subst e3
        exact h.sep j i o1 o b e1 e w1 w2
      · exact h.sep j k o1 o2 b e1 e2 w1 w2
end
end PL
namespace PL
open PySem PySem.Spec PyProof.Rows L2

/-! ### readings -/
abbrev QE := Ev → Mu → (Sl → Ev → Mu → Prop) → Prop
abbrev QB := Ev → Mu → (D → Ev → Mu → Prop) → Prop
abbrev QT := Ev → Mu → (Bool → Ev → Mu → Prop) → Prop
abbrev QA := Ev → Mu → (List D → Ev → Mu → Prop) → Prop
structure QK where
  nx : Ev → Mu → Prop
  rt : Sl → Mu → Prop
  bk : Ev → Mu → Prop := fun _ _ => False
  ct : Ev → Mu → Prop := fun _ _ => False
abbrev QS := QK → Ev → Mu → Prop
inductive RbA (K : Fg) (S : Hp) (M : Mu) (H : Hp) : List V → List D → Prop
  | nil : RbA K S M H [] []
  | cons {v : V} {vs : List V} {d : D} {ds : List D} : Rb K S M H v d → RbA K S M H vs ds → RbA K S M H (v :: vs) (d :: ds)
section
variable (z : Z)
def PoE (S : Hp) (M : Mu) (σ : St) (H : Hp) (Q0 : Sl → Ev → Mu → Prop) (v : V) (H' : Hp) : Prop :=
  ∃ r ρ' M' S', Q0 r ρ' M' ∧ Step S M H S' M' H' ∧ Sim z S' M' ρ' σ H' ∧ ResE z S' M' ρ' σ H' v r
def PoB (S : Hp) (M : Mu) (σ : St) (H : Hp) (Q0 : D → Ev → Mu → Prop) (v : V) (H' : Hp) : Prop :=
  ∃ d ρ' M' S', Q0 d ρ' M' ∧ Step S M H S' M' H' ∧ Sim z S' M' ρ' σ H' ∧ Rb z.K S' M' H' v d
def PoT (S : Hp) (M : Mu) (σ : St) (H : Hp) (Q0 : Bool → Ev → Mu → Prop) (b : Bool) (H' : Hp) : Prop :=
  ∃ ρ' M' S', Q0 b ρ' M' ∧ Step S M H S' M' H' ∧ Sim z S' M' ρ' σ H'
def PoA (S : Hp) (M : Mu) (σ : St) (H : Hp) (Q0 : List D → Ev → Mu → Prop) (vs : List V) (H' : Hp) : Prop :=
  ∃ ds ρ' M' S', Q0 ds ρ' M' ∧ Step S M H S' M' H' ∧ Sim z S' M' ρ' σ H' ∧ RpA z.K S' vs ds
def PoAB (S : Hp) (M : Mu) (σ : St) (H : Hp) (Q0 : List D → Ev → Mu → Prop) (vs : List V) (H' : Hp) : Prop :=
  ∃ ds ρ' M' S', Q0 ds ρ' M' ∧ Step S M H S' M' H' ∧ Sim z S' M' ρ' σ H' ∧ RbA z.K S' M' H' vs ds
def liE (q : QE) : TE := fun σ H Q => ∃ S M ρ Q0, Sim z S M ρ σ H ∧ q ρ M Q0 ∧ ∀ v H', PoE z S M σ H Q0 v H' → Q v H'
def liB (q : QB) : TE := fun σ H Q => ∃ S M ρ Q0, Sim z S M ρ σ H ∧ q ρ M Q0 ∧ ∀ v H', PoB z S M σ H Q0 v H' → Q v H'
def liT (q : QT) : TT := fun σ H Q => ∃ S M ρ Q0, Sim z S M ρ σ H ∧ q ρ M Q0 ∧ ∀ b H', PoT z S M σ H Q0 b H' → Q b H'
def liA (q : QA) : TA := fun σ H Q => ∃ S M ρ Q0, Sim z S M ρ σ H ∧ q ρ M Q0 ∧ ∀ vs H', PoA z S M σ H Q0 vs H' → Q vs H'
def liAB (q : QA) : TA := fun σ H Q => ∃ S M ρ Q0, Sim z S M ρ σ H ∧ q ρ M Q0 ∧ ∀ vs H', PoAB z S M σ H Q0 vs H' → Q vs H'
def liS (q : QS) : TS := fun D σ H => ∃ (S : Hp) (M : Mu) (ρ : Ev) (D0 : QK), Sim z S M ρ σ H ∧ q D0 ρ M ∧
  (∀ ρ' M' S' σ' H', D0.nx ρ' M' → Same S S' → Sim z S' M' ρ' σ' H' → D.nx σ' H') ∧
  (∀ ρ' M' S' σ' H', D0.bk ρ' M' → Same S S' → Sim z S' M' ρ' σ' H' → D.bk σ' H') ∧
  (∀ ρ' M' S' σ' H', D0.ct ρ' M' → Same S S' → Sim z S' M' ρ' σ' H' → D.ct σ' H') ∧
  (∀ r M' S' v H', D0.rt r M' → Core z S' M' H' → ResF z S' M' H' v r → D.rt v H')
end
theorem RbA.step {K : Fg} {S S' : Hp} {M M' : Mu} {H H' : Hp} (t : Step S M H S' M' H') : ∀ {vs : List V} {ds : List D}, RbA K S M H vs ds → RbA K S' M' H' vs ds
  | _, _, .nil => .nil
  | _, _, .cons a b => .cons (a.step t) (b.step t)

theorem pe_w {X : Cx} {e : Expr} {t t' : TE} (h : PE X e t) (w : ∀ σ H Q, t' σ H Q → t σ H Q) : PE X e t' := ⟨fun pins s σ H Q I hq => h.run pins s σ H Q I (w σ H Q hq)⟩
theorem pt_w {X : Cx} {e : Expr} {t t' : TT} (h : PT X e t) (w : ∀ σ H Q, t' σ H Q → t σ H Q) : PT X e t' := ⟨fun pins s σ H Q I hq => h.run pins s σ H Q I (w σ H Q hq)⟩
theorem pw_w {X : Cx} {e : Expr} {t t' : TT} (h : PW X e t) (w : ∀ σ H Q, t' σ H Q → t σ H Q) : PW X e t' := ⟨fun wh pins s σ H Q I hq => h.run wh pins s σ H Q I (w σ H Q hq)⟩
theorem pa_w {X : Cx} {e : List Expr} {t t' : TA} (h : PA X e t) (w : ∀ σ H Q, t' σ H Q → t σ H Q) : PA X e t' := ⟨fun p pins s σ H Q I hq => h.run p pins s σ H Q I (w σ H Q hq)⟩
theorem ps_w {X : Cx} {e : Stmt} {t t' : TS} (h : PS X e t) (w : ∀ D σ H, t' D σ H → t D σ H) : PS X e t' := ⟨fun pins s σ H D I hq => h.run pins s σ H D I (w D σ H hq)⟩
theorem pss_w {X : Cx} {e : List Stmt} {t t' : TS} (h : PSs X e t) (w : ∀ D σ H, t' D σ H → t D σ H) : PSs X e t' := ⟨fun pins s σ H D I hq => h.run pins s σ H D I (w D σ H hq)⟩

/-! ### names, constants -/
@[reducible] def eC (d : D) : QE := fun ρ M Q => Q (.va d) ρ M
@[reducible] def bC (d : D) : QB := fun ρ M Q => Q d ρ M
def eVar (i : Nat) : QE := fun ρ M Q => match ρ[i]? with
  | some (.va d) => Q (.va d) ρ M
  | some (.ow o) => Q (.va o.toD) (ρ.set i (.va o.toD)) M
  | _ => False
def bVar (i : Nat) : QB := fun ρ M Q => match ρ[i]? with
  | some (.va d) => Q d ρ M
  | some (.ow (.lst ds)) => Q (.lst ds) ρ M
  | _ => False
def eMov (i : Nat) : QE := fun ρ M Q => match ρ[i]? with
  | some (.va d) => Q (.va d) ρ M
  | some (.ow o) => Q (.ow o) (ρ.set i .un) M
  | _ => False
def bE (q : QE) : QB := fun ρ M Q => q ρ M fun r ρ' M' => Q r.val ρ' M'
section
variable {X : Cx} {z : Z} {e a b c : Expr} {pos : Pos}
theorem qe_con {v : V} {d : D} (h : PE X e (tC v)) (r : ∀ S, Rp z.K S v d) : PE X e (liE z (eC d)) :=
  pe_w h fun σ H Q ⟨S, M, ρ, Q0, sim, h, post⟩ => post v H ⟨.va d, ρ, M, S, h, .refl, sim, r S⟩
theorem qb_con {v : V} {d : D} (h : PE X e (tC v)) (r : ∀ S, Rp z.K S v d) : PE X e (liB z (bC d)) :=
  pe_w h fun σ H Q ⟨S, M, ρ, Q0, sim, h, post⟩ => post v H ⟨d, ρ, M, S, h, .refl, sim, .inl (r S)⟩
theorem qe_int {i : Int} {j} : PE X (.Constant (.int i) j pos) (liE z (eC (.int i))) := qe_con pe_int fun _ => .int i
theorem qe_bl {i : Bool} {j} : PE X (.Constant (.bool i) j pos) (liE z (eC (.bl i))) := qe_con pe_bl fun _ => .bl i
theorem qe_str {i : Str} {j} : PE X (.Constant (.str i) j pos) (liE z (eC (.str i))) := qe_con pe_str fun _ => .str i
theorem qe_non {j} : PE X (.Constant .none j pos) (liE z (eC .non)) := qe_con pe_non fun _ => .non
theorem qb_int {i : Int} {j} : PE X (.Constant (.int i) j pos) (liB z (bC (.int i))) := qb_con pe_int fun _ => .int i
theorem qb_bl {i : Bool} {j} : PE X (.Constant (.bool i) j pos) (liB z (bC (.bl i))) := qb_con pe_bl fun _ => .bl i
theorem qb_str {i : Str} {j} : PE X (.Constant (.str i) j pos) (liB z (bC (.str i))) := qb_con pe_str fun _ => .str i
theorem qb_non {j} : PE X (.Constant .none j pos) (liB z (bC .non)) := qb_con pe_non fun _ => .non
theorem qe_var {x : Str} (i : Nat) (hN : X.N[i]? = some x := by rfl) (hv : Vis X.env.scope x := by first | exact Or.inl rfl | exact Or.inr (Or.inl rfl) | exact Or.inr (Or.inr rfl)) (hd : (x == ("__debug__" : Str)) = false := by decide)
    (hcd : (x == ("__classdict__" : Str)) = false := by decide) : PE X (.Name x pos) (liE z (eVar i)) :=
  pe_w (pe_var hN hv hd hcd) fun σ H Q ⟨S, M, ρ, Q0, sim, h, post⟩ => by
    unfold eVar at h
    split at h
    · rename_i d e
      obtain ⟨v, h1, h2⟩ := sim.va i d e
      exact ⟨v, h1, post v H ⟨.va d, ρ, M, S, h, .refl, sim, h2⟩⟩
    · rename_i o e
      obtain ⟨S', s1, s2, v, h1, h2⟩ := sim.freezeSlot e
      exact ⟨v, h1, post v H ⟨_, _, M, S', h, s2, s1, h2⟩⟩
    · exact h.elim
theorem qb_var {x : Str} (i : Nat) (hN : X.N[i]? = some x := by rfl) (hv : Vis X.env.scope x := by first | exact Or.inl rfl | exact Or.inr (Or.inl rfl) | exact Or.inr (Or.inr rfl)) (hd : (x == ("__debug__" : Str)) = false := by decide)
    (hcd : (x == ("__classdict__" : Str)) = false := by decide) : PE X (.Name x pos) (liB z (bVar i)) :=
  pe_w (pe_var hN hv hd hcd) fun σ H Q ⟨S, M, ρ, Q0, sim, h, post⟩ => by
    unfold bVar at h
    split at h
    · rename_i d e
      obtain ⟨v, h1, h2⟩ := sim.va i d e
      exact ⟨v, h1, post v H ⟨d, ρ, M, S, h, .refl, sim, .inl h2⟩⟩
    · rename_i ds e
      obtain ⟨a, h1, h2, h3, ⟨xs, h4, h6⟩, h5⟩ := sim.ow i _ e
      exact ⟨_, h1, post _ H ⟨_, _, M, S, h, .refl, sim, .inr ⟨a, xs, ds, rfl, rfl, h4, h6, h5⟩⟩⟩
    · exact h.elim
theorem qe_mov {x : Str} (i : Nat) (hN : X.N[i]? = some x := by rfl) (hv : Vis X.env.scope x := by first | exact Or.inl rfl | exact Or.inr (Or.inl rfl) | exact Or.inr (Or.inr rfl)) (hd : (x == ("__debug__" : Str)) = false := by decide)
    (hcd : (x == ("__classdict__" : Str)) = false := by decide) : PE X (.Name x pos) (liE z (eMov i)) :=
  pe_w (pe_var hN hv hd hcd) fun σ H Q ⟨S, M, ρ, Q0, sim, h, post⟩ => by
    unfold eMov at h
    split at h
    · rename_i d e
      obtain ⟨v, h1, h2⟩ := sim.va i d e
      exact ⟨v, h1, post v H ⟨.va d, ρ, M, S, h, .refl, sim, h2⟩⟩
    · rename_i o e
      obtain ⟨v, h1, h2⟩ := sim.move e
      exact ⟨v, h1, post v H ⟨_, _, M, S, h, .refl, sim.drop, h2⟩⟩
    · exact h.elim
theorem qb_of {q : QE} (h : PE X e (liE z q)) : PE X e (liB z (bE q)) :=
  pe_w h fun σ H Q ⟨S, M, ρ, Q0, sim, h, post⟩ => ⟨S, M, ρ, _, sim, h, fun v H' ⟨r, ρ', M', S', q, st, sim', res⟩ => post v H' ⟨_, ρ', M', S', q, st, sim', res.rb⟩⟩

/-! ### operators -/
/-- what a two-place operator gives on data -/
abbrev OD := D → D → (Sl → Prop) → Prop
def OpB (X : Cx) (z : Z) (f : Value → Value → Sem Value) (od : OD) : Prop :=
  ∀ (pins : List (Addr × Obj)) (s : Shared) (σ : St) (H S : Hp) (M : Mu) (ρ : Ev) (x y : V) (u w : Value) (d1 d2 : D) (Q0 : Sl → Prop), Inv X pins σ H s → Sim z S M ρ σ H → Rb z.K S M H x d1 → Rb z.K S M H y d2 → RelV x u → RelV y w → od d1 d2 Q0 →
    wpAny (model X.prog X.w) X.A (f u w) (EP X pins σ (PoE z S M σ H fun r ρ' M' => ρ' = ρ ∧ M' = M ∧ Q0 r)) X.xe s
theorem opB_of {f : Value → Value → Sem Value} {r : R2} {od : OD} (h : OpR X f r)
    (k : ∀ (σ : St) (H S : Hp) (M : Mu) (ρ : Ev) (x y : V) (d1 d2 : D) (Q0 : Sl → Prop), Sim z S M ρ σ H → Rb z.K S M H x d1 → Rb z.K S M H y d2 → od d1 d2 Q0 → r x y H (PoE z S M σ H fun r ρ' M' => ρ' = ρ ∧ M' = M ∧ Q0 r)) : OpB X z f od :=
  fun pins s σ H S M ρ x y u w d1 d2 Q0 I sim b1 b2 r1 r2 q => h pins s σ H x y u w _ I r1 r2 (k σ H S M ρ x y d1 d2 Q0 sim b1 b2 q)
theorem poE_va {S : Hp} {M : Mu} {ρ : Ev} {σ : St} {H : Hp} {Q0 : Sl → Prop} {v : V} {d : D} (sim : Sim z S M ρ σ H) (r : Rp z.K S v d) (q : Q0 (.va d)) : PoE z S M σ H (fun r ρ' M' => ρ' = ρ ∧ M' = M ∧ Q0 r) v H :=
  ⟨.va d, ρ, M, S, ⟨rfl, rfl, q⟩, .refl, sim, r⟩
def eBin (od : OD) (qa qb : QB) : QE := fun ρ M Q => qa ρ M fun d1 ρ1 M1 => qb ρ1 M1 fun d2 ρ2 M2 => od d1 d2 fun r => Q r ρ2 M2
variable {qa qb qc : QB} {od : OD}
/-- two operands, then an operation -/
theorem bin_lift {σ : St} {H : Hp} {Q : VK} (h : liE z (eBin od qa qb) σ H Q) :
    liB z qa σ H fun x H1 => liB z qb σ H1 fun y H2 => ∃ S M ρ d1 d2 Q0, Sim z S M ρ σ H2 ∧ Rb z.K S M H2 x d1 ∧ Rb z.K S M H2 y d2 ∧ od d1 d2 Q0 ∧ ∀ v H', PoE z S M σ H2 (fun r ρ' M' => ρ' = ρ ∧ M' = M ∧ Q0 r) v H' → Q v H' := by
  obtain ⟨S, M, ρ, Q0, sim, h, post⟩ := h
  refine ⟨S, M, ρ, _, sim, h, fun x H1 ⟨d1, ρ1, M1, S1, q1, st1, sim1, b1⟩ => ⟨S1, M1, ρ1, _, sim1, q1, fun y H2 ⟨d2, ρ2, M2, S2, q2, st2, sim2, b2⟩ => ?_⟩⟩
  refine ⟨S2, M2, ρ2, d1, d2, _, sim2, b1.step st2, b2, q2, fun v H' ⟨r, ρ', M', S', ⟨e1, e2, q⟩, st, sim', res⟩ => post v H' ⟨r, ρ', M', S', ?_, (st1.trans st2).trans st, sim', res⟩⟩
  subst e1 e2
  exact q
theorem qe_bin {op : Operator} (ho : OpB X z (binaryOp op) od) (ha : PE X a (liB z qa)) (hb : PE X b (liB z qb)) : PE X (.BinOp a op b pos) (liE z (eBin od qa qb)) := by
  refine ⟨fun pins s σ H Q I h => ?_⟩
  refine wpAny_BinOp (binT ha hb I (bin_lift h) fun v u s2 x y H2 I2 rx ry ⟨S, M, ρ, d1, d2, Q0, sim, b1, b2, o, post⟩ => ?_)
  exact thn (ho pins s2 σ H2 S M ρ x y v u d1 d2 Q0 I2 sim b1 b2 rx ry o) fun w s3 ⟨y, H3, I3, r3, p3⟩ => ⟨y, H3, I3, r3, post _ _ p3⟩
theorem qe_cmp {op : CmpOp} (ho : OpB X z (compareOp op) od) (ha : PE X a (liB z qa)) (hb : PE X b (liB z qb)) (hm : behindInMarks op b = false) : PE X (.Compare a [op] [b] pos) (liE z (eBin od qa qb)) := by
  refine ⟨fun pins s σ H Q I h => ?_⟩
  refine wpAny_Compare1 (binT ha hb I (bin_lift h) fun v u s2 x y H2 I2 rx ry ⟨S, M, ρ, d1, d2, Q0, sim, b1, b2, o, post⟩ => ?_) hm
  exact thn (ho pins s2 σ H2 S M ρ x y v u d1 d2 Q0 I2 sim b1 b2 rx ry o) fun w s3 ⟨y, H3, I3, r3, p3⟩ => ⟨y, H3, I3, r3, post _ _ p3⟩
/-- a bool's test -/
def tE (q : QE) : QT := fun ρ M Q => q ρ M fun r ρ' M' => match r with
  | .va (.bl b) => Q b ρ' M'
  | _ => False
theorem tE_post {S : Hp} {M : Mu} {σ : St} {H H' : Hp} {v : V} {u : Value} {Q0 : Bool → Ev → Mu → Prop} (h : PoE z S M σ H (fun r ρ' M' => match r with | .va (.bl b) => Q0 b ρ' M' | _ => False) v H') (r : RelV v u) : ∃ b, u = .bool b ∧ PoT z S M σ H Q0 b H' := by
  obtain ⟨r', ρ', M', S', q, st, sim, res⟩ := h
  split at q
  · cases res
    cases r
    exact ⟨_, rfl, ρ', M', S', q, st, sim⟩
  · exact q.elim
theorem qt_val {q : QE} (h : PE X e (liE z q)) (he : ∀ whole, isTrue e X.env whole = (do let v ← whole; standAt e.pos; holding [v] (truthy v)) := by intro _; rfl) : PT X e (liT z (tE q)) := by
  refine ⟨fun pins s σ H Q I ⟨S, M, ρ, Q0, sim, h0, post⟩ => ?_⟩
  refine isTrue_plain (thn (h.run pins s σ H _ I ⟨S, M, ρ, _, sim, h0, fun v H' p => p⟩) fun u s1 ⟨x, H1, I1, r1, p⟩ => ?_) (he _)
  obtain ⟨b, rfl, w⟩ := tE_post p r1
  exact wpAny_truthy_bool ⟨H1, I1, post b H1 w⟩
theorem qt_cmp {op : CmpOp} (ho : OpB X z (compareOp op) od) (ha : PE X a (liB z qa)) (hb : PE X b (liB z qb)) (hm : behindInMarks op b = false) : PT X (.Compare a [op] [b] pos) (liT z (tE (eBin od qa qb))) := by
  refine ⟨fun pins s σ H Q I ⟨S, M, ρ, Q0, sim, h0, post⟩ => ?_⟩
  have h1 := bin_lift (Q := PoE z S M σ H (fun r ρ' M' => match r with | .va (.bl b) => Q0 b ρ' M' | _ => False)) ⟨S, M, ρ, _, sim, h0, fun v H' p => p⟩
  refine wpAny_isTrue_Compare1 (thn (ha.run pins s σ H _ I h1) fun v s1 ⟨x, H1, I1, r1, q1⟩ => thn (hb.run pins s1 σ H1 _ I1 q1) fun u s2 ⟨y, H2, I2, r2, ⟨S2, M2, ρ2, d1, d2, Q2, sim2, b1, b2, o, post2⟩⟩ =>
    thn (ho pins s2 σ H2 S2 M2 ρ2 x y v u d1 d2 Q2 I2 sim2 b1 b2 r1 r2 o) fun c s3 ⟨y, H3, I3, r3, p3⟩ => ?_) hm
  obtain ⟨b, rfl, w⟩ := tE_post (post2 _ _ p3) r3
  exact wpAny_truthy_bool ⟨H3, I3, post b H3 w⟩
/-- a op b op' c -/
def eChain (od od' : OD) (qa qb qc : QB) : QE := fun ρ M Q => qa ρ M fun d1 ρ1 M1 => qb ρ1 M1 fun d2 ρ2 M2 => od d1 d2 fun r => match r with
  | .va (.bl true) => qc ρ2 M2 fun d3 ρ3 M3 => od' d2 d3 fun r => Q r ρ3 M3
  | .va (.bl false) => Q (.va (.bl false)) ρ2 M2
  | _ => False
variable {od' : OD}
/-- what the last part of a chain is asked -/
def ChainLast (z : Z) (qc : QB) (od' : OD) (σ : St) (Q : VK) (y : V) (H2 : Hp) (c : Bool) : Prop :=
  if c = true then liB z qc σ H2 fun w H3 => ∃ S M ρ d2 d3 Q0, Sim z S M ρ σ H3 ∧ Rb z.K S M H3 y d2 ∧ Rb z.K S M H3 w d3 ∧ od' d2 d3 Q0 ∧ ∀ v H', PoE z S M σ H3 (fun r ρ' M' => ρ' = ρ ∧ M' = M ∧ Q0 r) v H' → Q v H'
  else Q (.bl false) H2
theorem chain_lift {σ : St} {H : Hp} {Q : VK} (h : liE z (eChain od od' qa qb qc) σ H Q) :
    liB z qa σ H fun x H1 => liB z qb σ H1 fun y H2 => ∃ S M ρ d1 d2 Q0, Sim z S M ρ σ H2 ∧ Rb z.K S M H2 x d1 ∧ Rb z.K S M H2 y d2 ∧ od d1 d2 Q0 ∧
      ∀ v H', PoE z S M σ H2 (fun r ρ' M' => ρ' = ρ ∧ M' = M ∧ Q0 r) v H' → ∃ c, v = .bl c ∧ ChainLast z qc od' σ Q y H' c := by
  obtain ⟨S, M, ρ, Q0, sim, h, post⟩ := h
  refine ⟨S, M, ρ, _, sim, h, fun x H1 ⟨d1, ρ1, M1, S1, q1, st1, sim1, b1⟩ => ⟨S1, M1, ρ1, _, sim1, q1, fun y H2 ⟨d2, ρ2, M2, S2, q2, st2, sim2, b2⟩ => ?_⟩⟩
  refine ⟨S2, M2, ρ2, d1, d2, _, sim2, b1.step st2, b2, q2, fun v H' ⟨r, ρ', M', S', ⟨e1, e2, q⟩, st, sim', res⟩ => ?_⟩
  subst e1 e2
  have st' := (st1.trans st2).trans st
  split at q
  · cases res
    refine ⟨true, rfl, ?_⟩
    unfold ChainLast
    rw [if_pos rfl]
    refine ⟨S', _, _, _, sim', q, fun w H3 ⟨d3, ρ3, M3, S3, q3, st3, sim3, b3⟩ => ⟨S3, M3, ρ3, d2, d3, _, sim3, (b2.step st).step st3, b3, q3, fun v H4 ⟨r, ρ4, M4, S4, ⟨e1, e2, q4⟩, st4, sim4, res4⟩ => post v H4 ⟨r, ρ4, M4, S4, ?_, (st'.trans st3).trans st4, sim4, res4⟩⟩⟩
    subst e1 e2
    exact q4
  · cases res
    refine ⟨false, rfl, ?_⟩
    unfold ChainLast
    rw [if_neg Bool.false_ne_true]
    exact post _ H' ⟨_, _, _, S', q, st', sim', .bl false⟩
  · exact q.elim
theorem qe_chain {op op' : CmpOp} (ho : OpB X z (compareOp op) od) (ho' : OpB X z (compareOp op') od') (ha : PE X a (liB z qa)) (hb : PE X b (liB z qb)) (hc : PE X c (liB z qc))
    (hm : lastMarks [op, op'] [b, c] = false := by with_unfolding_all rfl) : PE X (.Compare a [op, op'] [b, c] pos) (liE z (eChain od od' qa qb qc)) := by
  refine ⟨fun pins s σ H Q I h => ?_⟩
  refine Compare_chain (thn (ha.run pins s σ H _ I (chain_lift h)) fun v s1 ⟨x, H1, I1, r1, q1⟩ => chain_link (thn (hb.run pins s1 σ H1 _ I1 q1) fun u s2 ⟨y, H2, I2, r2, ⟨S2, M2, ρ2, d1, d2, Q2, sim2, b1, b2, o, post2⟩⟩ =>
    thn (ho pins s2 σ H2 S2 M2 ρ2 x y v u d1 d2 Q2 I2 sim2 b1 b2 r1 r2 o) fun d s3 ⟨zz, H3, I3, r3, p3⟩ => ?_)) hm
  obtain ⟨k, rfl, w⟩ := post2 _ _ p3
  cases r3
  refine wpAny_truthy_bool ?_
  cases k with
  | false => exact ite_ff ⟨.bl false, H3, I3, rfl, w⟩
  | true =>
    refine ite_tt (chain_last (thn (hc.run pins s3 σ H3 _ I3 w) fun w' s4 ⟨z', H4, I4, r4, ⟨S4, M4, ρ4, d2', d3, Q4, sim4, b3, b4, o4, post4⟩⟩ => ?_))
    exact thn (ho' pins s4 σ H4 S4 M4 ρ4 y z' u w' d2' d3 Q4 I4 sim4 b3 b4 r2 r4 o4) fun w s5 ⟨y, H5, I5, r5, p5⟩ => ⟨y, H5, I5, r5, post4 _ _ p5⟩
theorem qt_chain {op op' : CmpOp} (ho : OpB X z (compareOp op) od) (ho' : OpB X z (compareOp op') od') (ha : PE X a (liB z qa)) (hb : PE X b (liB z qb)) (hc : PE X c (liB z qc))
    (hm : lastMarks [op, op'] [b, c] = false := by with_unfolding_all rfl) : PT X (.Compare a [op, op'] [b, c] pos) (liT z (tE (eChain od od' qa qb qc))) := by
  refine ⟨fun pins s σ H Q I ⟨S, M, ρ, Q0, sim, h0, post⟩ => ?_⟩
  have h := chain_lift (Q := PoE z S M σ H (fun r ρ' M' => match r with | .va (.bl b) => Q0 b ρ' M' | _ => False)) ⟨S, M, ρ, _, sim, h0, fun v H' p => p⟩
  refine isTrue_chain (thn (ha.run pins s σ H _ I h) fun v s1 ⟨x, H1, I1, r1, q1⟩ => test_link (thn (hb.run pins s1 σ H1 _ I1 q1) fun u s2 ⟨y, H2, I2, r2, ⟨S2, M2, ρ2, d1, d2, Q2, sim2, b1, b2, o, post2⟩⟩ =>
    thn (ho pins s2 σ H2 S2 M2 ρ2 x y v u d1 d2 Q2 I2 sim2 b1 b2 r1 r2 o) fun d s3 ⟨zz, H3, I3, r3, p3⟩ => ?_)) hm
  obtain ⟨k, rfl, w⟩ := post2 _ _ p3
  cases r3
  refine wpAny_truthy_bool ?_
  cases k with
  | false =>
    obtain ⟨b, e, w2⟩ := tE_post (u := .bool false) w rfl
    cases e
    exact ite_ff ⟨H3, I3, post _ _ w2⟩
  | true =>
    refine ite_tt (test_last (thn (hc.run pins s3 σ H3 _ I3 w) fun w' s4 ⟨z', H4, I4, r4, ⟨S4, M4, ρ4, d2', d3, Q4, sim4, b3, b4, o4, post4⟩⟩ => ?_))
    refine thn (ho' pins s4 σ H4 S4 M4 ρ4 y z' u w' d2' d3 Q4 I4 sim4 b3 b4 r2 r4 o4) fun w s5 ⟨y, H5, I5, r5, p5⟩ => ?_
    obtain ⟨b, rfl, w2⟩ := tE_post (post4 _ _ p5) r5
    exact wpAny_truthy_bool ⟨H5, I5, post _ _ w2⟩

/-! ### one operand -/
abbrev UD := D → (Sl → Prop) → Prop
def UnB (X : Cx) (z : Z) (f : Value → Sem Value) (ud : UD) : Prop :=
  ∀ (pins : List (Addr × Obj)) (s : Shared) (σ : St) (H S : Hp) (M : Mu) (ρ : Ev) (x : V) (u : Value) (d : D) (Q0 : Sl → Prop), Inv X pins σ H s → Sim z S M ρ σ H → Rb z.K S M H x d → RelV x u → ud d Q0 →
    wpAny (model X.prog X.w) X.A (f u) (EP X pins σ (PoE z S M σ H fun r ρ' M' => ρ' = ρ ∧ M' = M ∧ Q0 r)) X.xe s
def eUn (ud : UD) (qa : QB) : QE := fun ρ M Q => qa ρ M fun d ρ1 M1 => ud d fun r => Q r ρ1 M1
variable {ud : UD}
theorem un_lift {σ : St} {H : Hp} {Q : VK} (h : liE z (eUn ud qa) σ H Q) :
    liB z qa σ H fun x H1 => ∃ S M ρ d Q0, Sim z S M ρ σ H1 ∧ Rb z.K S M H1 x d ∧ ud d Q0 ∧ ∀ v H', PoE z S M σ H1 (fun r ρ' M' => ρ' = ρ ∧ M' = M ∧ Q0 r) v H' → Q v H' := by
  obtain ⟨S, M, ρ, Q0, sim, h, post⟩ := h
  refine ⟨S, M, ρ, _, sim, h, fun x H1 ⟨d1, ρ1, M1, S1, q1, st1, sim1, b1⟩ => ⟨S1, M1, ρ1, d1, _, sim1, b1, q1, fun v H' ⟨r, ρ', M', S', ⟨e1, e2, q⟩, st, sim', res⟩ => post v H' ⟨r, ρ', M', S', ?_, st1.trans st, sim', res⟩⟩⟩
  subst e1 e2
  exact q
theorem qe_un {op : UnaryOp} (ho : UnB X z (unaryOp op) ud) (ha : PE X a (liB z qa)) : PE X (.UnaryOp op a pos) (liE z (eUn ud qa)) := by
  refine ⟨fun pins s σ H Q I h => ?_⟩
  refine UnaryOp_ (thn (ha.run pins s σ H _ I (un_lift h)) fun v s1 ⟨x, H1, I1, r1, ⟨S, M, ρ, d, Q0, sim, b, u, post⟩⟩ => ?_)
  exact thn (ho pins s1 σ H1 S M ρ x v d Q0 I1 sim b r1 u) fun w s3 ⟨y, H3, I3, r3, p3⟩ => ⟨y, H3, I3, r3, post _ _ p3⟩

/-! ### tests -/
def qAnd (t u : QT) : QT := fun ρ M Q => t ρ M fun c ρ1 M1 => if c = true then u ρ1 M1 Q else Q false ρ1 M1
def qOr (t u : QT) : QT := fun ρ M Q => t ρ M fun c ρ1 M1 => if c = true then Q true ρ1 M1 else u ρ1 M1 Q
def qNot (t : QT) : QT := fun ρ M Q => t ρ M fun c ρ1 M1 => Q (!c) ρ1 M1
variable {tA tB : QT} {rest : List Expr}
theorem liT_and {σ : St} {H : Hp} {Q} (h : liT z (qAnd tA tB) σ H Q) : tAnd (liT z tA) (liT z tB) σ H Q := by
  obtain ⟨S, M, ρ, Q0, sim, h, post⟩ := h
  refine ⟨S, M, ρ, _, sim, h, fun c H1 ⟨ρ1, M1, S1, q1, st1, sim1⟩ => ?_⟩
  cases c with
  | true => exact iteT ⟨S1, M1, ρ1, _, sim1, (by simpa using q1), fun b H2 ⟨ρ2, M2, S2, q2, st2, sim2⟩ => post b H2 ⟨ρ2, M2, S2, q2, st1.trans st2, sim2⟩⟩
  | false => exact iteF (post false H1 ⟨ρ1, M1, S1, (by simpa using q1), st1, sim1⟩)
theorem liT_or {σ : St} {H : Hp} {Q} (h : liT z (qOr tA tB) σ H Q) : tOr (liT z tA) (liT z tB) σ H Q := by
  obtain ⟨S, M, ρ, Q0, sim, h, post⟩ := h
  refine ⟨S, M, ρ, _, sim, h, fun c H1 ⟨ρ1, M1, S1, q1, st1, sim1⟩ => ?_⟩
  cases c with
  | false => exact iteF ⟨S1, M1, ρ1, _, sim1, (by simpa using q1), fun b H2 ⟨ρ2, M2, S2, q2, st2, sim2⟩ => post b H2 ⟨ρ2, M2, S2, q2, st1.trans st2, sim2⟩⟩
  | true => exact iteT (post true H1 ⟨ρ1, M1, S1, (by simpa using q1), st1, sim1⟩)
theorem qw_and1 (ha : PT X a (liT z tA)) : PW X (.BoolOp .And [a] pos) (liT z tA) := pw_and1 ha
theorem qw_or1 (ha : PT X a (liT z tA)) : PW X (.BoolOp .Or [a] pos) (liT z tA) := pw_or1 ha
theorem qw_and (ha : PT X a (liT z tA)) (hb : PW X (.BoolOp .And (b :: rest) pos) (liT z tB)) : PW X (.BoolOp .And (a :: b :: rest) pos) (liT z (qAnd tA tB)) := pw_w (pw_and ha hb) fun _ _ _ h => liT_and h
theorem qw_or (ha : PT X a (liT z tA)) (hb : PW X (.BoolOp .Or (b :: rest) pos) (liT z tB)) : PW X (.BoolOp .Or (a :: b :: rest) pos) (liT z (qOr tA tB)) := pw_w (pw_or ha hb) fun _ _ _ h => liT_or h
theorem qt_not (ha : PT X a (liT z tA)) : PT X (.UnaryOp .Not a pos) (liT z (qNot tA)) := pt_w (pt_not ha) fun σ H Q ⟨S, M, ρ, Q0, sim, h, post⟩ =>
  ⟨S, M, ρ, _, sim, h, fun c H1 ⟨ρ1, M1, S1, q1, st1, sim1⟩ => post (!c) H1 ⟨ρ1, M1, S1, q1, st1, sim1⟩⟩
/-- as values -/
def eAnd (qa qb : QE) : QE := fun ρ M Q => qa ρ M fun r ρ1 M1 => match r with
  | .va (.bl true) => qb ρ1 M1 Q
  | .va (.bl false) => Q (.va (.bl false)) ρ1 M1
  | _ => False
def eOr (qa qb : QE) : QE := fun ρ M Q => qa ρ M fun r ρ1 M1 => match r with
  | .va (.bl false) => qb ρ1 M1 Q
  | .va (.bl true) => Q (.va (.bl true)) ρ1 M1
  | _ => False
def eNot (qa : QE) : QE := fun ρ M Q => qa ρ M fun r ρ1 M1 => match r with
  | .va (.bl b) => Q (.va (.bl !b)) ρ1 M1
  | _ => False
def eIf (t : QT) (qa qb : QE) : QE := fun ρ M Q => t ρ M fun c ρ1 M1 => if c = true then qa ρ1 M1 Q else qb ρ1 M1 Q
variable {ea eb : QE}
theorem qe_one {op} (h : PE X a (liE z ea)) : PE X (.BoolOp op [a] pos) (liE z ea) := pe_one h
theorem qe_and (ha : PE X a (liE z ea)) (hb : PE X (.BoolOp .And (b :: rest) pos) (liE z eb)) : PE X (.BoolOp .And (a :: b :: rest) pos) (liE z (eAnd ea eb)) :=
  pe_w (pe_and ha hb) fun σ H Q ⟨S, M, ρ, Q0, sim, h, post⟩ => ⟨S, M, ρ, _, sim, h, fun v H1 ⟨r, ρ1, M1, S1, q1, st1, sim1, res1⟩ => by
    dsimp only at q1
    split at q1
    · cases res1
      exact ⟨true, rfl, iteT ⟨S1, M1, ρ1, _, sim1, q1, fun v H2 ⟨r, ρ2, M2, S2, q2, st2, sim2, res2⟩ => post v H2 ⟨r, ρ2, M2, S2, q2, st1.trans st2, sim2, res2⟩⟩⟩
    · cases res1
      exact ⟨false, rfl, iteF (post _ H1 ⟨_, ρ1, M1, S1, q1, st1, sim1, .bl false⟩)⟩
    · exact q1.elim⟩
theorem qe_or (ha : PE X a (liE z ea)) (hb : PE X (.BoolOp .Or (b :: rest) pos) (liE z eb)) : PE X (.BoolOp .Or (a :: b :: rest) pos) (liE z (eOr ea eb)) :=
  pe_w (pe_or ha hb) fun σ H Q ⟨S, M, ρ, Q0, sim, h, post⟩ => ⟨S, M, ρ, _, sim, h, fun v H1 ⟨r, ρ1, M1, S1, q1, st1, sim1, res1⟩ => by
    dsimp only at q1
    split at q1
    · cases res1
      exact ⟨false, rfl, iteF ⟨S1, M1, ρ1, _, sim1, q1, fun v H2 ⟨r, ρ2, M2, S2, q2, st2, sim2, res2⟩ => post v H2 ⟨r, ρ2, M2, S2, q2, st1.trans st2, sim2, res2⟩⟩⟩
    · cases res1
      exact ⟨true, rfl, iteT (post _ H1 ⟨_, ρ1, M1, S1, q1, st1, sim1, .bl true⟩)⟩
    · exact q1.elim⟩
theorem qe_not (ha : PE X a (liE z ea)) : PE X (.UnaryOp .Not a pos) (liE z (eNot ea)) :=
  pe_w (pe_not ha) fun σ H Q ⟨S, M, ρ, Q0, sim, h, post⟩ => ⟨S, M, ρ, _, sim, h, fun v H1 ⟨r, ρ1, M1, S1, q1, st1, sim1, res1⟩ => by
    dsimp only at q1
    split at q1
    · cases res1
      exact ⟨_, rfl, post _ H1 ⟨_, ρ1, M1, S1, q1, st1, sim1, .bl _⟩⟩
    · exact q1.elim⟩
theorem qe_ifExp (hc : PT X c (liT z tA)) (ha : PE X a (liE z ea)) (hb : PE X b (liE z eb)) : PE X (.IfExp c a b pos) (liE z (eIf tA ea eb)) :=
  pe_w (pe_ifExp hc ha hb) fun σ H Q ⟨S, M, ρ, Q0, sim, h, post⟩ => ⟨S, M, ρ, _, sim, h, fun k H1 ⟨ρ1, M1, S1, q1, st1, sim1⟩ => by
    cases k with
    | true => exact iteT ⟨S1, M1, ρ1, _, sim1, (by simpa using q1), fun v H2 ⟨r, ρ2, M2, S2, q2, st2, sim2, res2⟩ => post v H2 ⟨r, ρ2, M2, S2, q2, st1.trans st2, sim2, res2⟩⟩
    | false => exact iteF ⟨S1, M1, ρ1, _, sim1, (by simpa using q1), fun v H2 ⟨r, ρ2, M2, S2, q2, st2, sim2, res2⟩ => post v H2 ⟨r, ρ2, M2, S2, q2, st1.trans st2, sim2, res2⟩⟩⟩

/-! ### arguments, displays -/
def aNil : QA := fun ρ M Q => Q [] ρ M
def aCons (q : QE) (r : QA) : QA := fun ρ M Q => q ρ M fun x ρ1 M1 => r ρ1 M1 fun xs ρ2 M2 => Q (x.val :: xs) ρ2 M2
def aConsB (q : QB) (r : QA) : QA := fun ρ M Q => q ρ M fun x ρ1 M1 => r ρ1 M1 fun xs ρ2 M2 => Q (x :: xs) ρ2 M2
variable {es : List Expr} {qr : QA}
theorem qa_nil : PA X [] (liA z aNil) := pa_w pa_nil fun σ H Q ⟨S, M, ρ, Q0, sim, h, post⟩ => post [] H ⟨[], ρ, M, S, h, .refl, sim, .nil⟩
theorem qa_cons (ha : PE X e (liE z ea)) (hr : PA X es (liA z qr)) (hs : starEach (e :: es) X.env = (false, eval e X.env) :: starEach es X.env := by rfl) : PA X (e :: es) (liA z (aCons ea qr)) :=
  pa_w (pa_cons ha hr hs) fun σ H Q ⟨S, M, ρ, Q0, sim, h, post⟩ => ⟨S, M, ρ, _, sim, h, fun v H1 ⟨r, ρ1, M1, S1, q1, st1, sim1, res1⟩ => by
    obtain ⟨S2, sim2, st2, rp⟩ := sim1.freeze res1
    exact ⟨S2, M1, ρ1, _, sim2, q1, fun vs H3 ⟨ds, ρ3, M3, S3, q3, st3, sim3, rp3⟩ => post _ H3 ⟨_, ρ3, M3, S3, q3, (st1.trans st2).trans st3, sim3, .cons (Rp.ext st3.same _ _ rp) rp3⟩⟩⟩
theorem qab_nil : PA X [] (liAB z aNil) := pa_w pa_nil fun σ H Q ⟨S, M, ρ, Q0, sim, h, post⟩ => post [] H ⟨[], ρ, M, S, h, .refl, sim, .nil⟩
theorem qab_cons (ha : PE X e (liB z qa)) (hr : PA X es (liAB z qr)) (hs : starEach (e :: es) X.env = (false, eval e X.env) :: starEach es X.env := by rfl) : PA X (e :: es) (liAB z (aConsB qa qr)) :=
  pa_w (pa_cons ha hr hs) fun σ H Q ⟨S, M, ρ, Q0, sim, h, post⟩ => ⟨S, M, ρ, _, sim, h, fun v H1 ⟨r, ρ1, M1, S1, q1, st1, sim1, rb⟩ =>
    ⟨S1, M1, ρ1, _, sim1, q1, fun vs H3 ⟨ds, ρ3, M3, S3, q3, st3, sim3, rp3⟩ => post _ H3 ⟨_, ρ3, M3, S3, q3, st1.trans st3, sim3, .cons (rb.step st3) rp3⟩⟩⟩
def eTup (q : QA) : QE := fun ρ M Q => q ρ M fun ds ρ' M' => ds.length ≤ 16777216 ∧ Q (.va (.tup ds)) ρ' M'
def eLst (q : QA) : QE := fun ρ M Q => q ρ M fun ds ρ' M' => ds.length ≤ 16777216 ∧ Q (.ow (.lst ds)) ρ' M'
theorem line_eq {n : Nat} (h : n ≤ 16777216) : n ≤ sizeLine := by rw [sizeLine_eq]; exact h
theorem qe_tup {k} (h : PA X es (liA z qr)) : PE X (.Tuple es k pos) (liE z (eTup qr)) :=
  pe_w (pe_tup h) fun σ H Q ⟨S, M, ρ, Q0, sim, h, post⟩ => ⟨S, M, ρ, _, sim, h, fun vs H1 ⟨ds, ρ1, M1, S1, ⟨hl, q1⟩, st1, sim1, rp⟩ =>
    ⟨by rw [rp.length]; exact line_eq hl, fun p hp => by
      obtain ⟨sim2, st2⟩ := sim1.alloc (o := .tup vs) hp
      exact post _ _ ⟨_, ρ1, M1, _, q1, st1.trans st2, sim2, Rp.tup (.of upd_same) (RpA.ext st2.same _ _ rp)⟩⟩⟩
theorem qe_lst (h : PA X es (liA z qr)) : PE X (.List es pos) (liE z (eLst qr)) :=
  pe_w (pe_lst h) fun σ H Q ⟨S, M, ρ, Q0, sim, h, post⟩ => ⟨S, M, ρ, _, sim, h, fun vs H1 ⟨ds, ρ1, M1, S1, ⟨hl, q1⟩, st1, sim1, rp⟩ =>
    ⟨by rw [rp.length]; exact line_eq hl, fun p hp => by
      obtain ⟨sim2, st2, res⟩ := sim1.fresh hp rp
      exact post _ _ ⟨_, ρ1, M1, _, q1, st1.trans st2, sim2, res⟩⟩⟩
end
end PL
namespace PL
open PySem PySem.Spec PyProof.Rows L2

/-! ### statements -/
section
variable {X : Cx} {z : Z} {st : Stmt} {rest sts body : List Stmt} {t u : QS} {e c : Expr} {pos : Pos} {q : QE} {qt : QT}
def sNext : QS := fun D ρ M => D.nx ρ M
def sSeq (t u : QS) : QS := fun D ρ M => t { D with nx := u D } ρ M
def sBreak : QS := fun D ρ M => D.bk ρ M
def sCont : QS := fun D ρ M => D.ct ρ M
def sDrop (q : QE) : QS := fun D ρ M => q ρ M fun _ ρ' M' => D.nx ρ' M'
def sRet (q : QE) : QS := fun D ρ M => q ρ M fun r _ M' => D.rt r M'
def sRetN : QS := fun D _ M => D.rt (.va .non) M
def sIf (c : QT) (t u : QS) : QS := fun D ρ M => c ρ M fun b ρ1 M1 => if b = true then t D ρ1 M1 else u D ρ1 M1
def sAsg (i : Nat) (q : QE) : QS := fun D ρ M => q ρ M fun r ρ' M' => D.nx (ρ'.set i r) M'
theorem qs_nil : PSs X [] (liS z sNext) := pss_w pss_nil fun D σ H ⟨S, M, ρ, D0, sim, h, nx, _⟩ => nx ρ M S σ H h (.refl _) sim
theorem liS_seq {D : Ends} {σ : St} {H : Hp} (h : liS z (sSeq t u) D σ H) : tSeq (liS z t) (liS z u) D σ H := by
  obtain ⟨S, M, ρ, D0, sim, h, nx, bk, ct, rt⟩ := h
  exact ⟨S, M, ρ, { D0 with nx := u D0 }, sim, h, fun ρ' M' S' σ' H' q e sim' => ⟨S', M', ρ', D0, sim', q, fun ρ2 M2 S2 σ2 H2 q2 e2 s2 => nx ρ2 M2 S2 σ2 H2 q2 (e.trans e2) s2,
    fun ρ2 M2 S2 σ2 H2 q2 e2 s2 => bk ρ2 M2 S2 σ2 H2 q2 (e.trans e2) s2, fun ρ2 M2 S2 σ2 H2 q2 e2 s2 => ct ρ2 M2 S2 σ2 H2 q2 (e.trans e2) s2, rt⟩, bk, ct, rt⟩
theorem qs_cons (h1 : PS X st (liS z t)) (h2 : PSs X rest (liS z u)) : PSs X (st :: rest) (liS z (sSeq t u)) := pss_w (pss_cons h1 h2) fun _ _ _ h => liS_seq h
theorem qs_end (h1 : PS X st (liS z t)) : PSs X [st] (liS z t) := pss_one h1
theorem qs_pass : PS X (.Pass pos) (liS z sNext) := ps_w ps_pass fun D σ H ⟨S, M, ρ, D0, sim, h, nx, _⟩ => nx ρ M S σ H h (.refl _) sim
theorem qs_doc {x j pos'} : PS X (.Expr (.Constant (.str x) j pos) pos') (liS z sNext) := ps_w ps_doc fun D σ H ⟨S, M, ρ, D0, sim, h, nx, _⟩ => nx ρ M S σ H h (.refl _) sim
theorem qs_break : PS X (.Break pos) (liS z sBreak) := ps_w ps_break fun D σ H ⟨S, M, ρ, D0, sim, h, _, bk, _⟩ => bk ρ M S σ H h (.refl _) sim
theorem qs_continue : PS X (.Continue pos) (liS z sCont) := ps_w ps_continue fun D σ H ⟨S, M, ρ, D0, sim, h, _, _, ct, _⟩ => ct ρ M S σ H h (.refl _) sim
theorem qs_expr (he : PE X e (liE z q)) (hs : swapsWith e none pos.line X.env = pure false := by rfl) : PS X (.Expr e pos) (liS z (sDrop q)) :=
  ps_w (ps_expr he hs) fun D σ H ⟨S, M, ρ, D0, sim, h, nx, _⟩ => ⟨S, M, ρ, _, sim, h, fun v H' ⟨r, ρ', M', S', q, st, sim', _⟩ => nx ρ' M' S' σ H' q st.same sim'⟩
theorem qs_ret (he : PE X e (liE z q)) : PS X (.Return (some e) pos) (liS z (sRet q)) :=
  ps_w (ps_ret he) fun D σ H ⟨S, M, ρ, D0, sim, h, _, _, _, rt⟩ => ⟨S, M, ρ, _, sim, h, fun v H' ⟨r, ρ', M', S', q, st, sim', res⟩ => rt r M' S' v H' q sim'.toCore res.f⟩
theorem qs_retN : PS X (.Return none pos) (liS z sRetN) := ps_w ps_retN fun D σ H ⟨S, M, ρ, D0, sim, h, _, _, _, rt⟩ => rt _ M S .non H h sim.toCore .non
theorem qs_if {a b : List Stmt} (hc : PT X c (liT z qt)) (ha : PSs X a (liS z t)) (hb : PSs X b (liS z u)) : PS X (.If c a b pos) (liS z (sIf qt t u)) :=
  ps_w (ps_if hc ha hb) fun D σ H ⟨S, M, ρ, D0, sim, h, nx, bk, ct, rt⟩ => ⟨S, M, ρ, _, sim, h, fun k H' ⟨ρ', M', S', q, st, sim'⟩ => by
    have go : ∀ w : QS, w D0 ρ' M' → liS z w D σ H' := fun w hw => ⟨S', M', ρ', D0, sim', hw, fun ρ2 M2 S2 σ2 H2 q2 e2 s2 => nx ρ2 M2 S2 σ2 H2 q2 (st.same.trans e2) s2,
      fun ρ2 M2 S2 σ2 H2 q2 e2 s2 => bk ρ2 M2 S2 σ2 H2 q2 (st.same.trans e2) s2, fun ρ2 M2 S2 σ2 H2 q2 e2 s2 => ct ρ2 M2 S2 σ2 H2 q2 (st.same.trans e2) s2, rt⟩
    cases k with
    | true => exact iteT (go t (by simpa using q))
    | false => exact iteF (go u (by simpa using q))⟩
theorem asg_lift {i : Nat} {D : Ends} {σ : St} {H : Hp} (h : liS z (sAsg i q) D σ H) : tAsg (liE z q) (gName i) D σ H := by
  obtain ⟨S, M, ρ, D0, sim, h, nx, _⟩ := h
  exact ⟨S, M, ρ, _, sim, h, fun v H' ⟨r, ρ', M', S', q, st, sim', res⟩ => nx _ M' S' _ H' q st.same (sim'.put res)⟩
theorem qs_set {i : Nat} {x : Str} {pos' : Pos} (hN : X.N.Nodup) (hi : X.N[i]? = some x) (hx : Loc X.env.scope x) (he : PE X e (liE z q)) (hs : swapsWith e (some (.Name x pos')) pos.line X.env = pure false := by rfl)
    (hf : X.fn x = true ∨ X.env.scope.names.lookup x = some .local := by first | exact .inl rfl | exact .inr rfl | assumption) : PS X (.Assign [.Name x pos'] e pos) (liS z (sAsg i q)) :=
  ps_w (ps_set hN hi hx he hs hf) fun _ _ _ h => asg_lift h
def sPar (i j : Nat) (qr : QA) : QS := fun D ρ M => qr ρ M fun ds ρ' M' => match ds with
  | [a, b] => D.nx ((ρ'.set i (.va a)).set j (.va b)) M'
  | _ => False
theorem qs_par {i j : Nat} {x y : Str} {a b : Expr} {qr : QA} {px py pt : Pos} {kt k2 pt2} (hc : X.calm = true) (hN : X.N.Nodup) (hi : X.N[i]? = some x) (hj : X.N[j]? = some y) (hij : i ≠ j)
    (hx : X.env.scope.names.lookup x = some .local) (hy : X.env.scope.names.lookup y = some .local) (ha : PA X [a, b] (liA z qr))
    (hw : swappedStores [.Tuple [.Name x px, .Name y py] kt pt] (.Tuple [a, b] k2 pt2) X.env = pure (some [x, y]))
    (hs : swapsWithSole [.Tuple [.Name x px, .Name y py] kt pt] (.Tuple [a, b] k2 pt2) pos.line X.env = pure false := by rfl) :
    PS X (.Assign [.Tuple [.Name x px, .Name y py] kt pt] (.Tuple [a, b] k2 pt2) pos) (liS z (sPar i j qr)) :=
  ps_w (ps_par hc hN hi hj hij hx hy ha hw hs) fun D σ H ⟨S, M, ρ, D0, sim, h, nx, _⟩ => ⟨S, M, ρ, _, sim, h, fun vs H' ⟨ds, ρ', M', S', q, st, sim', rp⟩ => by
    dsimp only at q
    split at q
    · cases rp with
      | cons r1 rr =>
        cases rr with
        | cons r2 rr =>
          cases rr
          exact ⟨_, _, rfl, nx _ M' S' _ H' q st.same ((sim'.put (r := .va _) r1).put (r := .va _) r2)⟩
    · exact q.elim⟩
/-- name op= e -/
def sAug (i : Nat) (od : OD) (qb : QB) : QS := fun D ρ M => match ρ[i]? with
  | some (.va d) => qb ρ M fun d2 ρ' M' => od d d2 fun r => D.nx (ρ'.set i r) M'
  | _ => False
theorem qs_aug {i : Nat} {x : Str} {op : Operator} {od : OD} {qb : QB} {pos' : Pos} (hN : X.N.Nodup) (hi : X.N[i]? = some x) (hx : Loc X.env.scope x) (he : PE X e (liB z qb)) (ho : OpB X z (inplaceOp op) od)
    (hf : X.fn x = true ∨ X.env.scope.names.lookup x = some .local := by first | exact .inl rfl | exact .inr rfl | assumption) : PS X (.AugAssign (.Name x pos') op e pos) (liS z (sAug i od qb)) := by
  refine ⟨fun pins s σ H D I ⟨S, M, ρ, D0, sim, h, nx, _⟩ => ?_⟩
  unfold sAug at h
  split at h
  · rename_i d e1
    obtain ⟨v, e2, rv⟩ := sim.va i d e1
    obtain ⟨m, hn, hl⟩ := I.loc
    have vis : Vis X.env.scope x := by rcases hx with k | k; exact .inl k; exact .inr (.inl k)
    obtain ⟨u, r, l⟩ := hl i x v hi e2 vis
    refine wpAny_AugAssign_Name ?_
    have go : wpAny (model X.prog X.w) X.A (eval e X.env) (fun w s₂ => wpAny (model X.prog X.w) X.A (inplaceOp op u w) (fun r s₃ => wpAny (model X.prog X.w) X.A (storeName X.env x r) (fun _ => SP X pins D .next) X.xe s₃) X.xe s₂) X.xe s := by
      refine thn (he.run pins s σ H _ I ⟨S, M, ρ, _, sim, h, fun _ _ p => p⟩) fun w s1 ⟨y, H1, I1, r1, ⟨d2, ρ1, M1, S1, q1, st1, sim1, b1⟩⟩ => ?_
      refine thn (ho pins s1 σ H1 S1 M1 ρ1 v y u w d d2 _ I1 sim1 (.inl (Rp.ext st1.same _ _ rv)) b1 r r1 q1) fun zz s2 ⟨zv, H2, I2, r2, ⟨r3, ρ3, M3, S3, ⟨e3, e4, q3⟩, st3, sim3, res3⟩⟩ => ?_
      subst e3 e4
      exact store_ok I2 hN hi hx r2 (fun s3 I3 => ⟨_, H2, I3, nx _ _ S3 _ H2 q3 (st1.same.trans st3.same) (sim3.put res3)⟩) hf
    rcases l with ⟨hk, hm⟩ | ⟨hk, c, hc, hcell⟩
    · exact wpAny_loadName_local I.ok.kind hk hn hm go
    · rcases hk with hk | hk
      · exact wpAny_loadName_cell I.ok.kind hk hc hcell go
      · rcases hx with k | k
        · have : X.env.scope.names.lookup x = some .free := hk
          rw [k] at this; cases this
        · have : X.env.scope.names.lookup x = some .free := hk
          rw [k] at this; cases this
  · exact h.elim

/-! ### while -/
def sWhile (c : QT) (tb : QS) : QS := fun D ρ M => ∃ I : Nat → Ev → Mu → Prop, (∃ m, I m ρ M) ∧ ∀ m ρ M, I m ρ M → c ρ M fun b ρ1 M1 =>
  if b = true then tb { nx := fun ρ' M' => ∃ m', m' < m ∧ I m' ρ' M', ct := fun ρ' M' => ∃ m', m' < m ∧ I m' ρ' M', bk := D.nx, rt := D.rt } ρ1 M1 else D.nx ρ1 M1
theorem qs_while (hp : PassesOwn (model X.prog X.w) X.A X.env X.xe) (hc : PT X c (liT z qt)) (hb : PSs X body (liS z t)) : PS X (.While c body [] pos) (liS z (sWhile qt t)) :=
  ps_w (ps_while hp hc hb) fun D σ H ⟨S, M, ρ, D0, sim, ⟨I, ⟨m0, w0⟩, turn⟩, nx, bk, ct, rt⟩ => by
    refine ⟨fun m σ' H' => ∃ S' M' ρ', Same S S' ∧ Sim z S' M' ρ' σ' H' ∧ I m ρ' M', ⟨m0, S, M, ρ, .refl _, sim, w0⟩, ?_⟩
    rintro m σ1 H1 ⟨S1, M1, ρ1, e1, sim1, w1⟩
    refine ⟨S1, M1, ρ1, _, sim1, turn m ρ1 M1 w1, fun k H2 ⟨ρ2, M2, S2, q2, st2, sim2⟩ => ?_⟩
    have e2 := e1.trans st2.same
    cases k with
    | true =>
      have q2' := (show t _ ρ2 M2 by simpa using q2)
      refine iteT ⟨fun σ' H' => ∃ m', m' < m ∧ ∃ S' M' ρ', Same S S' ∧ Sim z S' M' ρ' σ' H' ∧ I m' ρ' M', fun σ' H' h => h, S2, M2, ρ2, _, sim2, q2', ?_, ?_, ?_, rt⟩
      · rintro ρ3 M3 S3 σ3 H3 ⟨m', hm, w3⟩ e3 sim3
        exact ⟨m', hm, S3, M3, ρ3, e2.trans e3, sim3, w3⟩
      · intro ρ3 M3 S3 σ3 H3 w3 e3 sim3
        exact nx ρ3 M3 S3 σ3 H3 w3 (e2.trans e3) sim3
      · rintro ρ3 M3 S3 σ3 H3 ⟨m', hm, w3⟩ e3 sim3
        exact ⟨m', hm, S3, M3, ρ3, e2.trans e3, sim3, w3⟩
    | false => exact iteF (nx ρ2 M2 S2 _ H2 (by simpa using q2) e2 sim2)
end

/-! ### what is walked -/
/-- an iterator yields these data, whatever comes to be known meanwhile -/
structure Ylds (z : Z) (J : It) (S1 : Hp) (ds : List D) : Prop where
  go : ∀ i H S, Same S1 S → Same S H → i < ds.length → J.go i H
  stop : ∀ i H S, Same S1 S → Same S H → ds.length ≤ i → J.stop i H
  yld : ∀ i H S x H' d, Same S1 S → Same S H → ds[i]? = some d → J.yld i H x H' → ∃ S', Same S S' ∧ Same H H' ∧ Same S' H' ∧ (∀ b, S' b ≠ none → S b ≠ none ∨ H b = none) ∧ Rp z.K S' x d
def liI (z : Z) (q : QA) : TI := fun σ H R => ∃ S M ρ Q0, Sim z S M ρ σ H ∧ q ρ M Q0 ∧ ∀ J H', (∃ ds ρ' M' S', Q0 ds ρ' M' ∧ Step S M H S' M' H' ∧ Sim z S' M' ρ' σ H' ∧ Ylds z J S' ds) → R J H'
theorem pi_w {X : Cx} {tg e : Expr} {t t' : TI} (h : PI X tg e t) (w : ∀ σ H R, t' σ H R → t σ H R) : PI X tg e t' := ⟨fun pins s σ H R I hq => h.run pins s σ H R I (w σ H R hq)⟩
section
variable {X : Cx} {z : Z} {tg e a b c : Expr} {pos p : Pos} {q : QE} {qr : QA}
/-- a list or a tuple -/
theorem pi_seq {l : Expr} {tl : TE} (hl : PE X l tl) : PI X tg l (fun σ H R => tl σ H fun x H1 => ∃ a, x = .ref a ∧ (((∃ xs, SqL X.K H1 a xs) ∧ R (Itl X.K a) H1) ∨ ((∃ xs, SqT X.K H1 a xs) ∧ R (Itt X.K a) H1))) := by
  refine ⟨fun pins s σ H R I h => ?_⟩
  refine thn (hl.run pins s σ H _ I h) fun v s1 ⟨x, H1, I1, r1, q1⟩ => ?_
  obtain ⟨a, e, ⟨⟨xs, hq⟩, q⟩ | ⟨⟨xs, hq⟩, q⟩⟩ := q1
  · subst e
    cases r1
    obtain ⟨its, rv, p, hz⟩ := I1.list hq
    exact wpAny_pyIter_list p.isList (pi_one (tk := s1.toks) I1 _ (turn_list a _) ⟨_, Heap.get?_push_size _ rfl, rfl, rfl⟩ q)
  · subst e
    cases r1
    obtain ⟨its, rv, p, hz⟩ := I1.tuple hq
    exact wpAny_pyIter_tuple (show s1.heap.IsTuple a its.toArray from p) (pi_one (tk := s1.toks) I1 _ (turn_tuple a _) ⟨_, Heap.get?_push_size _ rfl, rfl, rfl⟩ q)
def iSeq (q : QE) : QA := fun ρ M Q => q ρ M fun r ρ' M' => match r.val with
  | .lst ds => Q ds ρ' M'
  | .tup ds => Q ds ρ' M'
  | _ => False
theorem ylds_list {S1 : Hp} {a : Addr} {xs : List V} {ds : List D} (h : SqL z.K S1 a xs) (r : RpA z.K S1 xs ds) (hinj : ∀ H ys, SqL z.K H a xs → SqL z.K H a ys → xs = ys) : Ylds z (Itl z.K a) S1 ds := by
  refine ⟨fun i H S e1 e2 hi => ?_, fun i H S e1 e2 hi => ⟨xs, (e1.trans e2).seq h, by rw [r.length]; exact hi⟩, fun i H S x H' d e1 e2 ed y => ?_⟩
  · have hl := r.length
    exact ⟨xs, xs[i], (e1.trans e2).seq h, List.getElem?_eq_getElem (by omega)⟩
  · obtain ⟨rfl, y⟩ := y
    have ex := y xs ((e1.trans e2).seq h)
    obtain ⟨v, h1, h2⟩ := r.get ed
    rw [ex] at h1
    cases h1
    exact ⟨S, .refl _, .refl _, e2, fun b q => .inl q, Rp.ext e1 _ _ h2⟩
theorem ylds_listS {S1 : Hp} {a : Addr} {xs : List V} {ds : List D} (h : S1 a = some (.lst xs)) (r : RpA z.K S1 xs ds) : Ylds z (Itl z.K a) S1 ds := by
  refine ⟨fun i H S e1 e2 hi => ?_, fun i H S e1 e2 hi => ⟨xs, .of ((e1.trans e2) _ _ h), by rw [r.length]; exact hi⟩, fun i H S x H' d e1 e2 ed y => ?_⟩
  · have hl := r.length
    exact ⟨xs, xs[i], .of ((e1.trans e2) _ _ h), List.getElem?_eq_getElem (by omega)⟩
  · obtain ⟨rfl, y⟩ := y
    have ex := y xs (.of ((e1.trans e2) _ _ h))
    obtain ⟨v, h1, h2⟩ := r.get ed
    rw [ex] at h1
    cases h1
    exact ⟨S, .refl _, .refl _, e2, fun b q => .inl q, Rp.ext e1 _ _ h2⟩
theorem ylds_tup {S1 : Hp} {a : Addr} {xs : List V} {ds : List D} (h : SqT z.K S1 a xs) (r : RpA z.K S1 xs ds) : Ylds z (Itt z.K a) S1 ds := by
  refine ⟨fun i H S e1 e2 hi => ?_, fun i H S e1 e2 hi => ⟨xs, same_seqT (e1.trans e2) h, by rw [r.length]; exact hi⟩, fun i H S x H' d e1 e2 ed y => ?_⟩
  · have hl := r.length
    exact ⟨xs, xs[i], same_seqT (e1.trans e2) h, List.getElem?_eq_getElem (by omega)⟩
  · obtain ⟨rfl, y⟩ := y
    have ex := y xs (same_seqT (e1.trans e2) h)
    obtain ⟨v, h1, h2⟩ := r.get ed
    rw [ex] at h1
    cases h1
    exact ⟨S, .refl _, .refl _, e2, fun b q => .inl q, Rp.ext e1 _ _ h2⟩
theorem qi_seq (hK : X.K = z.K := by first | assumption | rfl) (h : PE X e (liE z q)) : PI X tg e (liI z (iSeq q)) :=
  pi_w (pi_seq h) fun σ H R ⟨S, M, ρ, Q0, sim, h, post⟩ => ⟨S, M, ρ, _, sim, h, fun v H1 ⟨r, ρ1, M1, S1, q1, st1, sim1, res1⟩ => by
    obtain ⟨S2, sim2, st2, rp⟩ := sim1.freeze res1
    dsimp only at q1
    split at q1
    · rename_i ds e
      rw [e] at rp
      cases rp with
      | lst h1 h2 => exact ⟨_, rfl, .inl ⟨⟨_, .of (sim2.sub _ _ h1)⟩, post _ H1 ⟨ds, ρ1, M1, S2, q1, st1.trans st2, sim2, by rw [hK]; exact ylds_listS h1 h2⟩⟩⟩
    · rename_i ds e
      rw [e] at rp
      cases rp with
      | tup h1 h2 => exact ⟨_, rfl, .inr ⟨⟨_, by rw [hK]; exact same_seqT sim2.sub h1⟩, post _ H1 ⟨ds, ρ1, M1, S2, q1, st1.trans st2, sim2, by rw [hK]; exact ylds_tup h1 h2⟩⟩⟩
    · exact q1.elim⟩
/-- lo, lo + 1, .. below hi -/
def rangeL (lo hi : Int) : List D := (List.range (hi - lo).toNat).map fun (k : Nat) => .int (lo + (k : Int))
theorem rangeL_len {lo hi : Int} : (rangeL lo hi).length = (hi - lo).toNat := by unfold rangeL; rw [List.length_map, List.length_range]
theorem rangeL_get {lo hi : Int} {i : Nat} {d : D} (h : (rangeL lo hi)[i]? = some d) : d = .int (lo + (i : Int)) ∧ i < (hi - lo).toNat := by
  unfold rangeL at h
  rw [List.getElem?_map] at h
  cases e : (List.range (hi - lo).toNat)[i]? with
  | none => rw [e] at h; cases h
  | some k =>
    rw [e] at h
    obtain ⟨h1, h2⟩ := List.getElem?_eq_some_iff.mp e
    rw [List.getElem_range] at h2
    subst h2
    cases h
    exact ⟨rfl, by rw [List.length_range] at h1; exact h1⟩
def iR1 (qr : QA) : QA := fun ρ M Q => qr ρ M fun ds ρ' M' => match ds with
  | [.int j] => (-4611686018427387904 ≤ j ∧ j < 4611686018427387904) ∧ Q (rangeL 0 j) ρ' M'
  | _ => False
def iR2 (qr : QA) : QA := fun ρ M Q => qr ρ M fun ds ρ' M' => match ds with
  | [.int i, .int j] => (-4611686018427387904 ≤ i ∧ i < 4611686018427387904 ∧ -4611686018427387904 ≤ j ∧ j < 4611686018427387904) ∧ Q (rangeL i j) ρ' M'
  | _ => False
theorem ylds_range {S1 : Hp} {lo hi : Int} : Ylds z (Itr lo (hi - lo).toNat) S1 (rangeL lo hi) := by
  refine ⟨fun i H S e1 e2 h => by rw [rangeL_len] at h; exact h, fun i H S e1 e2 h => by rw [rangeL_len] at h; exact h, fun i H S x H' d e1 e2 ed y => ?_⟩
  obtain ⟨rfl, rfl⟩ := y
  obtain ⟨rfl, _⟩ := rangeL_get ed
  exact ⟨S, .refl _, .refl _, e2, fun b q => .inl q, .int _⟩
theorem p62 : ((2 : Int) ^ 62) = 4611686018427387904 := by decide
theorem qi_range1 (hg : Gl X "range") (hm : X.mg "range" = none) (ha : PA X [a] (liA z qr)) (hs : starEach [a] X.env = [(false, eval a X.env)] := by rfl) : PI X tg (.Call (.Name "range" p) [a] [] pos) (liI z (iR1 qr)) :=
  pi_w (pi_range1 hg hm ha hs) fun σ H R ⟨S, M, ρ, Q0, sim, h, post⟩ => ⟨S, M, ρ, _, sim, h, fun vs H1 ⟨ds, ρ1, M1, S1, q1, st1, sim1, rp⟩ => by
    dsimp only at q1
    split at q1
    · cases rp with
      | cons r1 rr =>
        cases rr
        cases r1
        obtain ⟨⟨b1, b2⟩, q⟩ := q1
        refine ⟨_, rfl, by rw [p62]; exact b1, by rw [p62]; exact b2, post _ H1 ⟨_, ρ1, M1, S1, q, st1, sim1, ?_⟩⟩
        have y := ylds_range (z := z) (S1 := S1) (lo := 0) (hi := ‹Int›)
        rw [Int.sub_zero] at y
        exact y
    · exact q1.elim⟩
theorem qi_range2 (hg : Gl X "range") (hm : X.mg "range" = none) (ha : PA X [a, b] (liA z qr)) (hs : starEach [a, b] X.env = [(false, eval a X.env), (false, eval b X.env)] := by rfl) (hs2 : starEach [b] X.env = [(false, eval b X.env)] := by rfl) :
    PI X tg (.Call (.Name "range" p) [a, b] [] pos) (liI z (iR2 qr)) :=
  pi_w (pi_range2 hg hm ha hs hs2) fun σ H R ⟨S, M, ρ, Q0, sim, h, post⟩ => ⟨S, M, ρ, _, sim, h, fun vs H1 ⟨ds, ρ1, M1, S1, q1, st1, sim1, rp⟩ => by
    dsimp only at q1
    split at q1
    · cases rp with
      | cons r1 rr =>
        cases rr with
        | cons r2 rr =>
          cases rr
          cases r1
          cases r2
          obtain ⟨⟨b1, b2, b3, b4⟩, q⟩ := q1
          exact ⟨_, _, rfl, ⟨by rw [p62]; exact b1, by rw [p62]; exact b2, by rw [p62]; exact b3, by rw [p62]; exact b4⟩, post _ H1 ⟨_, ρ1, M1, S1, q, st1, sim1, ylds_range⟩⟩
    · exact q1.elim⟩
end

/-! ### targets -/
abbrev QG := D → Ev → (Ev → Prop) → Prop
abbrev QGs := List D → Ev → (Ev → Prop) → Prop
/-- as: the slots that may change -/
def liG (z : Z) (as : List Nat) (q : QG) : TG := fun v σ H Q => ∃ S M ρ d Q0, Sim z S M ρ σ H ∧ Rp z.K S v d ∧ q d ρ Q0 ∧ ∀ ρ' σ', Q0 ρ' → Sim z S M ρ' σ' H → (∀ j, j ∉ as → σ'[j]? = σ[j]?) → Q σ' H
def liGs (z : Z) (as : List Nat) (q : QGs) : TGs := fun vs σ H Q => ∃ S M ρ ds Q0, Sim z S M ρ σ H ∧ RpA z.K S vs ds ∧ q ds ρ Q0 ∧ ∀ ρ' σ', Q0 ρ' → Sim z S M ρ' σ' H → (∀ j, j ∉ as → σ'[j]? = σ[j]?) → Q σ' H
theorem pg_w {X : Cx} {e : Expr} {t t' : TG} (h : PG X e t) (w : ∀ v σ H Q, t' v σ H Q → t v σ H Q) : PG X e t' := ⟨fun pins s σ H v u Q I r hq => h.run pins s σ H v u Q I r (w v σ H Q hq)⟩
theorem pgs_w {X : Cx} {e : List Expr} {t t' : TGs} (h : PGs X e t) (w : ∀ v σ H Q, t' v σ H Q → t v σ H Q) : PGs X e t' := ⟨fun pins s σ H v u Q I r hq => h.run pins s σ H v u Q I r (w v σ H Q hq)⟩
def gN (i : Nat) : QG := fun d ρ Q => Q (ρ.set i (.va d))
def gsNil : QGs := fun ds ρ Q => match ds with
  | [] => Q ρ
  | _ => False
def gsCons (g : QG) (gs : QGs) : QGs := fun ds ρ Q => match ds with
  | d :: r => g d ρ fun ρ' => gs r ρ' Q
  | [] => False
def gT (n : Nat) (gs : QGs) : QG := fun d ρ Q => match d with
  | .tup ds => ds.length = n ∧ gs ds ρ Q
  | _ => False
section
variable {X : Cx} {z : Z} {pos : Pos} {e : Expr} {es : List Expr} {g : QG} {gs : QGs} {as bs : List Nat}
theorem qg_name {i : Nat} {x : Str} (hN : X.N.Nodup) (hi : X.N[i]? = some x) (hx : Loc X.env.scope x) (hf : X.fn x = true ∨ X.env.scope.names.lookup x = some .local := by first | exact .inl rfl | exact .inr rfl | assumption) : PG X (.Name x pos) (liG z [i] (gN i)) :=
  pg_w (pg_name hN hi hx hf) fun v σ H Q ⟨S, M, ρ, d, Q0, sim, r, h, post⟩ => post _ _ h (sim.put (r := .va d) r) fun j hj => List.getElem?_set_ne fun e => hj (by simp [e])
theorem qgs_nil : PGs X [] (liGs z [] gsNil) := pgs_w pgs_nil fun vs σ H Q ⟨S, M, ρ, ds, Q0, sim, r, h, post⟩ => by
  unfold gsNil at h
  split at h
  · cases r; exact ⟨rfl, post _ _ h sim fun _ _ => rfl⟩
  · exact h.elim
theorem qgs_cons (h1 : PG X e (liG z as g)) (h2 : PGs X es (liGs z bs gs)) (hs : (assignEach (e :: es) X.env).map (·.2) = assign e X.env :: (assignEach es X.env).map (·.2) := by rfl) : PGs X (e :: es) (liGs z (as ++ bs) (gsCons g gs)) :=
  pgs_w (pgs_cons h1 h2 hs) fun vs σ H Q ⟨S, M, ρ, ds, Q0, sim, r, h, post⟩ => by
    unfold gsCons at h
    split at h
    · cases r with
      | cons r1 r2 => exact ⟨_, _, rfl, S, M, ρ, _, _, sim, r1, h, fun ρ' σ' q sim' k1 => ⟨S, M, ρ', _, Q0, sim', r2, q, fun ρ2 σ2 q2 sim2 k2 => post ρ2 σ2 q2 sim2 fun j hj => (k2 j fun hm => hj (List.mem_append_right _ hm)).trans (k1 j fun hm => hj (List.mem_append_left _ hm))⟩⟩
    · exact h.elim
theorem qg_tup {k n : Nat} (hc : X.calm = true) (h : PGs X es (liGs z as gs)) (hK : X.K = z.K := by first | assumption | rfl) (hn : (assignEach es X.env).length = n := by rfl) (hst : (assignEach es X.env).findIdx? (·.1) = none := by rfl) : PG X (.Tuple es k pos) (liG z as (gT n gs)) :=
  pg_w (pg_tup hc h hn hst) fun v σ H Q ⟨S, M, ρ, d, Q0, sim, r, h, post⟩ => by
    unfold gT at h
    split at h
    · cases r with
      | tup r1 r2 => exact ⟨_, _, rfl, by rw [hK]; exact same_seqT sim.sub r1, by rw [r2.length]; exact h.1, S, M, ρ, _, Q0, sim, r2, h.2, post⟩
    · exact h.elim
/-- target = value -/
def sTgt (q : QE) (g : QG) : QS := fun D ρ M => q ρ M fun r ρ' M' => g r.val ρ' fun ρ2 => D.nx ρ2 M'
theorem qs_asg {tg e : Expr} {q : QE} (he : PE X e (liE z q)) (hg : PG X tg (liG z as g)) (hs : swapsWithSole [tg] e pos.line X.env = pure false := by rfl) (hw : swappedStores [tg] e X.env = pure none := by rfl)
    (h1 : (assignEach [tg] X.env).map (·.2) = [assign tg X.env] := by rfl) : PS X (.Assign [tg] e pos) (liS z (sTgt q g)) :=
  ps_w (ps_asg he hg hs hw h1) fun D σ H ⟨S, M, ρ, D0, sim, h, nx, _⟩ => ⟨S, M, ρ, _, sim, h, fun v H' ⟨r, ρ', M', S', q, st, sim', res⟩ => by
    obtain ⟨S2, sim2, st2, rp⟩ := sim'.freeze res
    exact ⟨S2, M', ρ', _, _, sim2, rp, q, fun ρ2 σ2 q2 sim3 _ => nx ρ2 M' S2 σ2 H' q2 (st.trans st2).same sim3⟩⟩

/-! ### for -/
def sFor (qi : QA) (g : QG) (tb : QS) : QS := fun D ρ M => qi ρ M fun ds ρ1 M1 => ∃ I : Nat → Ev → Mu → Prop, I 0 ρ1 M1 ∧
  (∀ i d ρ M, ds[i]? = some d → I i ρ M → g d ρ fun ρ2 => tb { nx := I (i + 1), ct := I (i + 1), bk := D.nx, rt := D.rt } ρ2 M) ∧ (∀ ρ M, I ds.length ρ M → D.nx ρ M)
theorem qs_for {tg iter : Expr} {body : List Stmt} {qi : QA} {tb : QS} (hp : PassesOwn (model X.prog X.w) X.A X.env X.xe) (hc : X.calm = true) (hi : PI X tg iter (liI z qi)) (hg : PG X tg (liG z as g)) (hb : PSs X body (liS z tb))
    (hs : ∀ x, foldedSetIterable iter X.env x = pure x := by intro _; rfl) : PS X (.For tg iter body [] pos) (liS z (sFor qi g tb)) :=
  ps_w (ps_for hp hc hi hg hb hs) fun D σ H ⟨S, M, ρ, D0, sim, h, nx, bk, ct, rt⟩ => ⟨S, M, ρ, _, sim, h, fun J H1 ⟨ds, ρ1, M1, S1, ⟨I, w0, turn, fin⟩, st1, sim1, y⟩ => by
    refine ⟨fun i m σ' H' => m = ds.length - i ∧ i ≤ ds.length ∧ ∃ S' M' ρ', Same S1 S' ∧ Sim z S' M' ρ' σ' H' ∧ I i ρ' M', ⟨ds.length, by simp, Nat.zero_le _, S1, M1, ρ1, .refl _, sim1, w0⟩, ?_⟩
    rintro i m σ2 H2 ⟨rfl, hi, S2, M2, ρ2, e2, sim2, w2⟩
    by_cases hlt : i < ds.length
    · refine .inr ⟨y.go i H2 S2 e2 sim2.sub hlt, fun σ' H' => i + 1 ≤ ds.length ∧ ∃ S' M' ρ', Same S1 S' ∧ Sim z S' M' ρ' σ' H' ∧ I (i + 1) ρ' M', fun σ' H' h => ⟨ds.length - (i + 1), by omega, rfl, h.1, h.2⟩, fun x H3 hy => ?_⟩
      have ed : ds[i]? = some ds[i] := List.getElem?_eq_getElem hlt
      obtain ⟨S3, a1, a2, a3, a4, rp⟩ := y.yld i H2 S2 x H3 _ e2 sim2.sub ed hy
      have sim3 := sim2.grow a1 a2 a3 a4
      refine ⟨S3, M2, ρ2, _, _, sim3, rp, turn i _ ρ2 M2 ed w2, fun ρ4 σ4 q4 sim4 _ => ?_⟩
      have e3 := e2.trans a1
      exact ⟨S3, M2, ρ4, _, sim4, q4, fun ρ5 M5 S5 σ5 H5 q5 e5 sim5 => ⟨hlt, S5, M5, ρ5, e3.trans e5, sim5, q5⟩,
        fun ρ5 M5 S5 σ5 H5 q5 e5 sim5 => nx ρ5 M5 S5 σ5 H5 q5 ((st1.same.trans e3).trans e5) sim5, fun ρ5 M5 S5 σ5 H5 q5 e5 sim5 => ⟨hlt, S5, M5, ρ5, e3.trans e5, sim5, q5⟩, rt⟩
    · have e : i = ds.length := by omega
      subst e
      exact .inl ⟨y.stop _ H2 S2 e2 sim2.sub (Nat.le_refl _), nx ρ2 M2 S2 σ2 H2 (fin ρ2 M2 w2) (st1.same.trans e2) sim2⟩⟩
end

/-! ### calls of the program's defs -/
/-- a promise: the arguments' data, the objects known by address; the wanted end; the wanted exception (its class's name, its fields) -/
abbrev PSp := List D → Mu → (Sl → Mu → Prop) → (Str → List D → Mu → Prop) → Prop
abbrev zOf (K : Fg) (H S : Hp) (M : Mu) : Z := ⟨K, H, S, M, fun _ => False⟩
/-- .. of a def that raises nothing -/
def liP (K : Fg) (p : PSp) : Sp := fun vs H Q _ => ∃ S M ds Q0, Core (zOf K H S M) S M H ∧ RpA K S vs ds ∧ p ds M Q0 (fun _ _ _ => False) ∧
  ∀ v H' r M' S', Q0 r M' → Core (zOf K H S M) S' M' H' → ResF (zOf K H S M) S' M' H' v r → Q v H'
def eCall (p : PSp) (qr : QA) : QE := fun ρ M Q => qr ρ M fun ds ρ1 M1 => p ds M1 (fun r M2 => Q r ρ1 M2) fun _ _ _ => False
section
variable {X : Cx} {z : Z}
theorem Sim.core0 {S : Hp} {M : Mu} {ρ : Ev} {σ : St} {H : Hp} (h : Sim z S M ρ σ H) : Core (zOf z.K H S M) S M H := ⟨.refl, h.sub, fun b q => .inl q, h.mu, h.mnd, fun _ r => r.elim⟩
theorem Sim.after {S S' : Hp} {M M' : Mu} {ρ : Ev} {σ : St} {H H' : Hp} (h : Sim z S M ρ σ H) (c : Core (zOf z.K H S M) S' M' H') : Sim z S' M' ρ σ H' := by
  have hs : ∀ {a : Addr}, S a = none → H a ≠ none → S' a = none := fun {a} e n => by
    cases q : S' a with
    | none => rfl
    | some o =>
      rcases c.frS a (by rw [q]; simp) with w | w
      · exact absurd e w
      · exact absurd w n
  refine ⟨⟨h.step.trans c.step, c.sub, fun b q => ?_, c.mu, c.mnd, fun b hb => ?_⟩, h.len, fun i d e => ?_, fun i o e => ?_, h.sep⟩
  · rcases c.frS b q with w | w
    · exact h.frS b w
    · exact .inr (h.toCore.h0 w)
  · obtain ⟨r1, r2, r3⟩ := h.rsv b hb
    refine ⟨hs r1 r2, c.step.dom b r2, fun p hp e => ?_⟩
    rcases c.step.mnew p hp with ⟨q, hq, e2⟩ | e2
    · exact r3 q hq (e2.trans e)
    · exact r2 (e ▸ e2)
  · obtain ⟨v, a, b⟩ := h.va i d e
    exact ⟨v, a, Rp.ext c.step.same _ _ b⟩
  · obtain ⟨a, h1, h2, h3, h4, h5⟩ := h.ow i o e
    obtain ⟨u, hu⟩ := h4.at
    have k : H' a = H a := (c.step.keep a u hu h5).trans hu.symm
    refine ⟨a, h1, hs h2 (by rw [hu]; simp), h3, h4.ext c.step.same k, fun p hp e => ?_⟩
    rcases c.step.mnew p hp with ⟨q, hq, e2⟩ | e2
    · exact h5 q hq (e2.trans e)
    · have e3 : H p.1 = none := e2
      rw [e, hu] at e3; cases e3
theorem Sim.afterR {S S' : Hp} {M M' : Mu} {ρ : Ev} {σ : St} {H H' : Hp} {v : V} {r : Sl} (h : Sim z S M ρ σ H) (res : ResF (zOf z.K H S M) S' M' H' v r) : ResE z S' M' ρ σ H' v r := by
  cases r with
  | un => exact res
  | va d => exact res
  | ow o =>
    obtain ⟨a, h1, h2, h3, h4, h5⟩ := res
    have h3' : H a = none := h3.1
    refine ⟨a, h1, h2, h.toCore.nw h3', h4, h5, fun i o' e q => ?_⟩
    obtain ⟨b, k1, _, _, k4, _⟩ := h.ow i o' e
    rw [q] at k1
    cases k1
    obtain ⟨u, hu⟩ := k4.at
    rw [h3'] at hu; cases hu
variable {CX : CXT} {k : Nat} {f : Addr} {fd : FuncData} {ps : List Str} {p : PSp} {x : Str} {pp pos : Pos} {e : Expr} {es : List Expr} {qr : QA}
theorem call_lift {σ : St} {H : Hp} {Q : VK} (h : liE z (eCall p qr) σ H Q) : liA z qr σ H fun vs H1 => liP z.K p (vs ++ []) H1 Q E0 := by
  obtain ⟨S, M, ρ, Q0, sim, h, post⟩ := h
  refine ⟨S, M, ρ, _, sim, h, fun vs H1 ⟨ds, ρ1, M1, S1, q1, st1, sim1, rp⟩ => ⟨S1, M1, ds, _, sim1.core0, by rw [List.append_nil]; exact rp, q1, fun v H2 r M2 S2 q2 c res => ?_⟩⟩
  exact post v H2 ⟨r, ρ1, M2, S2, q2, st1.trans c.step, sim1.after c, sim1.afterR res⟩
/-- f(e, ..): no exception is let out -/
theorem qe_call (F : FnOk X.prog X.w X.K X.mg X.base CX k f fd ps (liP X.K p)) (hr : Room k X.A) (hg : Gl X x) (hm : X.mg x = some (.ref f)) (hk : PySem.W.keepIn X.K (.ref f) = true) (hb : Binds X.K fd ps []) (hx : Passes CX X E0)
    (ha : PA X (e :: es) (liA z qr)) (hK : X.K = z.K := by first | assumption | rfl) (hdb : (x == ("__debug__" : Str)) = false := by decide) (he : starEach (e :: es) X.env = (false, eval e X.env) :: starEach es X.env := by rfl) (hpl : (backTo pos (starEach es X.env)).any (·.1) = false := by rfl) :
    PE X (.Call (.Name x pp) (e :: es) [] pos) (liE z (eCall p qr)) := by
  refine pe_w (pe_call F hr hg hm hk hb .nil hx ha hdb he hpl) fun σ H Q h => ?_
  have h' := call_lift h
  unfold tCall
  rw [hK]
  exact h'
end
end PL
namespace PL
open PySem PySem.Spec PyProof.Rows L2

/-! ### arithmetic on data -/
def dI2 (C : Int → Int → Prop) (f : Int → Int → D) : OD := fun a b Q => match a, b with
  | .int i, .int j => C i j ∧ Q (.va (f i j))
  | _, _ => False
abbrev CT : Int → Int → Prop := fun _ _ => True
/-- a factor is small, or both are not too great -/
def CMulP (i j : Int) : Prop := (-18446744073709551616 < i ∧ i < 18446744073709551616) ∨ (-18446744073709551616 < j ∧ j < 18446744073709551616)
/-- a divisor below 2 ^ 100 -/
def CDivP (_ j : Int) : Prop := 0 < j ∧ j < 1267650600228229401496703205376
def CModP (_ j : Int) : Prop := 0 < j
def CPowP (i j : Int) : Prop := 0 ≤ j ∧ j ≤ 1000 ∧ (-1000000 < i ∧ i < 1000000)
def dAdd : OD := fun a b Q => match a, b with
  | .int i, .int j => Q (.va (.int (i + j)))
  | .str x, .str y => x.length + y.length ≤ 16777216 ∧ Q (.va (.str (x ++ y)))
  | .lst xs, .lst ys => xs.length + ys.length ≤ 16777216 ∧ Q (.ow (.lst (xs ++ ys)))
  | .tup xs, .tup ys => xs.length + ys.length ≤ 16777216 ∧ Q (.va (.tup (xs ++ ys)))
  | _, _ => False
abbrev dSub : OD := dI2 CT fun i j => .int (i - j)
abbrev dMul : OD := dI2 CMulP fun i j => .int (i * j)
abbrev dDiv : OD := dI2 CDivP fun i j => .int (i / j)
abbrev dMod : OD := dI2 CModP fun i j => .int (i % j)
abbrev dPow : OD := dI2 CPowP fun i j => .int (i ^ j.toNat)
abbrev dLt : OD := dI2 CT fun i j => .bl (decide (i < j))
abbrev dLe : OD := dI2 CT fun i j => .bl (decide (i ≤ j))
abbrev dGt : OD := dI2 CT fun i j => .bl (decide (j < i))
abbrev dGe : OD := dI2 CT fun i j => .bl (decide (j ≤ i))
section
variable {X : Cx} {z : Z} {S : Hp} {M : Mu} {H : Hp}
theorem Rb.int {v : V} {i : Int} (h : Rb z.K S M H v (.int i)) : v = .int i := by
  rcases h with h | ⟨_, _, _, _, e, _⟩
  · cases h; rfl
  · cases e
theorem Rb.bl {v : V} {i : Bool} (h : Rb z.K S M H v (.bl i)) : v = .bl i := by
  rcases h with h | ⟨_, _, _, _, e, _⟩
  · cases h; rfl
  · cases e
theorem Rb.str {v : V} {i : Str} (h : Rb z.K S M H v (.str i)) : v = .str i := by
  rcases h with h | ⟨_, _, _, _, e, _⟩
  · cases h; rfl
  · cases e
theorem Rb.ty {v : V} {i : String} (h : Rb z.K S M H v (.ty i)) : v = .ty i := by
  rcases h with h | ⟨_, _, _, _, e, _⟩
  · cases h; rfl
  · cases e
theorem Rb.non {v : V} (h : Rb z.K S M H v .non) : v = .non := by
  rcases h with h | ⟨_, _, _, _, e, _⟩
  · cases h; rfl
  · cases e
theorem Rb.ref {v : V} {a : Addr} (h : Rb z.K S M H v (.ref a)) : v = .ref a := by
  rcases h with h | ⟨_, _, _, _, e, _⟩
  · cases h; rfl
  · cases e
theorem Rb.tup {v : V} {ds : List D} (h : Rb z.K S M H v (.tup ds)) : ∃ a xs, v = .ref a ∧ SqT z.K S a xs ∧ RpA z.K S xs ds := by
  rcases h with h | ⟨_, _, _, _, e, _⟩
  · cases h with | tup a b => exact ⟨_, _, rfl, a, b⟩
  · cases e
theorem Rb.lst {v : V} {ds : List D} (hs : Same S H) (h : Rb z.K S M H v (.lst ds)) : ∃ a xs, v = .ref a ∧ H a = some (.lst xs) ∧ RpA z.K S xs ds := by
  rcases h with h | ⟨a, xs, ds', e1, e, e2, e3, _⟩
  · cases h with | lst a b => exact ⟨_, _, rfl, hs _ _ a, b⟩
  · cases e; exact ⟨a, xs, e1, e2, e3⟩
theorem ob_i2 {f : Value → Value → Sem Value} {C C' : Int → Int → Prop} {g : Int → Int → V} {g' : Int → Int → D} (h : OpR X f (rI C g)) (hC : ∀ i j, C' i j → C i j) (hg : ∀ S i j, Rp z.K S (g i j) (g' i j)) : OpB X z f (dI2 C' g') :=
  opB_of h fun σ H S M ρ x y d1 d2 Q0 sim b1 b2 q => by
    unfold dI2 at q
    split at q
    · exact ⟨_, _, b1.int, b2.int, hC _ _ q.1, poE_va sim (hg _ _ _) q.2⟩
    · exact q.elim
theorem ob_i20 {f : Value → Value → Sem Value} {g : Int → Int → V} {g' : Int → Int → D} (h : OpR X f (rI0 g)) (hg : ∀ S i j, Rp z.K S (g i j) (g' i j)) : OpB X z f (dI2 CT g') :=
  opB_of h fun σ H S M ρ x y d1 d2 Q0 sim b1 b2 q => by
    unfold dI2 at q
    split at q
    · exact ⟨_, _, b1.int, b2.int, poE_va sim (hg _ _ _) q.2⟩
    · exact q.elim
theorem p64 : ((2 : Int) ^ 64) = 18446744073709551616 := by decide
theorem cmul_ok {i j : Int} (h : CMulP i j) : CMul i j := by
  unfold CMul
  rw [p64]
  exact h
theorem cdiv_ok {i j : Int} (h : CDivP i j) : CDivW i j := by
  refine wide_div (b := 100) h.1 ?_ (by decide) (by decide)
  have h1 := h.1
  have h2 := h.2
  have e : (2 : Nat) ^ 100 = 1267650600228229401496703205376 := by decide
  rw [e]
  omega
theorem cpow_ok {i j : Int} (h : CPowP i j) : CPow i j := by
  obtain ⟨h1, h2, h3, h4⟩ := h
  exact ⟨h1, by omega, by omega⟩
theorem ob_sub : OpB X z (binaryOp .Sub) dSub := ob_i20 op_sub fun _ _ _ => .int _
theorem ob_mul : OpB X z (binaryOp .Mult) dMul := ob_i2 op_mul (fun _ _ => cmul_ok) fun _ _ _ => .int _
theorem ob_div : OpB X z (binaryOp .FloorDiv) dDiv := ob_i2 op_fdivW (fun _ _ => cdiv_ok) fun _ _ _ => .int _
theorem ob_mod : OpB X z (binaryOp .Mod) dMod := ob_i2 op_mod (fun _ _ h => h) fun _ _ _ => .int _
theorem ob_pow : OpB X z (binaryOp .Pow) dPow := ob_i2 op_pow (fun _ _ => cpow_ok) fun _ _ _ => .int _
theorem ob_lt : OpB X z (compareOp .Lt) dLt := ob_i20 op_lt fun _ _ _ => .bl _
theorem ob_le : OpB X z (compareOp .LtE) dLe := ob_i20 op_le fun _ _ _ => .bl _
theorem ob_gt : OpB X z (compareOp .Gt) dGt := ob_i20 op_gt fun _ _ _ => .bl _
theorem ob_ge : OpB X z (compareOp .GtE) dGe := ob_i20 op_ge fun _ _ _ => .bl _
abbrev dAddI : OD := dI2 CT fun i j => .int (i + j)
theorem ib_add : OpB X z (inplaceOp .Add) dAddI := ob_i20 iop_add fun _ _ _ => .int _
theorem ib_sub : OpB X z (inplaceOp .Sub) dSub := ob_i20 iop_sub fun _ _ _ => .int _
theorem ib_mul : OpB X z (inplaceOp .Mult) dMul := ob_i2 iop_mul (fun _ _ => cmul_ok) fun _ _ _ => .int _
def CDivS (_ j : Int) : Prop := 0 < j ∧ j < 1073741824
abbrev dDivS : OD := dI2 CDivS fun i j => .int (i / j)
theorem ib_div : OpB X z (inplaceOp .FloorDiv) dDivS := ob_i2 iop_fdiv (fun _ _ h => h) fun _ _ _ => .int _
theorem ib_mod : OpB X z (inplaceOp .Mod) dMod := ob_i2 iop_mod (fun _ _ h => h) fun _ _ _ => .int _
/-- a new list of one's own, as a result -/
theorem poE_ow {ρ : Ev} {σ : St} {Q0 : Sl → Prop} {p : Addr} {xs : List V} {ds : List D} (sim : Sim z S M ρ σ H) (hp : H p = none) (r : RpA z.K S xs ds) (q : Q0 (.ow (.lst ds))) : PoE z S M σ H (fun r ρ' M' => ρ' = ρ ∧ M' = M ∧ Q0 r) (.ref p) (upd H p (.lst xs)) := by
  obtain ⟨a, b, c⟩ := sim.fresh hp r
  exact ⟨_, ρ, M, S, ⟨rfl, rfl, q⟩, b, a, c⟩
theorem poE_tup {ρ : Ev} {σ : St} {Q0 : Sl → Prop} {p : Addr} {xs : List V} {ds : List D} (sim : Sim z S M ρ σ H) (hp : H p = none) (r : RpA z.K S xs ds) (q : Q0 (.va (.tup ds))) : PoE z S M σ H (fun r ρ' M' => ρ' = ρ ∧ M' = M ∧ Q0 r) (.ref p) (upd H p (.tup xs)) := by
  obtain ⟨a, b⟩ := sim.alloc (o := .tup xs) hp
  exact ⟨_, ρ, M, _, ⟨rfl, rfl, q⟩, b, a, Rp.tup (.of upd_same) (RpA.ext b.same _ _ r)⟩
theorem ob_add (hK : X.K = z.K := by first | assumption | rfl) : OpB X z (binaryOp .Add) dAdd := by
  intro pins s σ H S M ρ x y u w d1 d2 Q0 I sim b1 b2 r1 r2 q
  unfold dAdd at q
  split at q
  · exact op_add pins s σ H x y u w _ I r1 r2 ⟨_, _, b1.int, b2.int, poE_va sim (.int _) q⟩
  · exact op_add_str pins s σ H x y u w _ I r1 r2 ⟨_, _, b1.str, b2.str, line_eq q.1, poE_va sim (.str _) q.2⟩
  · obtain ⟨a, xs, e1, h1, k1⟩ := b1.lst sim.sub
    obtain ⟨b, ys, e2, h2, k2⟩ := b2.lst sim.sub
    exact op_cat pins s σ H x y u w _ I r1 r2 ⟨a, b, xs, ys, e1, e2, h1, h2, by rw [k1.length, k2.length]; exact line_eq q.1, fun p hp => poE_ow sim hp (k1.append k2) q.2⟩
  · obtain ⟨a, xs, e1, h1, k1⟩ := b1.tup
    obtain ⟨b, ys, e2, h2, k2⟩ := b2.tup
    refine op_catA pins s σ H x y u w _ I r1 r2 ⟨a, b, xs, ys, e1, e2, by rw [hK]; exact same_seqT sim.sub h1, by rw [hK]; exact same_seqT sim.sub h2, by rw [k1.length, k2.length]; exact line_eq q.1, fun e => ?_, fun n e => ?_, fun n1 n2 p hp => poE_tup sim hp (k1.append k2) q.2⟩
    · subst e
      have z1 := k1.length
      cases k1
      exact poE_va sim (.tup h2 k2) (by simpa using q.2)
    · subst e
      cases k2
      exact poE_va sim (.tup h1 k1) (by simpa using q.2)
  · exact q.elim
theorem ub_neg : UnB X z (unaryOp .USub) (fun d Q => match d with | .int i => Q (.va (.int (-i))) | _ => False) := by
  intro pins s σ H S M ρ x u d Q0 I sim b r q
  split at q
  · exact un_neg pins s σ H x u _ I r ⟨_, b.int, poE_va sim (.int _) q⟩
  · exact q.elim

/-! ### == -/
mutual
def toPy : D → PyData
  | .non => .none
  | .bl b => .bool b
  | .int i => .int i
  | .str x => .str x
  | .tup xs => .tuple (toPyA xs)
  | .lst xs => .list (toPyA xs)
  | .ref _ => .dict []
  | .ty _ => .dict []
  | .set _ _ => .dict []
  | .dic _ _ => .dict []
def toPyA : List D → List PyData
  | [] => []
  | d :: ds => toPy d :: toPyA ds
end
mutual
/-- data without addresses and types -/
def isPure : D → Bool
  | .tup xs => isPureA xs
  | .lst xs => isPureA xs
  | .ref _ => false
  | .ty _ => false
  | .set _ _ => false
  | .dic _ _ => false
  | _ => true
def isPureA : List D → Bool
  | [] => true
  | d :: ds => isPure d && isPureA ds
end
mutual
theorem Rp.dp {K : Fg} {S H : Hp} (e : Same S H) : ∀ (d : D) (v : V), isPure d = true → Rp K S v d → Dp K H v (toPy d)
  | .non, _, _, h => by cases h; exact .non
  | .bl b, _, _, h => by cases h; exact .bl b
  | .int i, _, _, h => by cases h; exact .int i
  | .str x, _, _, h => by cases h; exact .str x
  | .ty n, _, p, h => by simp [isPure] at p
  | .set f n, _, p, h => by simp [isPure] at p
  | .dic ks ds, _, p, h => by simp [isPure] at p
  | .ref a, _, p, h => by simp [isPure] at p
  | .lst ds, _, p, h => by cases h with | lst a b => exact .lst (.of (e _ _ a)) (RpA.dp e ds _ (by simpa [isPure] using p) b)
  | .tup ds, _, p, h => by cases h with | tup a b => exact .tup (same_seqT e a) (RpA.dp e ds _ (by simpa [isPure] using p) b)
theorem RpA.dp {K : Fg} {S H : Hp} (e : Same S H) : ∀ (ds : List D) (vs : List V), isPureA ds = true → RpA K S vs ds → DpAll K H vs (toPyA ds)
  | [], _, _, h => by cases h; exact .nil
  | d :: ds, _, p, h => by
    simp only [isPureA, Bool.and_eq_true] at p
    cases h with | cons a b => exact .cons (Rp.dp e d _ p.1 a) (RpA.dp e ds _ p.2 b)
end
theorem Rb.dp (e : Same S H) {v : V} {d : D} (p : isPure d = true) (h : Rb z.K S M H v d) : Dp z.K H v (toPy d) := by
  rcases h with h | ⟨a, xs, ds, rfl, rfl, h1, h2, _⟩
  · exact Rp.dp e d v p h
  · exact .lst (.of h1) (RpA.dp e ds xs (by simpa [isPure] using p) h2)
/-- may be compared: no address, nested at most 64 deep -/
def cmpOk (d : D) : Bool := isPure d && SeqAt.shaped (toPy d)
def deq (a b : D) : Bool := PyData.eqv (toPy a) (toPy b)
def dEq : OD := fun a b Q => (cmpOk a = true ∧ cmpOk b = true) ∧ Q (.va (.bl (deq a b)))
def dNe : OD := fun a b Q => (cmpOk a = true ∧ cmpOk b = true) ∧ Q (.va (.bl (!deq a b)))
theorem ob_eq (hu : X.A.units + 64 < cLine) (hK : X.K = z.K := by first | assumption | rfl) : OpB X z (compareOp .Eq) dEq :=
  opB_of (op_eqD hu) fun σ H S M ρ x y d1 d2 Q0 sim b1 b2 q => by
    obtain ⟨⟨p1, p2⟩, q⟩ := q
    unfold cmpOk at p1 p2
    rw [Bool.and_eq_true] at p1 p2
    exact ⟨_, _, by rw [hK]; exact b1.dp sim.sub p1.1, by rw [hK]; exact b2.dp sim.sub p2.1, p1.2, p2.2, poE_va sim (.bl _) q⟩
theorem ob_ne (hu : X.A.units + 64 < cLine) (hK : X.K = z.K := by first | assumption | rfl) : OpB X z (compareOp .NotEq) dNe :=
  opB_of (op_neD hu) fun σ H S M ρ x y d1 d2 Q0 sim b1 b2 q => by
    obtain ⟨⟨p1, p2⟩, q⟩ := q
    unfold cmpOk at p1 p2
    rw [Bool.and_eq_true] at p1 p2
    exact ⟨_, _, by rw [hK]; exact b1.dp sim.sub p1.1, by rw [hK]; exact b2.dp sim.sub p2.1, p1.2, p2.2, poE_va sim (.bl _) q⟩
/-- == of ints alone -/
abbrev dEqI : OD := dI2 CT fun i j => .bl (decide (i = j))
abbrev dNeI : OD := dI2 CT fun i j => .bl (!decide (i = j))
theorem ob_eqI : OpB X z (compareOp .Eq) dEqI := opB_of op_eq fun σ H S M ρ x y d1 d2 Q0 sim b1 b2 q => by
  unfold dEqI dI2 at q
  split at q
  · rw [b1.int, b2.int]
    refine ⟨rfl, ?_⟩
    rename_i i j
    have e : decide (V.int i = V.int j) = decide (i = j) := by simp
    rw [e]
    exact poE_va sim (.bl _) q.2
  · exact q.elim
theorem ob_neI : OpB X z (compareOp .NotEq) dNeI := opB_of op_ne fun σ H S M ρ x y d1 d2 Q0 sim b1 b2 q => by
  unfold dNeI dI2 at q
  split at q
  · rw [b1.int, b2.int]
    refine ⟨rfl, ?_⟩
    rename_i i j
    have e : decide (V.int i = V.int j) = decide (i = j) := by simp
    rw [e]
    exact poE_va sim (.bl _) q.2
  · exact q.elim
/-- == of texts alone -/
def dEqS : OD := fun a b Q => match a, b with
  | .str x, .str y => Q (.va (.bl (decide (x = y))))
  | _, _ => False
theorem ob_eqS : OpB X z (compareOp .Eq) dEqS := opB_of op_eq fun σ H S M ρ x y d1 d2 Q0 sim b1 b2 q => by
  unfold dEqS at q
  split at q
  · rw [b1.str, b2.str]
    refine ⟨rfl, ?_⟩
    rename_i i j
    have e : decide (V.str i = V.str j) = decide (i = j) := by simp
    rw [e]
    exact poE_va sim (.bl _) q
  · exact q.elim
def dNeS : OD := fun a b Q => match a, b with
  | .str x, .str y => Q (.va (.bl (!decide (x = y))))
  | _, _ => False
theorem ob_neS : OpB X z (compareOp .NotEq) dNeS := opB_of op_ne fun σ H S M ρ x y d1 d2 Q0 sim b1 b2 q => by
  unfold dNeS at q
  split at q
  · rw [b1.str, b2.str]
    refine ⟨rfl, ?_⟩
    rename_i i j
    have e : decide (V.str i = V.str j) = decide (i = j) := by simp
    rw [e]
    exact poE_va sim (.bl _) q
  · exact q.elim
def isNon : D → Bool
  | .non => true
  | _ => false
theorem Rb.isNon {v : V} {d : D} (h : Rb z.K S M H v d) : decide (v = .non) = PL.isNon d := by
  rcases h with h | ⟨_, _, _, rfl, rfl, _⟩
  · cases h <;> rfl
  · rfl
/-- is None -/
def dIsN : OD := fun a b Q => match b with
  | .non => Q (.va (.bl (isNon a)))
  | _ => False
def dNotN : OD := fun a b Q => match b with
  | .non => Q (.va (.bl (!isNon a)))
  | _ => False
theorem ob_isN : OpB X z (compareOp .Is) dIsN := opB_of op_isN fun σ H S M ρ x y d1 d2 Q0 sim b1 b2 q => by
  unfold dIsN at q
  split at q
  · exact ⟨b2.non, by rw [b1.isNon]; exact poE_va sim (.bl _) q⟩
  · exact q.elim
theorem ob_notN : OpB X z (compareOp .IsNot) dNotN := opB_of op_notN fun σ H S M ρ x y d1 d2 Q0 sim b1 b2 q => by
  unfold dNotN at q
  split at q
  · exact ⟨b2.non, by rw [b1.isNon]; exact poE_va sim (.bl _) q⟩
  · exact q.elim

/-! ### in -/
def dIn (neg : Bool) : OD := fun a b Q => match b with
  | .lst ds => (cmpOk a = true ∧ cmpOk (.lst ds) = true) ∧ Q (.va (.bl (if neg then !(ds.any fun x => deq x a) else ds.any fun x => deq x a)))
  | .tup ds => (cmpOk a = true ∧ cmpOk (.tup ds) = true) ∧ Q (.va (.bl (if neg then !(ds.any fun x => deq x a) else ds.any fun x => deq x a)))
  | _ => False
theorem toPyA_any {p : PyData → Bool} : ∀ ds : List D, (toPyA ds).any p = ds.any fun x => p (toPy x)
  | [] => rfl
  | d :: ds => by rw [toPyA, List.any_cons, List.any_cons, toPyA_any ds]
theorem ob_in (hu : X.A.units + 65 < cLine) (hK : X.K = z.K := by first | assumption | rfl) : OpB X z (compareOp .In) (dIn false) := by
  intro pins s σ H S M ρ x y u w d1 d2 Q0 I sim b1 b2 r1 r2 q
  unfold dIn at q
  split at q
  · rename_i ds
    obtain ⟨⟨p1, p2⟩, q⟩ := q
    unfold cmpOk at p1 p2
    rw [Bool.and_eq_true] at p1 p2
    have k1 : Dp X.K H x (toPy d1) := by rw [hK]; exact b1.dp sim.sub p1.1
    have k2 : Dp X.K H y (toPy (.lst ds)) := by rw [hK]; exact b2.dp sim.sub p2.1
    obtain ⟨as, q1⟩ := Dp.reads I _ _ _ k1 r1
    obtain ⟨bs, q2⟩ := Dp.reads I _ _ _ k2 r2
    rw [toPy] at q2 p2
    refine SeqAt.in_list_reads q2 q1 (SeqAt.canLay_of_shaped p2.2) (SeqAt.canLay_of_shaped p1.2) (room_in_shaped p1.2 hu) ⟨.bl _, H, I, rfl, ?_⟩
    have e := toPyA_any (p := fun zz => PyData.eqv zz (toPy d1)) ds
    rw [e]
    exact poE_va sim (.bl _) q
  · rename_i ds
    obtain ⟨⟨p1, p2⟩, q⟩ := q
    unfold cmpOk at p1 p2
    rw [Bool.and_eq_true] at p1 p2
    have k1 : Dp X.K H x (toPy d1) := by rw [hK]; exact b1.dp sim.sub p1.1
    have k2 : Dp X.K H y (toPy (.tup ds)) := by rw [hK]; exact b2.dp sim.sub p2.1
    obtain ⟨as, q1⟩ := Dp.reads I _ _ _ k1 r1
    obtain ⟨bs, q2⟩ := Dp.reads I _ _ _ k2 r2
    rw [toPy] at q2 p2
    refine SeqAt.in_tuple_reads q2 q1 (SeqAt.canLay_of_shaped p2.2) (SeqAt.canLay_of_shaped p1.2) (room_in_shaped p1.2 hu) ⟨.bl _, H, I, rfl, ?_⟩
    have e := toPyA_any (p := fun zz => PyData.eqv zz (toPy d1)) ds
    rw [e]
    exact poE_va sim (.bl _) q
  · exact q.elim
theorem ob_notIn (hu : X.A.units + 65 < cLine) (hK : X.K = z.K := by first | assumption | rfl) : OpB X z (compareOp .NotIn) (dIn true) := by
  intro pins s σ H S M ρ x y u w d1 d2 Q0 I sim b1 b2 r1 r2 q
  unfold dIn at q
  split at q
  · rename_i ds
    obtain ⟨⟨p1, p2⟩, q⟩ := q
    unfold cmpOk at p1 p2
    rw [Bool.and_eq_true] at p1 p2
    have k1 : Dp X.K H x (toPy d1) := by rw [hK]; exact b1.dp sim.sub p1.1
    have k2 : Dp X.K H y (toPy (.lst ds)) := by rw [hK]; exact b2.dp sim.sub p2.1
    obtain ⟨as, q1⟩ := Dp.reads I _ _ _ k1 r1
    obtain ⟨bs, q2⟩ := Dp.reads I _ _ _ k2 r2
    rw [toPy] at q2 p2
    refine SeqAt.notIn_list_reads q2 q1 (SeqAt.canLay_of_shaped p2.2) (SeqAt.canLay_of_shaped p1.2) (room_in_shaped p1.2 hu) ⟨.bl _, H, I, rfl, ?_⟩
    have e := toPyA_any (p := fun zz => PyData.eqv zz (toPy d1)) ds
    rw [e]
    exact poE_va sim (.bl _) q
  · rename_i ds
    obtain ⟨⟨p1, p2⟩, q⟩ := q
    unfold cmpOk at p1 p2
    rw [Bool.and_eq_true] at p1 p2
    have k1 : Dp X.K H x (toPy d1) := by rw [hK]; exact b1.dp sim.sub p1.1
    have k2 : Dp X.K H y (toPy (.tup ds)) := by rw [hK]; exact b2.dp sim.sub p2.1
    obtain ⟨as, q1⟩ := Dp.reads I _ _ _ k1 r1
    obtain ⟨bs, q2⟩ := Dp.reads I _ _ _ k2 r2
    rw [toPy] at q2 p2
    refine SeqAt.notIn_tuple_reads q2 q1 (SeqAt.canLay_of_shaped p2.2) (SeqAt.canLay_of_shaped p1.2) (room_in_shaped p1.2 hu) ⟨.bl _, H, I, rfl, ?_⟩
    have e := toPyA_any (p := fun zz => PyData.eqv zz (toPy d1)) ds
    rw [e]
    exact poE_va sim (.bl _) q
  · exact q.elim
end
end PL
namespace PL
open PySem PySem.Spec PyProof.Rows L2

/-! ### items, slices -/
def dIx : OD := fun a b Q => match a, b with
  | .lst ds, .int i => (match atI ds i with | some d => Q (.va d) | none => False)
  | .tup ds, .int i => (match atI ds i with | some d => Q (.va d) | none => False)
  | .str x, .int i => x.length ≤ 16777216 ∧ (match atI x.cps.toList i with | some c => Q (.va (.str ⟨#[c]⟩)) | none => False)
  | _, _ => False
section
variable {X : Cx} {z : Z} {S : Hp} {M : Mu} {H : Hp} {a b e : Expr} {pos : Pos} {qa qb : QB}
theorem atI_rp {K : Fg} {xs : List V} {ds : List D} {i : Int} {d : D} (r : RpA K S xs ds) (h : atI ds i = some d) : ∃ v, atI xs i = some v ∧ Rp K S v d := by
  unfold atI at h ⊢
  rw [r.length]
  cases e : ixN ds.length i with
  | none => rw [e] at h; cases h
  | some j =>
    rw [e] at h
    exact r.get (show ds[j]? = some d from h)
theorem qe_ix (ha : PE X a (liB z qa)) (hb : PE X b (liB z qb)) (hs : PlainIx b := by exact fun _ _ => rfl) (hK : X.K = z.K := by first | assumption | rfl) : PE X (.Subscript a b pos) (liE z (eBin dIx qa qb)) := by
  refine ⟨fun pins s σ H Q I h => ?_⟩
  refine Subscript_ (binT ha hb I (bin_lift h) fun v u s2 x y H2 I2 rx ry ⟨S, M, ρ, d1, d2, Q0, sim, b1, b2, o, post⟩ => ?_)
  refine thn (ix_seq a b pins s2 σ H2 x y v u (PoE z S M σ H2 fun r ρ' M' => ρ' = ρ ∧ M' = M ∧ Q0 r) I2 rx ry ?_ (hs _ _)) fun w s3 ⟨y, H3, I3, r3, p3⟩ => ⟨y, H3, I3, r3, post _ _ p3⟩
  unfold dIx at o
  split at o
  · split at o
    · rename_i e
      obtain ⟨p, xs, e1, h1, k1⟩ := b1.lst sim.sub
      obtain ⟨v, e2, rv⟩ := atI_rp k1 e
      exact .inl ⟨p, xs, _, v, e1, b2.int, .of h1, e2, poE_va sim rv o⟩
    · exact o.elim
  · split at o
    · rename_i e
      obtain ⟨p, xs, e1, h1, k1⟩ := b1.tup
      obtain ⟨v, e2, rv⟩ := atI_rp k1 e
      exact .inr (.inl ⟨p, xs, _, v, e1, b2.int, by rw [hK]; exact same_seqT sim.sub h1, e2, poE_va sim rv o⟩)
    · exact o.elim
  · obtain ⟨hl, o⟩ := o
    split at o
    · rename_i e
      exact .inr (.inr ⟨_, _, _, b1.str, b2.int, line_eq hl, e, poE_va sim (.str _) o⟩)
    · exact o.elim
  · exact o.elim

abbrev QO := Ev → Mu → (Option Int → Ev → Mu → Prop) → Prop
def oNone : QO := fun ρ M Q => Q none ρ M
def oSome (q : QB) : QO := fun ρ M Q => q ρ M fun d ρ' M' => match d with | .int i => Q (some i) ρ' M' | _ => False
def liO (z : Z) (q : QO) : TO := fun σ H Q => ∃ S M ρ Q0, Sim z S M ρ σ H ∧ q ρ M Q0 ∧ ∀ o H', (∃ ρ' M' S', Q0 o ρ' M' ∧ Step S M H S' M' H' ∧ Sim z S' M' ρ' σ H') → Q o H'
theorem po_w {X : Cx} {e : Option Expr} {t t' : TO} (h : PO X e t) (w : ∀ σ H Q, t' σ H Q → t σ H Q) : PO X e t' := ⟨fun pins s σ H Q I hq => h.run pins s σ H Q I (w σ H Q hq)⟩
theorem qo_none : PO X none (liO z oNone) := po_w po_none fun σ H Q ⟨S, M, ρ, Q0, sim, h, post⟩ => post none H ⟨ρ, M, S, h, .refl, sim⟩
theorem qo_some (h : PE X e (liB z qa)) : PO X (some e) (liO z (oSome qa)) := po_w (po_some h) fun σ H Q ⟨S, M, ρ, Q0, sim, h, post⟩ =>
  ⟨S, M, ρ, _, sim, h, fun v H' ⟨d, ρ', M', S', q, st, sim', rb⟩ => by
    dsimp only at q
    split at q
    · exact ⟨_, rb.int, post _ H' ⟨ρ', M', S', q, st, sim'⟩⟩
    · exact q.elim⟩
/-- the items of xs[lo:hi] -/
def cutL {α : Type} (xs : List α) (lo hi : Option Int) : List α := (xs.drop (HT.sIx xs.length 0 lo)).take (HT.sIx xs.length xs.length hi - HT.sIx xs.length 0 lo)
theorem cutL_rp {K : Fg} {xs : List V} {ds : List D} {lo hi : Option Int} (r : RpA K S xs ds) : RpA K S (cutV xs lo hi) (cutL ds lo hi) := by
  unfold cutV cutL
  rw [r.length]
  exact (r.drop _).take _
def eSl (qa : QB) (ql qh : QO) : QE := fun ρ M Q => qa ρ M fun d ρ1 M1 => ql ρ1 M1 fun lo ρ2 M2 => qh ρ2 M2 fun hi ρ3 M3 => match d with
  | .lst ds => Q (.ow (.lst (cutL ds lo hi))) ρ3 M3
  | .tup ds => Q (.va (.tup (cutL ds lo hi))) ρ3 M3
  | .str x => x.length ≤ 16777216 ∧ Q (.va (.str (cutS x lo hi))) ρ3 M3
  | _ => False
theorem cutL_whole {α : Type} {xs : List α} {lo hi : Option Int} (h : HT.sIx xs.length 0 lo = 0 ∧ HT.sIx xs.length xs.length hi = xs.length) : cutL xs lo hi = xs := by
  unfold cutL
  rw [h.1, h.2]
  simp
theorem qe_slice {lo hi : Option Expr} {ql qh : QO} {p2 : Pos} (ha : PE X a (liB z qa)) (hl : PO X lo (liO z ql)) (hu : PO X hi (liO z qh)) (hK : X.K = z.K := by first | assumption | rfl) : PE X (.Subscript a (.Slice lo hi none p2) pos) (liE z (eSl qa ql qh)) := by
  have hr : SlR X (fun x l h H Q => rSlL X.K x l h H Q ∨ rSlA X.K x l h H Q ∨ rSlS x l h H Q) := sl_list.or (sl_tupA.or sl_str)
  refine pe_w (pe_slice hr ha hl hu) fun σ H Q ⟨S, M, ρ, Q0, sim, h, post⟩ => ⟨S, M, ρ, _, sim, h, fun v H1 ⟨d, ρ1, M1, S1, q1, st1, sim1, rb⟩ => ⟨S1, M1, ρ1, _, sim1, q1, fun l H2 ⟨ρ2, M2, S2, q2, st2, sim2⟩ => ⟨S2, M2, ρ2, _, sim2, q2, fun u H3 ⟨ρ3, M3, S3, q3, st3, sim3⟩ => ?_⟩⟩⟩
  have rb3 := (rb.step st2).step st3
  have st := (st1.trans st2).trans st3
  have fin : ∀ {v : V} {H' : Hp} {r0 : Sl}, Q0 r0 ρ3 M3 → PoE z S3 M3 σ H3 (fun r ρ' M' => ρ' = ρ3 ∧ M' = M3 ∧ r = r0) v H' → Q v H' := fun {v H' r0} q ⟨r, ρ4, M4, S4, ⟨e1, e2, e3⟩, st4, sim4, res4⟩ => by
    subst e1 e2 e3
    exact post v H' ⟨_, _, _, S4, q, st.trans st4, sim4, res4⟩
  split at q3
  · obtain ⟨p, xs, e1, h1, k1⟩ := rb3.lst sim3.sub
    exact .inl ⟨p, xs, e1, .of h1, fun p' hp => fin q3 (poE_ow sim3 hp (cutL_rp k1) rfl)⟩
  · obtain ⟨p, xs, e1, h1, k1⟩ := rb3.tup
    refine .inr (.inl ⟨p, xs, e1, by rw [hK]; exact same_seqT sim3.sub h1, fun w => ?_, fun w p' hp => fin q3 (poE_tup sim3 hp (cutL_rp k1) rfl)⟩)
    rw [k1.length] at w
    rw [cutL_whole w] at q3
    exact fin q3 (poE_va sim3 (.tup h1 k1) rfl)
  · exact .inr (.inr ⟨_, rb3.str, line_eq q3.1, fin q3.2 (poE_va sim3 (.str _) rfl)⟩)
  · exact q3.elim
theorem cutL_from {α : Type} (xs : List α) (k : Nat) : cutL xs (some (k : Int)) none = xs.drop k := by
  unfold cutL
  rw [HT.sIx_nat, HT.sIx_none]
  by_cases h : k ≤ xs.length
  · rw [Nat.min_eq_left h, ← List.length_drop, List.take_length]
  · rw [Nat.min_eq_right (by omega)]
    rw [List.drop_of_length_le (by omega : xs.length ≤ xs.length), List.drop_of_length_le (by omega : xs.length ≤ k)]
    simp
theorem cutL_upto {α : Type} (xs : List α) (k : Nat) : cutL xs none (some (k : Int)) = xs.take k := by
  unfold cutL
  rw [HT.sIx_nat, HT.sIx_none]
  simp only [List.drop_zero, Nat.sub_zero]
  by_cases h : k ≤ xs.length
  · rw [Nat.min_eq_left h]
  · rw [Nat.min_eq_right (by omega), List.take_of_length_le (Nat.le_refl _), List.take_of_length_le (by omega)]

/-! ### built-in functions -/
abbrev CD := List D → (Sl → Prop) → Prop
def CallB (X : Cx) (z : Z) (f : Value) (cd : CD) : Prop :=
  ∀ (pins : List (Addr × Obj)) (s : Shared) (σ : St) (H S : Hp) (M : Mu) (ρ : Ev) (xs : List V) (us : List Value) (ds : List D) (Q0 : Sl → Prop), Inv X pins σ H s → Sim z S M ρ σ H → RbA z.K S M H xs ds → Vals xs us → cd ds Q0 →
    wpAny (model X.prog X.w) X.A (call f us) (EP X pins σ (PoE z S M σ H fun r ρ' M' => ρ' = ρ ∧ M' = M ∧ Q0 r)) X.xe s
def eB (cd : CD) (qr : QA) : QE := fun ρ M Q => qr ρ M fun ds ρ1 M1 => cd ds fun r => Q r ρ1 M1
variable {x : Str} {p : Pos} {es : List Expr} {qr : QA} {cd : CD} {bid T : String}
theorem callB_lift {σ : St} {Q : VK} (h : liE z (eB cd qr) σ H Q) : liAB z qr σ H fun vs H1 => ∃ S M ρ ds Q0, Sim z S M ρ σ H1 ∧ RbA z.K S M H1 vs ds ∧ cd ds Q0 ∧ ∀ v H', PoE z S M σ H1 (fun r ρ' M' => ρ' = ρ ∧ M' = M ∧ Q0 r) v H' → Q v H' := by
  obtain ⟨S, M, ρ, Q0, sim, h, post⟩ := h
  refine ⟨S, M, ρ, _, sim, h, fun vs H1 ⟨ds, ρ1, M1, S1, q1, st1, sim1, rb⟩ => ⟨S1, M1, ρ1, ds, _, sim1, rb, q1, fun v H' ⟨r, ρ', M', S', ⟨e1, e2, q⟩, st, sim', res⟩ => post v H' ⟨r, ρ', M', S', ?_, st1.trans st, sim', res⟩⟩⟩
  subst e1 e2
  exact q
theorem qe_callB (hc : CallB X z (.builtin bid) cd) (hg : Gl X x) (hm : X.mg x = none) (hv : bootBuiltins x = some (.builtin bid)) (ha : PA X (e :: es) (liAB z qr)) (hn : x ≠ "__name__" := by decide) (hdb : (x == ("__debug__" : Str)) = false := by decide)
    (he : starEach (e :: es) X.env = (false, eval e X.env) :: starEach es X.env := by rfl) (hpl : (backTo pos (starEach es X.env)).any (·.1) = false := by rfl) : PE X (.Call (.Name x p) (e :: es) [] pos) (liE z (eB cd qr)) := by
  refine ⟨fun pins s σ H Q I h => ?_⟩
  refine wpAny_Call_Name_kw (ld_blt I hg hm hv ?_ hn hdb)
  refine PyProof.Rows.callWith_builtin1 (thn (ha.run pos pins s σ H _ I (callB_lift h)) fun us s1 ⟨vs, H1, I1, r1, ⟨S, M, ρ, ds, Q0, sim, rb, c, post⟩⟩ => ?_) he hpl
  exact thn (hc pins s1 σ H1 S M ρ vs us ds Q0 I1 sim rb r1 c) fun w s3 ⟨y, H3, I3, r3, p3⟩ => ⟨y, H3, I3, r3, post _ _ p3⟩
theorem qe_callTy (hc : CallB X z (.type T) cd) (hg : Gl X x) (hm : X.mg x = none) (hv : bootBuiltins x = some (.type T)) (ha : PA X (e :: es) (liAB z qr)) (hn : x ≠ "__name__" := by decide) (hdb : (x == ("__debug__" : Str)) = false := by decide)
    (he : starEach (e :: es) X.env = (false, eval e X.env) :: starEach es X.env := by rfl) (hpl : (backTo pos (starEach es X.env)).any (·.1) = false := by rfl) : PE X (.Call (.Name x p) (e :: es) [] pos) (liE z (eB cd qr)) := by
  refine ⟨fun pins s σ H Q I h => ?_⟩
  refine wpAny_Call_Name_kw (ld_blt I hg hm hv ?_ hn hdb)
  refine PyProof.Rows.callWith_type1 (thn (ha.run pos pins s σ H _ I (callB_lift h)) fun us s1 ⟨vs, H1, I1, r1, ⟨S, M, ρ, ds, Q0, sim, rb, c, post⟩⟩ => ?_) he hpl
  exact thn (hc pins s1 σ H1 S M ρ vs us ds Q0 I1 sim rb r1 c) fun w s3 ⟨y, H3, I3, r3, p3⟩ => ⟨y, H3, I3, r3, post _ _ p3⟩
/-- a name that the module has imported: gcd, lcm -/
theorem qe_callF (hc : CallB X z (.builtin bid) cd) (hg : Gl X x) (hm : X.mg x = some (.builtin bid)) (ha : PA X (e :: es) (liAB z qr)) (hdb : (x == ("__debug__" : Str)) = false := by decide)
    (he : starEach (e :: es) X.env = (false, eval e X.env) :: starEach es X.env := by rfl) (hpl : (backTo pos (starEach es X.env)).any (·.1) = false := by rfl) : PE X (.Call (.Name x p) (e :: es) [] pos) (liE z (eB cd qr)) := by
  refine ⟨fun pins s σ H Q I h => ?_⟩
  refine wpAny_Call_Name_kw (ld_glob I hg hm ?_ hdb)
  refine PyProof.Rows.callWith_builtin1 (thn (ha.run pos pins s σ H _ I (callB_lift h)) fun us s1 ⟨vs, H1, I1, r1, ⟨S, M, ρ, ds, Q0, sim, rb, c, post⟩⟩ => ?_) he hpl
  exact thn (hc pins s1 σ H1 S M ρ vs us ds Q0 I1 sim rb r1 c) fun w s3 ⟨y, H3, I3, r3, p3⟩ => ⟨y, H3, I3, r3, post _ _ p3⟩
theorem callB_of {f : Value} {r : List V → Hp → VK → Prop} (h : CallR X f r)
    (k : ∀ (σ : St) (H S : Hp) (M : Mu) (ρ : Ev) (xs : List V) (ds : List D) (Q0 : Sl → Prop), Sim z S M ρ σ H → RbA z.K S M H xs ds → cd ds Q0 → r xs H (PoE z S M σ H fun r ρ' M' => ρ' = ρ ∧ M' = M ∧ Q0 r)) : CallB X z f cd :=
  fun pins s σ H S M ρ xs us ds Q0 I sim rb rv q => h pins s σ H xs us _ I rv (k σ H S M ρ xs ds Q0 sim rb q)
/-- len -/
def cLen : CD := fun ds Q => match ds with
  | [.lst xs] => Q (.va (.int xs.length))
  | [.tup xs] => Q (.va (.int xs.length))
  | [.str x] => x.length ≤ 16777216 ∧ Q (.va (.int x.length))
  | _ => False
theorem cb_len (hK : X.K = z.K := by first | assumption | rfl) : CallB X z (.builtin "len") cLen := callB_of call_len fun σ H S M ρ xs ds Q0 sim rb q => by
  unfold cLen at q
  split at q
  · cases rb with
    | cons r1 rr =>
      cases rr
      obtain ⟨a, xs, rfl, h1, k1⟩ := r1.lst sim.sub
      exact ⟨_, xs.length, rfl, .inl ⟨xs, .of h1, rfl⟩, by rw [k1.length]; exact poE_va sim (.int _) q⟩
  · cases rb with
    | cons r1 rr =>
      cases rr
      obtain ⟨a, xs, rfl, h1, k1⟩ := r1.tup
      exact ⟨_, xs.length, rfl, .inr ⟨xs, by rw [hK]; exact same_seqT sim.sub h1, rfl⟩, by rw [k1.length]; exact poE_va sim (.int _) q⟩
  · cases rb with
    | cons r1 rr =>
      cases rr
      obtain rfl := r1.str
      exact ⟨_, _, rfl, ⟨line_eq q.1, rfl⟩, poE_va sim (.int _) q.2⟩
  · exact q.elim
/-- int -/
def cInt : CD := fun ds Q => match ds with
  | [.int i] => Q (.va (.int i))
  | [.bl b] => Q (.va (.int (if b then 1 else 0)))
  | _ => False
theorem cb_int : CallB X z (.type "int") cInt := callB_of call_int1 fun σ H S M ρ xs ds Q0 sim rb q => by
  unfold cInt at q
  split at q
  · cases rb with | cons r1 rr => cases rr; exact .inl ⟨_, by rw [r1.int], poE_va sim (.int _) q⟩
  · cases rb with | cons r1 rr => cases rr; exact .inr ⟨_, by rw [r1.bl], poE_va sim (.int _) q⟩
  · exact q.elim
def cAbs : CD := fun ds Q => match ds with
  | [.int i] => Q (.va (.int (if i < 0 then -i else i)))
  | _ => False
theorem cb_abs : CallB X z (.builtin "abs") cAbs := callB_of call_abs fun σ H S M ρ xs ds Q0 sim rb q => by
  unfold cAbs at q
  split at q
  · cases rb with | cons r1 rr => cases rr; exact ⟨_, by rw [r1.int], poE_va sim (.int _) q⟩
  · exact q.elim
def cMax2 : CD := fun ds Q => match ds with
  | [.int i, .int j] => Q (.va (.int (if j > i then j else i)))
  | _ => False
theorem cb_max2 (hc : X.calm = true) : CallB X z (.builtin "max") cMax2 := callB_of (call_max2 hc) fun σ H S M ρ xs ds Q0 sim rb q => by
  unfold cMax2 at q
  split at q
  · cases rb with | cons r1 rr => cases rr with | cons r2 rr => cases rr; exact ⟨_, _, by rw [r1.int, r2.int], poE_va sim (.int _) q⟩
  · exact q.elim
def cMin2 : CD := fun ds Q => match ds with
  | [.int i, .int j] => Q (.va (.int (if j < i then j else i)))
  | _ => False
theorem cb_min2 (hc : X.calm = true) : CallB X z (.builtin "min") cMin2 := callB_of (call_min2 hc) fun σ H S M ρ xs ds Q0 sim rb q => by
  unfold cMin2 at q
  split at q
  · cases rb with | cons r1 rr => cases rr with | cons r2 rr => cases rr; exact ⟨_, _, by rw [r1.int, r2.int], poE_va sim (.int _) q⟩
  · exact q.elim
/-- divmod -/
def cDivmod : CD := fun ds Q => match ds with
  | [.int i, .int j] => CDivS i j ∧ Q (.va (.tup [.int (i / j), .int (i % j)]))
  | _ => False
theorem cb_divmod : CallB X z (.builtin "divmod") cDivmod := callB_of call_divmod fun σ H S M ρ xs ds Q0 sim rb q => by
  unfold cDivmod at q
  split at q
  · cases rb with
    | cons r1 rr =>
      cases rr with
      | cons r2 rr =>
        cases rr
        exact ⟨_, _, by rw [r1.int, r2.int], q.1, fun p hp => poE_tup sim hp (.cons (.int _) (.cons (.int _) .nil)) q.2⟩
  · exact q.elim
/-- list, tuple of a list or a tuple -/
def cList : CD := fun ds Q => match ds with
  | [.lst xs] => Q (.ow (.lst xs))
  | [.tup xs] => Q (.ow (.lst xs))
  | _ => False
theorem cb_list (hK : X.K = z.K := by first | assumption | rfl) : CallB X z (.type "list") cList := callB_of call_list_of fun σ H S M ρ xs ds Q0 sim rb q => by
  unfold cList at q
  split at q
  · cases rb with
    | cons r1 rr =>
      cases rr
      obtain ⟨a, xs, rfl, h1, k1⟩ := r1.lst sim.sub
      exact ⟨a, xs, rfl, .inl (.of h1), fun p hp => poE_ow sim hp k1 q⟩
  · cases rb with
    | cons r1 rr =>
      cases rr
      obtain ⟨a, xs, rfl, h1, k1⟩ := r1.tup
      exact ⟨a, xs, rfl, .inr (by rw [hK]; exact same_seqT sim.sub h1), fun p hp => poE_ow sim hp k1 q⟩
  · exact q.elim
def cTuple : CD := fun ds Q => match ds with
  | [.lst xs] => Q (.va (.tup xs))
  | [.tup xs] => Q (.va (.tup xs))
  | _ => False
theorem cb_tuple (hK : X.K = z.K := by first | assumption | rfl) : CallB X z (.type "tuple") cTuple := callB_of call_tuple_of fun σ H S M ρ xs ds Q0 sim rb q => by
  unfold cTuple at q
  split at q
  · cases rb with
    | cons r1 rr =>
      cases rr
      obtain ⟨a, xs, rfl, h1, k1⟩ := r1.lst sim.sub
      exact ⟨a, xs, rfl, .inl ⟨.of h1, fun p hp => poE_tup sim hp k1 q⟩⟩
  · cases rb with
    | cons r1 rr =>
      cases rr
      obtain ⟨a, xs, rfl, h1, k1⟩ := r1.tup
      exact ⟨a, xs, rfl, .inr ⟨by rw [hK]; exact same_seqT sim.sub h1, poE_va sim (.tup h1 k1) q⟩⟩
  · exact q.elim
/-- lists of intsOf, of boolsOf -/
def intsOf : List D → Option (List Int)
  | [] => some []
  | .int i :: r => (intsOf r).map (i :: ·)
  | _ => none
theorem intsOf_map : ∀ ns : List Int, intsOf (ns.map D.int) = some ns
  | [] => rfl
  | n :: ns => by rw [List.map_cons, intsOf, intsOf_map ns]; rfl
theorem intsOf_eq : ∀ {ds : List D} {ns : List Int}, intsOf ds = some ns → ds = ns.map D.int
  | [], ns, h => by rw [intsOf] at h; cases h; rfl
  | .int i :: r, ns, h => by
    rw [intsOf] at h
    cases e : intsOf r with
    | none => rw [e] at h; cases h
    | some ms => rw [e] at h; cases h; rw [intsOf_eq e]; rfl
  | .non :: _, _, h => by cases h
  | .bl _ :: _, _, h => by cases h
  | .str _ :: _, _, h => by cases h
  | .tup _ :: _, _, h => by cases h
  | .lst _ :: _, _, h => by cases h
  | .ref _ :: _, _, h => by cases h
  | .ty _ :: _, _, h => by cases h
  | .set _ _ :: _, _, h => by cases h
  | .dic _ _ :: _, _, h => by cases h
def boolsOf : List D → Option (List Bool)
  | [] => some []
  | .bl i :: r => (boolsOf r).map (i :: ·)
  | _ => none
theorem boolsOf_map : ∀ ns : List Bool, boolsOf (ns.map D.bl) = some ns
  | [] => rfl
  | n :: ns => by rw [List.map_cons, boolsOf, boolsOf_map ns]; rfl
theorem boolsOf_eq : ∀ {ds : List D} {ns : List Bool}, boolsOf ds = some ns → ds = ns.map D.bl
  | [], ns, h => by rw [boolsOf] at h; cases h; rfl
  | .bl i :: r, ns, h => by
    rw [boolsOf] at h
    cases e : boolsOf r with
    | none => rw [e] at h; cases h
    | some ms => rw [e] at h; cases h; rw [boolsOf_eq e]; rfl
  | .non :: _, _, h => by cases h
  | .int _ :: _, _, h => by cases h
  | .str _ :: _, _, h => by cases h
  | .tup _ :: _, _, h => by cases h
  | .lst _ :: _, _, h => by cases h
  | .ref _ :: _, _, h => by cases h
  | .ty _ :: _, _, h => by cases h
  | .set _ _ :: _, _, h => by cases h
  | .dic _ _ :: _, _, h => by cases h
def cSum : CD := fun ds Q => match ds with
  | [.lst xs] => (match intsOf xs with | some ns => Q (.va (.int ns.sum)) | none => False)
  | _ => False
theorem cb_sum (hc : X.calm = true) : CallB X z (.builtin "sum") cSum := callB_of (cr_sum hc) fun σ H S M ρ xs ds Q0 sim rb q => by
  unfold cSum at q
  split at q
  · split at q
    · rename_i e
      cases rb with
      | cons r1 rr =>
        cases rr
        obtain ⟨a, xs, rfl, h1, k1⟩ := r1.lst sim.sub
        rw [intsOf_eq e] at k1
        rw [k1.intsV] at h1
        exact ⟨a, _, rfl, .of h1, poE_va sim (.int _) q⟩
    · exact q.elim
  · exact q.elim
def cMax : CD := fun ds Q => match ds with
  | [.lst xs] => (match intsOf xs with | some ns => 0 < ns.length ∧ ∀ m, m ∈ ns → (∀ y, y ∈ ns → y ≤ m) → Q (.va (.int m)) | none => False)
  | _ => False
theorem cb_max (hc : X.calm = true) : CallB X z (.builtin "max") cMax := callB_of (cr_max hc) fun σ H S M ρ xs ds Q0 sim rb q => by
  unfold cMax at q
  split at q
  · split at q
    · rename_i e
      cases rb with
      | cons r1 rr =>
        cases rr
        obtain ⟨a, xs, rfl, h1, k1⟩ := r1.lst sim.sub
        rw [intsOf_eq e] at k1
        rw [k1.intsV] at h1
        exact ⟨a, _, rfl, .of h1, q.1, fun m hm hl => poE_va sim (.int _) (q.2 m hm hl)⟩
    · exact q.elim
  · exact q.elim
def cMin : CD := fun ds Q => match ds with
  | [.lst xs] => (match intsOf xs with | some ns => 0 < ns.length ∧ ∀ m, m ∈ ns → (∀ y, y ∈ ns → m ≤ y) → Q (.va (.int m)) | none => False)
  | _ => False
theorem cb_min (hc : X.calm = true) : CallB X z (.builtin "min") cMin := callB_of (cr_min hc) fun σ H S M ρ xs ds Q0 sim rb q => by
  unfold cMin at q
  split at q
  · split at q
    · rename_i e
      cases rb with
      | cons r1 rr =>
        cases rr
        obtain ⟨a, xs, rfl, h1, k1⟩ := r1.lst sim.sub
        rw [intsOf_eq e] at k1
        rw [k1.intsV] at h1
        exact ⟨a, _, rfl, .of h1, q.1, fun m hm hl => poE_va sim (.int _) (q.2 m hm hl)⟩
    · exact q.elim
  · exact q.elim
def cAll : CD := fun ds Q => match ds with
  | [.lst xs] => (match boolsOf xs with | some bs => Q (.va (.bl (bs.all id))) | none => False)
  | _ => False
theorem cb_all (hc : X.calm = true) : CallB X z (.builtin "all") cAll := callB_of (cr_all hc) fun σ H S M ρ xs ds Q0 sim rb q => by
  unfold cAll at q
  split at q
  · split at q
    · rename_i e
      cases rb with
      | cons r1 rr =>
        cases rr
        obtain ⟨a, xs, rfl, h1, k1⟩ := r1.lst sim.sub
        rw [boolsOf_eq e] at k1
        rw [k1.blsV] at h1
        exact ⟨a, _, rfl, .of h1, poE_va sim (.bl _) q⟩
    · exact q.elim
  · exact q.elim
def cAny : CD := fun ds Q => match ds with
  | [.lst xs] => (match boolsOf xs with | some bs => Q (.va (.bl (bs.any id))) | none => False)
  | _ => False
theorem cb_any (hc : X.calm = true) : CallB X z (.builtin "any") cAny := callB_of (cr_any hc) fun σ H S M ρ xs ds Q0 sim rb q => by
  unfold cAny at q
  split at q
  · split at q
    · rename_i e
      cases rb with
      | cons r1 rr =>
        cases rr
        obtain ⟨a, xs, rfl, h1, k1⟩ := r1.lst sim.sub
        rw [boolsOf_eq e] at k1
        rw [k1.blsV] at h1
        exact ⟨a, _, rfl, .of h1, poE_va sim (.bl _) q⟩
    · exact q.elim
  · exact q.elim
/-- sorted of intsOf -/
def cSorted : CD := fun ds Q => match ds with
  | [.lst xs] => (match intsOf xs with | some ns => ∀ ms : List Int, ms.Perm ns → ms.Pairwise (· ≤ ·) → Q (.ow (.lst (ms.map D.int))) | none => False)
  | _ => False
theorem cb_sorted : CallB X z (.builtin "sorted") cSorted := callB_of cr_sortedI fun σ H S M ρ xs ds Q0 sim rb q => by
  unfold cSorted at q
  split at q
  · split at q
    · rename_i e
      cases rb with
      | cons r1 rr =>
        cases rr
        obtain ⟨a, xs, rfl, h1, k1⟩ := r1.lst sim.sub
        rw [intsOf_eq e] at k1
        rw [k1.intsV] at h1
        exact ⟨a, _, rfl, .of h1, fun ms p hp hs hn => poE_ow sim hn .ints (q ms hp hs)⟩
    · exact q.elim
  · exact q.elim
/-- gcd, lcm -/
def cGcd : CD := fun ds Q => match ds with
  | [.int i, .int j] => Q (.va (.int ((Nat.gcd i.natAbs j.natAbs : Nat) : Int)))
  | _ => False
theorem cb_gcd : CallB X z (.builtin "math.gcd") cGcd := callB_of cr_gcd fun σ H S M ρ xs ds Q0 sim rb q => by
  unfold cGcd at q
  split at q
  · cases rb with | cons r1 rr => cases rr with | cons r2 rr => cases rr; exact ⟨_, _, by rw [r1.int, r2.int], poE_va sim (.int _) q⟩
  · exact q.elim
theorem lcm_log {a b : Nat} (ha : a < 2 ^ 64) (hb : b < 2 ^ 64) : (Nat.lcm a b).log2 < bitsLine := by
  have h1 : Nat.lcm a b ≤ a * b := Nat.div_le_self _ _
  have h2 : a * b < 2 ^ 128 := by
    have : a * b ≤ (2 ^ 64 - 1) * (2 ^ 64 - 1) := Nat.mul_le_mul (by omega) (by omega)
    have e : (2 ^ 64 - 1) * (2 ^ 64 - 1) < (2 : Nat) ^ 128 := by decide
    omega
  have e : bitsLine = 134217728 := by decide
  by_cases h0 : Nat.lcm a b = 0
  · rw [h0, e, Nat.log2_zero]; decide
  · have h3 : (Nat.lcm a b).log2 < 128 := (Nat.log2_lt h0).mpr (by omega)
    rw [e]
    omega
def cLcm : CD := fun ds Q => match ds with
  | [.int i, .int j] => (-1000000000000000000 < i ∧ i < 1000000000000000000 ∧ -1000000000000000000 < j ∧ j < 1000000000000000000) ∧ Q (.va (.int ((Nat.lcm i.natAbs j.natAbs : Nat) : Int)))
  | _ => False
theorem cb_lcm : CallB X z (.builtin "math.lcm") cLcm := by
  intro pins s σ H S M ρ xs us ds Q0 I sim rb rv q
  unfold cLcm at q
  split at q
  · cases rb with
    | cons r1 rr =>
      cases rr with
      | cons r2 rr =>
        cases rr
        rw [r1.int, r2.int] at rv
        obtain ⟨t, u, rfl⟩ := Vals.int2 rv
        obtain ⟨⟨h1, h2, h3, h4⟩, q⟩ := q
        have e64 : (2 : Nat) ^ 64 = 18446744073709551616 := by decide
        refine PySem.W.mg_lcm (by rw [e64]; omega) (by rw [e64]; omega) ?_ ?_
        · rw [Nat.lcm_one_left]
          rw [Int.natAbs_natCast]
          exact lcm_log (by rw [e64]; omega) (by rw [e64]; omega)
        · rw [Nat.lcm_one_left]
          exact ⟨.int _, H, I.tok _, ⟨_, rfl⟩, poE_va sim (.int _) q⟩
  · exact q.elim
/-- list(range(a, b)) -/
def eRange (qa qb : QB) : QE := fun ρ M Q => qa ρ M fun d1 ρ1 M1 => qb ρ1 M1 fun d2 ρ2 M2 => match d1, d2 with
  | .int i, .int j => (-4611686018427387904 ≤ i ∧ i < 4611686018427387904 ∧ -4611686018427387904 ≤ j ∧ j < 4611686018427387904 ∧ j - i ≤ 16777216) ∧ Q (.ow (.lst (rangeL i j))) ρ2 M2
  | _, _ => False
theorem rgV_rp {K : Fg} {i j : Int} : RpA K S (rgV i j) (rangeL i j) := by
  have e1 : rgV i j = ((List.range (j - i).toNat).map fun (k : Nat) => i + (k : Int)).map V.int := by
    unfold rgV; rw [List.map_map]; rfl
  have e2 : rangeL i j = ((List.range (j - i).toNat).map fun (k : Nat) => i + (k : Int)).map D.int := by
    unfold rangeL; rw [List.map_map]; rfl
  rw [e1, e2]
  exact .ints
theorem qe_listRange2 {p1 p2 pos1 : Pos} (hc : X.calm = true) (hg : Gl X "list") (hm : X.mg "list" = none) (hg2 : Gl X "range") (hm2 : X.mg "range" = none) (ha : PE X a (liB z qa)) (hb : PE X b (liB z qb))
    (na : starEach [a, b] X.env = (false, eval a X.env) :: starEach [b] X.env := by rfl) (nb : starEach [b] X.env = (false, eval b X.env) :: starEach [] X.env := by rfl) (hp : (backTo pos1 (starEach [b] X.env)).any (·.1) = false := by rfl)
    (nc : starEach [.Call (.Name "range" p2) [a, b] [] pos1] X.env = (false, eval (.Call (.Name "range" p2) [a, b] [] pos1) X.env) :: starEach [] X.env := by rfl) :
    PE X (.Call (.Name "list" p1) [.Call (.Name "range" p2) [a, b] [] pos1] [] pos) (liE z (eRange qa qb)) :=
  pe_w (pe_listRg hc hg hm (prg_2 hg2 hm2 ha hb na nb hp) nc) fun σ H Q ⟨S, M, ρ, Q0, sim, h, post⟩ => ⟨S, M, ρ, _, sim, h, fun x H1 ⟨d1, ρ1, M1, S1, q1, st1, sim1, b1⟩ => ⟨S1, M1, ρ1, _, sim1, q1, fun y H2 ⟨d2, ρ2, M2, S2, q2, st2, sim2, b2⟩ => by
    dsimp only at q2
    split at q2
    · obtain ⟨⟨h1, h2, h3, h4, h5⟩, q⟩ := q2
      refine ⟨_, _, (b1.step st2).int, b2.int, ⟨by rw [p62]; exact h1, by rw [p62]; exact h2, by rw [p62]; exact h3, by rw [p62]; exact h4, by omega⟩, fun p hp => ?_⟩
      obtain ⟨a1, a2, a3⟩ := sim2.fresh hp rgV_rp
      exact post _ _ ⟨_, ρ2, M2, S2, q, (st1.trans st2).trans a2, a1, a3⟩
    · exact q2.elim⟩⟩

/-! ### isinstance -/
def tyOf : D → Option String
  | .non => some "NoneType"
  | .bl _ => some "bool"
  | .int _ => some "int"
  | .str _ => some "str"
  | .lst _ => some "list"
  | .tup _ => some "tuple"
  | _ => none
def isInst (d : D) (n : String) : Option Bool := (tyOf d).bind fun t => kitB t n
def eIsi (qa : QB) (n : String) : QE := fun ρ M Q => qa ρ M fun d ρ1 M1 => match isInst d n with
  | some b => Q (.va (.bl b)) ρ1 M1
  | none => False
theorem Rb.tyx {v : V} {d : D} {n : String} (sim : Same S H) (h : Rb z.K S M H v d) (e : tyOf d = some n) : TyX z.K H v (.type n) := by
  cases d with
  | non => rw [h.non]; cases e; exact .base .non
  | bl b => rw [h.bl]; cases e; exact .base (.bl b)
  | int i => rw [h.int]; cases e; exact .base (.int i)
  | str x => rw [h.str]; cases e; exact .base (.str x)
  | lst ds => obtain ⟨a, xs, rfl, h1, _⟩ := h.lst sim; cases e; exact .base (.lst h1)
  | tup ds =>
    obtain ⟨a, xs, rfl, h1, _⟩ := h.tup
    cases e
    rcases same_seqT sim h1 with (h | ⟨o, h⟩) | ⟨o, its, n, hk, hc, _⟩
    · exact .base (.tup h)
    · exact .fTuple h
    · exact .kTuple hk hc
  | ref a => cases e
  | ty n => cases e
  | set f n => cases e
  | dic ks ds => cases e
theorem qe_isi {n : Str} {N : String} {p3 : Pos} (hg : Gl X "isinstance") (hm : X.mg "isinstance" = none) (hg2 : Gl X n) (hm2 : X.mg n = none) (hv2 : bootBuiltins n = some (.type N)) (ha : PE X e (liB z qa)) (hK : X.K = z.K := by first | assumption | rfl) (hn : n ≠ "__name__" := by decide) (hd : (n == ("__debug__" : Str)) = false := by decide)
    (he : starEach [e, .Name n p3] X.env = (false, eval e X.env) :: starEach [.Name n p3] X.env := by rfl) (he2 : starEach [.Name n p3] X.env = (false, eval (.Name n p3) X.env) :: starEach [] X.env := by rfl) (hpl : (backTo pos (starEach [.Name n p3] X.env)).any (·.1) = false := by rfl) :
    PE X (.Call (.Name "isinstance" p) [e, .Name n p3] [] pos) (liE z (eIsi qa N)) := by
  have hn2 : PE X (.Name n p3) (tC (.ty N)) := pe_bltn hg2 hm2 hv2 rfl hn hd
  refine pe_w (pe_callB call_isi hg hm (by decide +kernel) (pa_cons ha (pa_cons hn2 pa_nil he2) he) (by decide) (by decide) he hpl) fun σ H Q ⟨S, M, ρ, Q0, sim, h, post⟩ => ⟨S, M, ρ, _, sim, h, fun v H1 ⟨d, ρ1, M1, S1, q1, st1, sim1, rb⟩ => ?_⟩
  replace q1 : (match isInst d N with | some b => Q0 (Sl.va (D.bl b)) ρ1 M1 | none => False) := q1
  split at q1
  · rename_i b eb
    unfold isInst at eb
    cases et : tyOf d with
    | none => rw [et] at eb; cases eb
    | some t =>
      rw [et] at eb
      exact ⟨v, .ty N, .type t, .type N, b, rfl, .ty N, by rw [hK]; exact rb.tyx sim1.sub et, kit_ty eb, post _ H1 ⟨_, ρ1, M1, S1, q1, st1, sim1, .bl b⟩⟩
  · exact q1.elim

/-! ### lists that are changed -/
def sApp (i : Nat) (q : QE) : QS := fun D ρ M => match ρ[i]? with
  | some (.ow (.lst _)) => q ρ M fun r ρ1 M1 => (match ρ1[i]? with
    | some (.ow (.lst ds)) => ds.length < 16777216 ∧ D.nx (ρ1.set i (.ow (.lst (ds ++ [r.val])))) M1
    | _ => False)
  | _ => False
variable {ea : QE}
theorem put_own {i : Nat} {ρ : Ev} {σ : St} {a : Addr} (ea : σ[i]? = some (some (.ref a))) : σ.set i (some (.ref a)) = σ := by
  obtain ⟨h1, h2⟩ := List.getElem?_eq_some_iff.mp ea
  rw [← h2, List.set_getElem_self]
theorem qs_append {i : Nat} {y : Str} {p1 apos cpos : Pos} (hN : X.N[i]? = some y) (hvis : Vis X.env.scope y) (he : PE X e (liE z ea)) (hd : (y == ("__debug__" : Str)) = false := by decide) (hcd : (y == ("__classdict__" : Str)) = false := by decide)
    (hbase : attributeBase (.Name y p1) "append" X.env (eval (.Name y p1) X.env) = eval (.Name y p1) X.env := by rfl)
    (hfew : ((backTo cpos (starEach [e] X.env)).all (fun x => !x.1) && (backToKw cpos (keywordEach [] X.env)).all (fun x => x.1.isSome) && decide ([e].length + ([] : List Keyword).length + (if ([] : List Keyword).isEmpty then 0 else 1) < 30)) = true := by rfl)
    (hline : (apos.endLine == cpos.line) = true := by rfl) (hst : starEach [e] X.env = (false, eval e X.env) :: starEach [] X.env := by rfl) (hplain : (backTo cpos (starEach [] X.env)).any (·.1) = false := by rfl)
    (hs : swapsWith (.Call (.Attribute (.Name y p1) "append" apos) [e] [] cpos) none pos.line X.env = pure false := by rfl) :
    PS X (.Expr (.Call (.Attribute (.Name y p1) "append" apos) [e] [] cpos) pos) (liS z (sApp i ea)) :=
  ps_w (ps_expr (pe_bm PySem.F.plainAttrs_list PySem.F.slot_list_append PySem.F.type_list_append mt_append (pe_var hN hvis hd hcd) (qa_cons he qa_nil hst) hbase hfew hline hst hplain) hs) fun D σ H ⟨S, M, ρ, D0, sim, h, nx, _⟩ => by
    unfold sApp at h
    split at h
    · rename_i ds0 e0
      obtain ⟨a, h1, _, _, ⟨xs0, h4, _⟩, _⟩ := sim.ow i _ e0
      have h' : aCons ea aNil ρ M (fun ds1 ρ1 M1 => match ds1 with
        | [d] => (match ρ1[i]? with | some (.ow (.lst ds)) => ds.length < 16777216 ∧ D0.nx (ρ1.set i (.ow (.lst (ds ++ [d])))) M1 | _ => False)
        | _ => False) := h
      refine ⟨_, h1, .inl ⟨rfl, xs0, .of h4⟩, S, M, ρ, _, sim, h', fun vs H1 ⟨ds1, ρ1, M1, S1, q1, st1, sim1, rp⟩ => ?_⟩
      dsimp only at q1
      split at q1
      · split at q1
        · rename_i ds e1
          obtain ⟨b, k1, _, _, ⟨xs, k4, k5⟩, _⟩ := sim1.ow i _ e1
          rw [h1] at k1
          cases k1
          cases rp with
          | cons r1 rr =>
            cases rr
            refine ⟨a, xs, _, rfl, rfl, k4, ?_, nx _ M1 S1 σ _ q1.2 st1.same (sim1.owSet e1 h1 (k5.append (.one r1)))⟩
            rw [k5.length, sizeLine_eq]
            exact q1.1
        · exact q1.elim
      · exact q1.elim
    · exact h.elim
def sExt (i : Nat) (q : QE) : QS := fun D ρ M => match ρ[i]? with
  | some (.ow (.lst _)) => q ρ M fun r ρ1 M1 => (match ρ1[i]?, r.val with
    | some (.ow (.lst ds)), .lst es => ds.length + es.length ≤ 16777216 ∧ D.nx (ρ1.set i (.ow (.lst (ds ++ es)))) M1
    | _, _ => False)
  | _ => False
theorem qs_extend {i : Nat} {y : Str} {p1 apos cpos : Pos} (hN : X.N[i]? = some y) (hvis : Vis X.env.scope y) (he : PE X e (liE z ea)) (hd : (y == ("__debug__" : Str)) = false := by decide) (hcd : (y == ("__classdict__" : Str)) = false := by decide)
    (hbase : attributeBase (.Name y p1) "extend" X.env (eval (.Name y p1) X.env) = eval (.Name y p1) X.env := by rfl)
    (hfew : ((backTo cpos (starEach [e] X.env)).all (fun x => !x.1) && (backToKw cpos (keywordEach [] X.env)).all (fun x => x.1.isSome) && decide ([e].length + ([] : List Keyword).length + (if ([] : List Keyword).isEmpty then 0 else 1) < 30)) = true := by rfl)
    (hline : (apos.endLine == cpos.line) = true := by rfl) (hst : starEach [e] X.env = (false, eval e X.env) :: starEach [] X.env := by rfl) (hplain : (backTo cpos (starEach [] X.env)).any (·.1) = false := by rfl)
    (hs : swapsWith (.Call (.Attribute (.Name y p1) "extend" apos) [e] [] cpos) none pos.line X.env = pure false := by rfl) :
    PS X (.Expr (.Call (.Attribute (.Name y p1) "extend" apos) [e] [] cpos) pos) (liS z (sExt i ea)) :=
  ps_w (ps_expr (pe_bm PySem.F.plainAttrs_list PySem.F.slot_list_extend PySem.F.type_list_extend mt_extend (pe_var hN hvis hd hcd) (qa_cons he qa_nil hst) hbase hfew hline hst hplain) hs) fun D σ H ⟨S, M, ρ, D0, sim, h, nx, _⟩ => by
    unfold sExt at h
    split at h
    · rename_i ds0 e0
      obtain ⟨a, h1, _, _, ⟨xs0, h4, _⟩, _⟩ := sim.ow i _ e0
      have h' : aCons ea aNil ρ M (fun ds1 ρ1 M1 => match ds1 with
        | [d] => (match ρ1[i]?, d with | some (.ow (.lst ds)), .lst es => ds.length + es.length ≤ 16777216 ∧ D0.nx (ρ1.set i (.ow (.lst (ds ++ es)))) M1 | _, _ => False)
        | _ => False) := h
      refine ⟨_, h1, .inl ⟨rfl, xs0, .of h4⟩, S, M, ρ, _, sim, h', fun vs H1 ⟨ds1, ρ1, M1, S1, q1, st1, sim1, rp⟩ => ?_⟩
      dsimp only at q1
      split at q1
      · split at q1
        · rename_i ds es e1
          obtain ⟨b, k1, _, _, ⟨xs, k4, k5⟩, _⟩ := sim1.ow i _ e1
          rw [h1] at k1
          cases k1
          cases rp with
          | cons r1 rr =>
            cases rr
            cases r1 with
            | lst w1 w2 =>
              refine ⟨a, _, xs, _, rfl, rfl, k4, sim1.sub _ _ w1, ?_, nx _ M1 S1 σ _ q1.2 st1.same (sim1.owSet e1 h1 (k5.append w2))⟩
              rw [k5.length, w2.length]
              exact line_eq q1.1
        · exact q1.elim
      · exact q1.elim
    · exact h.elim
def sPop (i : Nat) : QS := fun D ρ M => match ρ[i]? with
  | some (.ow (.lst ds)) => ds ≠ [] ∧ D.nx (ρ.set i (.ow (.lst ds.dropLast))) M
  | _ => False
theorem RpA.dropLast {K : Fg} {S : Hp} {vs : List V} {ds : List D} (h : RpA K S vs ds) : RpA K S vs.dropLast ds.dropLast := by
  rw [List.dropLast_eq_take, List.dropLast_eq_take, h.length]
  exact h.take _
theorem qs_pop {i : Nat} {y : Str} {p1 apos cpos : Pos} (hN : X.N[i]? = some y) (hvis : Vis X.env.scope y) (hd : (y == ("__debug__" : Str)) = false := by decide) (hcd : (y == ("__classdict__" : Str)) = false := by decide)
    (hbase : attributeBase (.Name y p1) "pop" X.env (eval (.Name y p1) X.env) = eval (.Name y p1) X.env := by rfl)
    (hline : (apos.endLine == cpos.line) = true := by rfl)
    (hs : swapsWith (.Call (.Attribute (.Name y p1) "pop" apos) [] [] cpos) none pos.line X.env = pure false := by rfl) :
    PS X (.Expr (.Call (.Attribute (.Name y p1) "pop" apos) [] [] cpos) pos) (liS z (sPop i)) :=
  ps_w (ps_expr (pe_bm0 PySem.F.plainAttrs_list PySem.F.slot_list_pop PySem.F.type_list_pop mt_pop (pe_var hN hvis hd hcd) hbase hline) hs) fun D σ H ⟨S, M, ρ, D0, sim, h, nx, _⟩ => by
    unfold sPop at h
    split at h
    · rename_i ds e0
      obtain ⟨a, h1, _, _, ⟨xs, h4, h5⟩, _⟩ := sim.ow i _ e0
      have hl := h5.length
      have hne : ds.length ≠ 0 := fun z => h.1 (List.length_eq_zero_iff.mp z)
      refine ⟨_, h1, .inl ⟨rfl, xs, .of h4⟩, a, xs, _, rfl, rfl, h4, List.getElem?_eq_getElem (by omega), nx _ M S σ _ h.2 (.refl _) (sim.owSet e0 h1 h5.dropLast)⟩
    · exact h.elim
/-- x[e] = e2 -/
def sSet (i : Nat) (q : QE) (qb : QB) : QS := fun D ρ M => q ρ M fun r ρ1 M1 => (match ρ1[i]? with
  | some (.ow (.lst _)) => qb ρ1 M1 fun d ρ2 M2 => (match ρ2[i]?, d with
    | some (.ow (.lst ds)), .int k => (match ixN ds.length k with | some j => D.nx (ρ2.set i (.ow (.lst (ds.set j r.val)))) M2 | none => False)
    | _, _ => False)
  | _ => False)
theorem qs_setItem {i : Nat} {y : Str} {b : Expr} {p1 p2 : Pos} (hN : X.N[i]? = some y) (hvis : Vis X.env.scope y) (he : PE X e (liE z ea)) (hb : PE X b (liB z qb)) (hd : (y == ("__debug__" : Str)) = false := by decide) (hcd : (y == ("__classdict__" : Str)) = false := by decide)
    (ha : ∀ v, assign (.Subscript (.Name y p1) b p2) X.env v = (do
      let ov ← holding [v] (eval (.Name y p1) X.env)
      let iv ← holding [v, ov] (eval b X.env)
      standAt p2
      holding [v, ov, iv] (setItem ov iv v)
      release [v, ov, iv] []) := by intro _; rfl)
    (hs : swapsWithSole [.Subscript (.Name y p1) b p2] e pos.line X.env = pure false := by rfl) (hw : swappedStores [.Subscript (.Name y p1) b p2] e X.env = pure none := by rfl)
    (h1 : (assignEach [.Subscript (.Name y p1) b p2] X.env).map (·.2) = [assign (.Subscript (.Name y p1) b p2) X.env] := by rfl) :
    PS X (.Assign [.Subscript (.Name y p1) b p2] e pos) (liS z (sSet i ea qb)) :=
  ps_w (ps_asg he (pg_sub (pe_var hN hvis hd hcd) hb set_list ha) hs hw h1) fun D σ H ⟨S, M, ρ, D0, sim, h, nx, _⟩ => ⟨S, M, ρ, _, sim, h, fun v H1 ⟨r, ρ1, M1, S1, q1, st1, sim1, res1⟩ => by
    obtain ⟨S1', sim1', st1', rp1⟩ := sim1.freeze res1
    dsimp only at q1
    split at q1
    · rename_i ds0 e0
      obtain ⟨a, h1, _, _, ⟨xs0, h4, _⟩, _⟩ := sim1'.ow i _ e0
      refine ⟨_, h1, S1', M1, ρ1, _, sim1', q1, fun y H2 ⟨d, ρ2, M2, S2, q2, st2, sim2, rb⟩ => ?_⟩
      dsimp only at q2
      split at q2
      · rename_i ds k e1
        split at q2
        · rename_i j ej
          obtain ⟨b, k1, _, _, ⟨xs, k4, k5⟩, _⟩ := sim2.ow i _ e1
          rw [h1] at k1
          cases k1
          exact ⟨a, xs, k, j, rfl, rb.int, k4, by rw [k5.length]; exact ej, nx _ M2 S2 σ _ q2 ((st1.trans st1').trans st2).same (sim2.owSet e1 h1 (k5.set (Rp.ext st2.same _ _ rp1)))⟩
        · exact q2.elim
      · exact q2.elim
    · exact q1.elim⟩
end
end PL
namespace PL
open PySem PySem.Spec PyProof.Rows L2

/-! ### comprehensions -/
def wipeE (ρ : Ev) : List Nat → Ev
  | [] => ρ
  | v :: vs => (wipeE ρ vs).set v .un
theorem wipe_at : ∀ {σ : St} {vs : List Nat} {j : Nat}, j ∉ vs → (wipe σ vs)[j]? = σ[j]?
  | _, [], _, _ => rfl
  | σ, v :: vs, j, h => by
    unfold wipe
    rw [List.getElem?_set_ne (fun e => h (by simp [e])), wipe_at (fun e => h (by simp [e]))]
theorem wipeE_at : ∀ {ρ : Ev} {vs : List Nat} {j : Nat}, j ∉ vs → (wipeE ρ vs)[j]? = ρ[j]?
  | _, [], _, _ => rfl
  | σ, v :: vs, j, h => by
    unfold wipeE
    rw [List.getElem?_set_ne (fun e => h (by simp [e])), wipeE_at (fun e => h (by simp [e]))]
theorem wipeE_in : ∀ {ρ : Ev} {vs : List Nat} {j : Nat} {x : Sl}, j ∈ vs → (wipeE ρ vs)[j]? = some x → x = .un
  | _, [], _, _, h, _ => by simp at h
  | ρ, v :: vs, j, x, h, e => by
    unfold wipeE at e
    rcases set_get e with ⟨_, e2, _⟩ | ⟨ne, e2⟩
    · exact e2.symm
    · rcases List.mem_cons.mp h with q | q
      · exact absurd q.symm ne
      · exact wipeE_in q e2
theorem wipe_in : ∀ {σ : St} {vs : List Nat} {j : Nat}, j ∈ vs → j < σ.length → (wipe σ vs)[j]? = some none
  | _, [], _, h, _ => by simp at h
  | σ, v :: vs, j, h, hl => by
    unfold wipe
    by_cases e : v = j
    · subst e
      rw [List.getElem?_set_self (by rw [wipe_length]; exact hl)]
    · rw [List.getElem?_set_ne e]
      rcases List.mem_cons.mp h with q | q
      · exact absurd q.symm e
      · exact wipe_in q hl
theorem wipeE_length (ρ : Ev) : ∀ vs : List Nat, (wipeE ρ vs).length = ρ.length
  | [] => rfl
  | v :: vs => by unfold wipeE; rw [List.length_set, wipeE_length ρ vs]
/-- slots that agree elsewhere are the same when wiped -/
theorem wipe_same {σ σ' : St} {vs : List Nat} (hl : σ'.length = σ.length) (h : ∀ j, j ∉ vs → σ'[j]? = σ[j]?) : wipe σ' vs = wipe σ vs := by
  refine List.ext_getElem? fun j => ?_
  by_cases hj : j ∈ vs
  · by_cases hlt : j < σ.length
    · rw [wipe_in hj hlt, wipe_in hj (by rw [hl]; exact hlt)]
    · rw [List.getElem?_eq_none (by rw [wipe_length, hl]; omega), List.getElem?_eq_none (by rw [wipe_length]; omega)]
  · rw [wipe_at hj, wipe_at hj, h j hj]
/-- no list of one's own stands in the slots -/
def notOw (ρ : Ev) (vs : List Nat) : Bool := vs.all fun i => match ρ[i]? with
  | some (.ow _) => false
  | _ => true
section
variable {z : Z} {S S' : Hp} {M M' : Mu} {ρ : Ev} {σ : St} {H H' : Hp}
theorem Sim.wiped (h : Sim z S M ρ σ H) (vs : List Nat) : Sim z S M (wipeE ρ vs) (wipe σ vs) H := by
  refine ⟨h.toCore, by rw [wipe_length, wipeE_length]; exact h.len, fun i d e => ?_, fun i o e => ?_, fun i j o o' a e1 e2 => ?_⟩
  · by_cases hi : i ∈ vs
    · cases wipeE_in hi e
    · rw [wipeE_at hi] at e
      rw [wipe_at hi]
      exact h.va i d e
  · by_cases hi : i ∈ vs
    · cases wipeE_in hi e
    · rw [wipeE_at hi] at e
      rw [wipe_at hi]
      exact h.ow i o e
  · by_cases hi : i ∈ vs
    · cases wipeE_in hi e1
    · by_cases hj : j ∈ vs
      · cases wipeE_in hj e2
      · rw [wipeE_at hi] at e1
        rw [wipeE_at hj] at e2
        rw [wipe_at hi, wipe_at hj]
        exact h.sep i j o o' a e1 e2
/-- behind a block: its own slots hold again what they held -/
theorem Sim.unwiped {vs : List Nat} {ρ2 : Ev} {σ2 : St} (h : Sim z S M ρ σ H) (hn : notOw ρ vs = true) (st : Step S M H S' M' H') (s2 : Sim z S' M' ρ2 σ2 H') (er : wipeE ρ2 vs = wipeE ρ vs) (es : wipe σ2 vs = wipe σ vs) : Sim z S' M' ρ σ H' := by
  have out : ∀ {i : Nat} {o : Ow}, ρ[i]? = some (.ow o) → i ∉ vs := fun {i o} e hi => by
    have := List.all_eq_true.mp hn i hi
    rw [e] at this
    cases this
  refine ⟨s2.toCore, h.len, fun i d e => ?_, fun i o e => ?_, h.sep⟩
  · obtain ⟨v, a, b⟩ := h.va i d e
    exact ⟨v, a, Rp.ext st.same _ _ b⟩
  · have hi := out e
    have e2 : ρ2[i]? = some (.ow o) := by
      have := congrArg (fun l => l[i]?) er
      simp only [wipeE_at hi] at this
      rw [this, e]
    have e3 : σ2[i]? = σ[i]? := by
      have := congrArg (fun l => l[i]?) es
      simp only [wipe_at hi] at this
      exact this
    rw [← e3]
    exact s2.ow i o e2
theorem Sim.hide {D : Addr} {acc : List PL.D} (h : Sim z S M ρ σ H) (r : ResE z S M ρ σ H (.ref D) (.ow (.lst acc))) : Sim { z with R := fun b => z.R b ∨ b = D } S M ρ σ H := by
  obtain ⟨a, e, h2, h3, ⟨xs, h4, _⟩, h5, h6⟩ := r
  cases e
  refine ⟨⟨h.step, h.sub, h.frS, h.mu, h.mnd, fun b hb => ?_⟩, h.len, h.va, fun i o e => ?_, h.sep⟩
  · rcases hb with hb | rfl
    · exact h.rsv b hb
    · exact ⟨h2, by rw [h4]; simp, h5⟩
  · obtain ⟨b, k1, k2, k3, k4, k5⟩ := h.ow i o e
    refine ⟨b, k1, k2, ⟨k3.1, fun w => ?_⟩, k4, k5⟩
    rcases w with w | w
    · exact k3.2 w
    · subst w
      exact h6 i o e k1
theorem Sim.show {R : Addr → Prop} (h : Sim { z with R := R } S M ρ σ H) (k : ∀ b, z.R b → R b) : Sim z S M ρ σ H :=
  ⟨⟨h.step, h.sub, h.frS, h.mu, h.mnd, fun b hb => h.rsv b (k b hb)⟩, h.len, h.va, fun i o e =>
    let ⟨a, h1, h2, h3, h4⟩ := h.ow i o e
    ⟨a, h1, h2, ⟨h3.1, fun w => h3.2 (k a w)⟩, h4⟩, h.sep⟩
/-- something that nothing is said of is changed -/
theorem Sim.poke {a : Addr} {o : HO} (h : Sim z S M ρ σ H) (hs : S a = none) (h0 : z.Nw a) (hm : ∀ p ∈ M, p.1 ≠ a) (hn : ∀ (i : Nat) o', ρ[i]? = some (.ow o') → σ[i]? ≠ some (some (.ref a))) : Sim z S M ρ σ (upd H a o) := by
  refine ⟨⟨⟨h.step.same, fun c u q n => ?_, h.step.mnew, fun c q => ?_⟩, fun c u q => ?_, h.frS, fun p hp => ?_, h.mnd, fun c hc => ?_⟩, h.len, h.va, fun i o' e => ?_, h.sep⟩
  · rw [upd_ne (fun w => by rw [w, h0.1] at q; cases q)]
    exact h.step.keep c u q n
  · by_cases w : c = a
    · subst w; rw [upd_same]; simp
    · rw [upd_ne w]; exact h.step.dom c q
  · rw [upd_ne (fun w => by rw [w, hs] at q; cases q)]
    exact h.sub c u q
  · obtain ⟨q, w⟩ := h.mu p hp
    exact ⟨q, w.ext (.refl _) (upd_ne (hm p hp))⟩
  · obtain ⟨r1, r2, r3⟩ := h.rsv c hc
    exact ⟨r1, by rw [upd_ne (fun e : c = a => h0.2 (by rw [← e]; exact hc))]; exact r2, r3⟩
  · obtain ⟨b, k1, k2, k3, k4, k5⟩ := h.ow i o' e
    exact ⟨b, k1, k2, k3, k4.ext (.refl _) (upd_ne fun w => hn i o' e (by rw [← w]; exact k1)), k5⟩
def eLc (qi : QA) (g : QG) (qt : QT) (qe : QE) (vs : List Nat) : QE := fun ρ M Q => qi ρ M fun ds ρ1 M1 => notOw ρ1 vs = true ∧ ∃ I : Nat → List D → Mu → Prop, I 0 [] M1 ∧
  (∀ i d acc M, ds[i]? = some d → I i acc M → g d (wipeE ρ1 vs) fun ρ2 => wipeE ρ2 vs = wipeE ρ1 vs ∧ qt ρ2 M fun b ρ3 M3 => ρ3 = ρ2 ∧
    (if b = true then qe ρ3 M3 fun r ρ4 M4 => ρ4 = ρ3 ∧ acc.length < 16777216 ∧ I (i + 1) (acc ++ [r.val]) M4 else I (i + 1) acc M3)) ∧
  (∀ acc M, I ds.length acc M → Q (.ow (.lst acc)) ρ1 M)
def tYes' : QT := fun ρ M Q => Q true ρ M
/-- for every call's entry with this written part -/
def anE (K : Fg) (q : QE) : TE := fun σ H Q => ∃ z : Z, K = z.K ∧ liE z q σ H Q
def anT (K : Fg) (q : QT) : TT := fun σ H Q => ∃ z : Z, K = z.K ∧ liT z q σ H Q
def anG (K : Fg) (as : List Nat) (q : QG) : TG := fun v σ H Q => ∃ z : Z, K = z.K ∧ liG z as q v σ H Q
end
section
variable {X : Cx} {z : Z}
theorem an_e {e : Expr} {q : QE} {K : Fg} (h : ∀ z : Z, K = z.K → PE X e (liE z q)) : PE X e (anE K q) := ⟨fun pins s σ H Q I ⟨z, e, w⟩ => (h z e).run pins s σ H Q I w⟩
theorem an_g {e : Expr} {q : QG} {as : List Nat} {K : Fg} (h : ∀ z : Z, K = z.K → PG X e (liG z as q)) : PG X e (anG K as q) := ⟨fun pins s σ H v u Q I r ⟨z, e, w⟩ => (h z e).run pins s σ H v u Q I r w⟩
theorem an_t0 {K : Fg} : PTs X [] (anT K tYes') := ⟨fun pins s σ H Q I ⟨z, e, S, M, ρ, Q0, sim, h, post⟩ => pts_nil.run pins s σ H Q I (post true H ⟨ρ, M, S, h, .refl, sim⟩)⟩
theorem an_t1 {c : Expr} {t : QT} {K : Fg} (h : ∀ z : Z, K = z.K → PT X c (liT z t)) : PTs X [c] (anT K t) := pts_one ⟨fun pins s σ H Q I ⟨z, e, w⟩ => (h z e).run pins s σ H Q I w⟩
theorem lc_lift {qi : QA} {g : QG} {qt : QT} {qe : QE} {vs as : List Nat} (hvs : ∀ j ∈ as, j ∈ vs) {σ : St} {H : Hp} {Q : VK} (h : liE z (eLc qi g qt qe vs) σ H Q) : tLc (liI z qi) (anG z.K as g) (anT z.K qt) (anE z.K qe) vs σ H Q := by
  obtain ⟨S, M, ρ, Q0, sim, h, post⟩ := h
  refine ⟨S, M, ρ, _, sim, h, fun J H1 ⟨ds, ρ1, M1, S1, ⟨hn, I, w0, turn, fin⟩, st1, sim1, y⟩ D hD => ?_⟩
  obtain ⟨simD, stD, resD⟩ := sim1.fresh (ds := []) hD .nil
  have hD0 : H D = none := by
    cases q : H D with
    | none => rfl
    | some o => exact absurd hD (st1.dom D (by rw [q]; simp))
  refine ⟨fun i m H' => m = ds.length - i ∧ i ≤ ds.length ∧ ∃ S' M' acc, Step S M H S' M' H' ∧ Same S1 S' ∧ Sim z S' M' ρ1 σ H' ∧ ResE z S' M' ρ1 σ H' (.ref D) (.ow (.lst acc)) ∧ I i acc M',
    ⟨ds.length, by simp, Nat.zero_le _, S1, M1, [], st1.trans stD, .refl _, simD, resD, w0⟩, ?_⟩
  rintro i m H2 ⟨rfl, hi, S2, M2, acc, st2, e2, sim2, res2, w2⟩
  by_cases hlt : i < ds.length
  · refine .inr ⟨y.go i H2 S2 e2 sim2.sub hlt, fun H' => i + 1 ≤ ds.length ∧ ∃ S' M' acc, Step S M H S' M' H' ∧ Same S1 S' ∧ Sim z S' M' ρ1 σ H' ∧ ResE z S' M' ρ1 σ H' (.ref D) (.ow (.lst acc)) ∧ I (i + 1) acc M',
      fun H' h => ⟨ds.length - (i + 1), by omega, rfl, h.1, h.2⟩, fun x H3 hy => ?_⟩
    have ed : ds[i]? = some ds[i] := List.getElem?_eq_getElem hlt
    obtain ⟨S3, a1, a2, a3, a4, rp⟩ := y.yld i H2 S2 x H3 _ e2 sim2.sub ed hy
    have sim3 := sim2.grow a1 a2 a3 a4
    have st3 : Step S2 M2 H2 S3 M2 H3 := .grow a1 a2
    obtain ⟨D', eD, n1, n2, ⟨xs, n3, n4⟩, n5, n6⟩ := id res2
    cases eD
    have res3 : ResE z S3 M2 ρ1 σ H3 (.ref D) (.ow (.lst acc)) := by
      refine ⟨D, rfl, ?_, n2, ⟨xs, a2 _ _ n3, RpA.ext a1 _ _ n4⟩, n5, n6⟩
      cases q : S3 D with
      | none => rfl
      | some o =>
        rcases a4 D (by rw [q]; simp) with e | e
        · exact absurd n1 e
        · rw [n3] at e; cases e
    have hid := sim3.hide res3
    have w3 := turn i _ acc M2 ed w2
    refine ⟨{ z with R := fun b => z.R b ∨ b = D }, rfl, S3, M2, wipeE ρ1 vs, _, _, hid.wiped vs, rp, w3, fun ρ4 σ4 ⟨er, q4⟩ sim4 k4 => ?_⟩
    have es : wipe σ4 vs = wipe σ vs := by
      have hl : σ4.length = σ.length := by
        have z1 := sim4.len
        have z2 := congrArg List.length er
        rw [wipeE_length, wipeE_length] at z2
        rw [z1, z2]
        exact sim3.len.symm
      refine wipe_same hl fun j hj => ?_
      rw [k4 j fun hm => hj (hvs j hm), wipe_at hj]
    -- back behind the block
    have back : ∀ {S6 : Hp} {M6 : Mu} {H6 : Hp}, Sim { z with R := fun b => z.R b ∨ b = D } S6 M6 ρ4 σ4 H6 → Step S3 M2 H3 S6 M6 H6 → Sim z S6 M6 ρ1 σ H6 ∧ Step S M H S6 M6 H6 ∧ Same S1 S6 ∧ ∃ xs, H6 D = some (.lst xs) ∧ RpA z.K S6 xs acc ∧ S6 D = none ∧ (∀ p ∈ M6, p.1 ≠ D) := by
      intro S6 M6 H6 s6 st6
      obtain ⟨r1, r2, r3⟩ := s6.rsv D (.inr rfl)
      have s6' := s6.show (fun b hb => .inl hb)
      exact ⟨sim3.unwiped hn st6 s6' er es, (st2.trans st3).trans st6, (e2.trans a1).trans st6.same, xs, st6.keep D _ (a2 _ _ n3) n5, RpA.ext (a1.trans st6.same) _ _ n4, r1, r3⟩
    refine ⟨es, { z with R := fun b => z.R b ∨ b = D }, rfl, S3, M2, ρ4, _, sim4, q4, fun b H5 ⟨ρ5, M5, S5, ⟨er5, q5⟩, st5, sim5⟩ => ?_⟩
    subst er5
    cases b with
    | false =>
      obtain ⟨k1, k2, k3, xs', k5, k6, k7, k8⟩ := back sim5 st5
      exact iteF ⟨hlt, S5, M5, acc, k2, k3, k1, ⟨D, rfl, k7, n2, ⟨xs', k5, k6⟩, k8, n6⟩, (by simpa using q5)⟩
    | true =>
      have q5' := (show qe _ M5 _ by simpa using q5)
      refine iteT ⟨{ z with R := fun b => z.R b ∨ b = D }, rfl, S5, M5, _, _, sim5, q5', fun v H6 ⟨r, ρ6, M6, S6, ⟨er6, hl6, q6⟩, st6, sim6, res6⟩ => ?_⟩
      subst er6
      obtain ⟨S7, sim7, st7, rp7⟩ := sim6.freeze res6
      obtain ⟨k1, k2, k3, xs', k5, k6, k7, k8⟩ := back sim7 ((st5.trans st6).trans st7)
      refine ⟨xs', k5, by rw [k6.length, sizeLine_eq]; exact hl6, hlt, S7, M6, acc ++ [r.val], ?_, k3, ?_, ?_, q6⟩
      · refine ⟨k2.same, fun c u q n => ?_, k2.mnew, fun c q => ?_⟩
        · rw [upd_ne (fun w => by rw [w, hD0] at q; cases q)]
          exact k2.keep c u q n
        · by_cases w : c = D
          · subst w; rw [upd_same]; simp
          · rw [upd_ne w]; exact k2.dom c q
      · exact k1.poke k7 n2 k8 n6
      · exact ⟨D, rfl, k7, n2, ⟨_, upd_same, k6.append (.one rp7)⟩, k8, n6⟩
  · have e : i = ds.length := by omega
    subst e
    exact .inl ⟨y.stop _ H2 S2 e2 sim2.sub (Nat.le_refl _), post _ H2 ⟨_, ρ1, M2, S2, fin acc M2 w2, st2, sim2, res2⟩⟩
theorem qe_lc {elt tg iter : Expr} {ifs : List Expr} {scope : Scope} {own : List (Str × Nat)} {pos : Pos} {qi : QA} {g : QG} {qt : QT} {qe : QE} {as : List Nat} (hc : X.calm = true) (hN : X.N.Nodup) (hi : PI X tg iter (liI z qi)) (ok : BlkOk X.N X.env.scope scope own)
    (hg : ∀ (s : Shared) (H : Hp) (C : Addr) (cl : List (Str × Addr)) (fp : List Addr) (z : Z), X.K = z.K → PG (X.blk s H scope (compEnvC scope cl C X.env) fp) tg (liG z as g))
    (ht : ∀ (s : Shared) (H : Hp) (C : Addr) (cl : List (Str × Addr)) (fp : List Addr), PTs (X.blk s H scope (compEnvC scope cl C X.env) fp) ifs (anT X.K qt))
    (he : ∀ (s : Shared) (H : Hp) (C : Addr) (cl : List (Str × Addr)) (fp : List Addr) (z : Z), X.K = z.K → PE (X.blk s H scope (compEnvC scope cl C X.env) fp) elt (liE z qe)) (hvs : ∀ j ∈ as, j ∈ own.map (·.2) := by decide) (hK : X.K = z.K := by first | assumption | rfl)
    (hs : ∀ x, foldedSetIterable iter X.env x = pure x := by intro _; rfl) : PE X (.ListComp elt [⟨tg, iter, ifs, 0⟩] scope pos) (liE z (eLc qi g qt qe (own.map (·.2)))) := by
  refine pe_w (pe_lc hc hN hi ok (fun s H C cl fp => an_g (K := X.K) (hg s H C cl fp)) ht (fun s H C cl fp => an_e (K := X.K) (he s H C cl fp)) hs) fun σ H Q h => ?_
  rw [hK]
  exact lc_lift hvs h
theorem qs_setLc {i : Nat} {y : Str} {py : Pos} {elt tg iter : Expr} {ifs : List Expr} {scope : Scope} {own : List (Str × Nat)} {pos spos : Pos} {qi : QA} {g : QG} {qt : QT} {qe : QE} {as : List Nat} (hc : X.calm = true) (hN : X.N.Nodup) (hy : X.N[i]? = some y) (hyl : X.env.scope.names.lookup y = some .local)
    (hsw : swapsWith (.ListComp elt [⟨tg, iter, ifs, 0⟩] scope pos) (some (.Name y py)) spos.line X.env = pure true) (hi : PI X tg iter (liI z qi)) (ok : BlkOk X.N X.env.scope scope own)
    (hg : ∀ (s : Shared) (H : Hp) (C : Addr) (cl : List (Str × Addr)) (fp : List Addr) (z : Z), X.K = z.K → PG (X.blk s H scope (compEnvC scope cl C X.env) fp) tg (liG z as g))
    (ht : ∀ (s : Shared) (H : Hp) (C : Addr) (cl : List (Str × Addr)) (fp : List Addr), PTs (X.blk s H scope (compEnvC scope cl C X.env) fp) ifs (anT X.K qt))
    (he : ∀ (s : Shared) (H : Hp) (C : Addr) (cl : List (Str × Addr)) (fp : List Addr) (z : Z), X.K = z.K → PE (X.blk s H scope (compEnvC scope cl C X.env) fp) elt (liE z qe)) (hvs : ∀ j ∈ as, j ∈ own.map (·.2) := by decide) (hK : X.K = z.K := by first | assumption | rfl)
    (hs : ∀ x, foldedSetIterable iter X.env x = pure x := by intro _; rfl) : PS X (.Assign [.Name y py] (.ListComp elt [⟨tg, iter, ifs, 0⟩] scope pos) spos) (liS z (sAsg i (eLc qi g qt qe (own.map (·.2))))) := by
  refine ps_w (ps_setLc (i := i) hc hN hy hyl hsw hi ok (fun s H C cl fp => an_g (K := X.K) (hg s H C cl fp)) ht (fun s H C cl fp => an_e (K := X.K) (he s H C cl fp)) hs) fun D σ H h => ?_
  obtain ⟨S, M, ρ, D0, sim, h, nx, _⟩ := h
  rw [hK]
  exact lc_lift hvs ⟨S, M, ρ, _, sim, h, fun v H' ⟨r, ρ', M', S', q, st, sim', res⟩ => nx _ M' S' _ H' q st.same (sim'.put res)⟩
end
end PL
namespace PL
open PySem PySem.Spec PyProof.Rows L2

/-! ### lists that are known by their address -/
def mput (M : Mu) (a : Addr) (o : MO) : Mu := M.map fun p => if p.1 = a then (a, o) else p
theorem mput_keys (M : Mu) (a : Addr) (o : MO) : (mput M a o).map (·.1) = M.map (·.1) := by
  unfold mput
  rw [List.map_map]
  refine List.map_congr_left fun p _ => ?_
  show (if p.1 = a then (a, o) else p).1 = p.1
  split
  · rename_i e; exact e.symm
  · rfl
theorem mem_mput {M : Mu} {a : Addr} {o : MO} {p : Addr × MO} (h : p ∈ mput M a o) : (p = (a, o) ∧ ∃ q ∈ M, q.1 = a) ∨ (p ∈ M ∧ p.1 ≠ a) := by
  obtain ⟨q, hq, e⟩ := List.mem_map.mp h
  by_cases hq2 : q.1 = a
  · rw [if_pos hq2] at e
    exact .inl ⟨e.symm, q, hq, hq2⟩
  · rw [if_neg hq2] at e
    subst e
    exact .inr ⟨hq, hq2⟩
section
variable {z : Z} {S S' : Hp} {M M' : Mu} {ρ : Ev} {σ : St} {H H' : Hp}
theorem lookup_mem {a : Addr} {o : MO} : ∀ {M : Mu}, M.lookup a = some o → (a, o) ∈ M
  | [], h => by cases h
  | (b, u) :: r, h => by
    rw [List.lookup_cons] at h
    cases e : a == b with
    | true =>
      rw [e] at h
      cases h
      rw [eq_of_beq e]
      exact List.mem_cons_self
    | false =>
      rw [e] at h
      exact List.mem_cons_of_mem _ (lookup_mem h)
theorem nodup_at {M : Mu} (hn : (M.map (·.1)).Nodup) {a : Addr} {o o' : MO} (h : (a, o) ∈ M) (h' : (a, o') ∈ M) : o = o' := by
  induction M with
  | nil => cases h
  | cons p M ih =>
    rw [List.map_cons, List.nodup_cons] at hn
    rcases List.mem_cons.mp h with e | h
    · rcases List.mem_cons.mp h' with e' | h'
      · rw [← e] at e'; cases e'; rfl
      · exact absurd (List.mem_map.mpr ⟨_, h', by rw [← e]⟩) hn.1
    · rcases List.mem_cons.mp h' with e' | h'
      · exact absurd (List.mem_map.mpr ⟨_, h, by rw [← e']⟩) hn.1
      · exact ih hn.2 h h'
/-- an object known by address is written -/
theorem Core.mset {a : Addr} {o o' : MO} {ho : HO} (h : Core z S M H) (hm : (a, o) ∈ M) (hk : MOk z.K S (upd H a ho) a o') : Core z S (mput M a o') (upd H a ho) := by
  have hs := (h.mu _ hm).1
  obtain ⟨u, hu⟩ := (h.mu _ hm).2.at
  refine ⟨⟨h.step.same, fun c w q n => ?_, fun p hp => ?_, fun c q => ?_⟩, fun c w q => ?_, h.frS, fun p hp => ?_, by rw [mput_keys]; exact h.mnd, fun c hc => ?_⟩
  · have k := h.step.keep c w q n
    rw [upd_ne (fun e => ?_)]
    · exact k
    · subst e
      rcases h.step.mnew _ hm with ⟨q', hq', e'⟩ | e'
      · exact n q' hq' e'
      · rw [show z.H0 c = none from e'] at q; cases q
  · rcases mem_mput hp with ⟨rfl, q, hq, e⟩ | ⟨hp, _⟩
    · have := h.step.mnew q hq
      rw [e] at this
      exact this
    · exact h.step.mnew p hp
  · by_cases e : c = a
    · subst e; rw [upd_same]; simp
    · rw [upd_ne e]; exact h.step.dom c q
  · rw [upd_ne (fun e => by rw [e, hs] at q; cases q)]
    exact h.sub c w q
  · rcases mem_mput hp with ⟨rfl, _⟩ | ⟨hp, ne⟩
    · exact ⟨hs, hk⟩
    · obtain ⟨k1, k2⟩ := h.mu p hp
      exact ⟨k1, k2.ext (.refl _) (upd_ne ne)⟩
  · obtain ⟨r1, r2, r3⟩ := h.rsv c hc
    refine ⟨r1, by rw [upd_ne (fun e : c = a => r3 _ hm e.symm)]; exact r2, fun p hp e => ?_⟩
    rcases mem_mput hp with ⟨rfl, q, hq, e2⟩ | ⟨hp, _⟩
    · exact r3 q hq (e2.trans e)
    · exact r3 p hp e
theorem Sim.mset {a : Addr} {o o' : MO} {ho : HO} (h : Sim z S M ρ σ H) (hm : (a, o) ∈ M) (hk : MOk z.K S (upd H a ho) a o') : Sim z S (mput M a o') ρ σ (upd H a ho) := by
  refine ⟨h.toCore.mset hm hk, h.len, h.va, fun i w e => ?_, h.sep⟩
  obtain ⟨b, h1, h2, h3, h4, h5⟩ := h.ow i w e
  refine ⟨b, h1, h2, h3, h4.ext (.refl _) (upd_ne fun e => h5 _ hm e.symm), fun p hp e => ?_⟩
  rcases mem_mput hp with ⟨rfl, q, hq, e2⟩ | ⟨hp, _⟩
  · exact h5 q hq (e2.trans e)
  · exact h5 p hp e
/-- .. is told otherwise, as it stands -/
theorem Core.mtell {a : Addr} {o o' : MO} (h : Core z S M H) (hm : (a, o) ∈ M) (hk : MOk z.K S H a o') : Core z S (mput M a o') H := by
  obtain ⟨u, hu⟩ := (h.mu _ hm).2.at
  have e : upd H a u = H := by
    funext b
    by_cases hb : b = a
    · subst hb; rw [upd_same, hu]
    · rw [upd_ne hb]
  have := h.mset (ho := u) hm (by rw [e]; exact hk)
  rw [e] at this
  exact this
end
/-- x[e], x a list that is known by its address -/
def eIxM (qa qb : QB) : QE := fun ρ M Q => qa ρ M fun d1 ρ1 M1 => qb ρ1 M1 fun d2 ρ2 M2 => match d1, d2 with
  | .ref a, .int i => (match M2.lookup a with
    | some (.lst ds) => (match atI ds i with | some d => Q (.va d) ρ2 M2 | none => False)
    | _ => False)
  | _, _ => False
def sSetM (q : QE) (qa qb : QB) : QS := fun D ρ M => q ρ M fun r ρ1 M1 => qa ρ1 M1 fun d1 ρ2 M2 => qb ρ2 M2 fun d2 ρ3 M3 => match d1, d2 with
  | .ref a, .int k => (match M3.lookup a with
    | some (.lst ds) => (match ixN ds.length k with | some j => D.nx ρ3 (mput M3 a (.lst (ds.set j r.val))) | none => False)
    | _ => False)
  | _, _ => False
section
variable {X : Cx} {z : Z} {a b e : Expr} {pos : Pos} {qa qb : QB} {ea : QE}
theorem qe_ixM (ha : PE X a (liB z qa)) (hb : PE X b (liB z qb)) (hs : PlainIx b := by exact fun _ _ => rfl) : PE X (.Subscript a b pos) (liE z (eIxM qa qb)) :=
  pe_w (pe_ix ix_list ha hb hs) fun σ H Q ⟨S, M, ρ, Q0, sim, h, post⟩ => ⟨S, M, ρ, _, sim, h, fun x H1 ⟨d1, ρ1, M1, S1, q1, st1, sim1, b1⟩ => ⟨S1, M1, ρ1, _, sim1, q1, fun y H2 ⟨d2, ρ2, M2, S2, q2, st2, sim2, b2⟩ => by
    dsimp only at q2
    split at q2
    · split at q2
      · rename_i ds em
        split at q2
        · rename_i d ed
          obtain ⟨_, xs, h1, h2⟩ := sim2.mu _ (lookup_mem em)
          obtain ⟨v, ev, rv⟩ := atI_rp h2 ed
          exact ⟨_, xs, _, v, (b1.step st2).ref, b2.int, .of h1, ev, post v H2 ⟨.va d, ρ2, M2, S2, q2, st1.trans st2, sim2, rv⟩⟩
        · exact q2.elim
      · exact q2.elim
    · exact q2.elim⟩⟩
theorem qs_setM {p2 : Pos} (he : PE X e (liE z ea)) (ha : PE X a (liB z qa)) (hb : PE X b (liB z qb))
    (hq : ∀ v, assign (.Subscript a b p2) X.env v = (do
      let ov ← holding [v] (eval a X.env)
      let iv ← holding [v, ov] (eval b X.env)
      standAt p2
      holding [v, ov, iv] (setItem ov iv v)
      release [v, ov, iv] []) := by intro _; rfl)
    (hs : swapsWithSole [.Subscript a b p2] e pos.line X.env = pure false := by rfl) (hw : swappedStores [.Subscript a b p2] e X.env = pure none := by rfl)
    (h1 : (assignEach [.Subscript a b p2] X.env).map (·.2) = [assign (.Subscript a b p2) X.env] := by rfl) : PS X (.Assign [.Subscript a b p2] e pos) (liS z (sSetM ea qa qb)) :=
  ps_w (ps_asg he (pg_sub ha hb set_list hq) hs hw h1) fun D σ H ⟨S, M, ρ, D0, sim, h, nx, _⟩ => ⟨S, M, ρ, _, sim, h, fun v H1 ⟨r, ρ1, M1, S1, q1, st1, sim1, res1⟩ => by
    obtain ⟨S1', sim1', st1', rp1⟩ := sim1.freeze res1
    refine ⟨S1', M1, ρ1, _, sim1', q1, fun x H2 ⟨d2, ρ2, M2, S2, q2, st2, sim2, b2⟩ => ⟨S2, M2, ρ2, _, sim2, q2, fun y H3 ⟨d3, ρ3, M3, S3, q3, st3, sim3, b3⟩ => ?_⟩⟩
    dsimp only at q3
    split at q3
    · split at q3
      · rename_i ds em
        split at q3
        · rename_i j ej
          obtain ⟨_, xs, h1, h2⟩ := sim3.mu _ (lookup_mem em)
          have rp3 := Rp.ext (st2.trans st3).same _ _ rp1
          exact ⟨_, xs, _, j, (b2.step st3).ref, b3.int, h1, by rw [h2.length]; exact ej, nx _ _ S3 σ _ q3 ((st1.trans st1').trans (st2.trans st3)).same (sim3.mset (lookup_mem em) ⟨_, upd_same, h2.set rp3⟩)⟩
        · exact q3.elim
      · exact q3.elim
    · exact q3.elim⟩
end

/-! ### a def keeps its promise -/
abbrev PF := fun (_ : Str) (_ : List D) (_ : Mu) => False
def stE (N : List Str) (ds : List D) : Ev := ds.map .va ++ List.replicate (N.length - ds.length) .un
theorem start_sim {K : Fg} {S : Hp} {M : Mu} {H : Hp} {vs : List V} {ds : List D} {N : List Str} {z : Z} (c : Core z S M H) (hK : z.K = K) (r : RpA K S vs ds) : Sim z S M (stE N ds) (L2.start N vs) H := by
  have hl := r.length
  have at1 : ∀ {i : Nat} {x : Sl}, (stE N ds)[i]? = some x → (∃ d, ds[i]? = some d ∧ x = .va d) ∨ x = .un := fun {i x} e => by
    unfold stE at e
    by_cases hi : i < ds.length
    · rw [List.getElem?_append_left (by simpa using hi), List.getElem?_map] at e
      cases q : ds[i]? with
      | none => rw [q] at e; cases e
      | some d => rw [q] at e; cases e; exact .inl ⟨d, rfl, rfl⟩
    · rw [List.getElem?_append_right (by simpa using hi), List.getElem?_replicate] at e
      split at e
      · cases e; exact .inr rfl
      · cases e
  refine ⟨c, ?_, fun i d e => ?_, fun i o e => ?_, fun i j o o' a e1 => ?_⟩
  · unfold stE L2.start
    simp only [List.length_append, List.length_map, List.length_replicate]
    rw [hl]
  · rcases at1 e with ⟨d', e1, e2⟩ | e2
    · cases e2
      obtain ⟨v, h1, h2⟩ := r.get e1
      refine ⟨v, ?_, by rw [hK]; exact h2⟩
      unfold L2.start
      have hi : i < vs.length := (List.getElem?_eq_some_iff.mp h1).1
      rw [List.getElem?_append_left (by simpa using hi), List.getElem?_map, h1]
      rfl
    · cases e2
  · rcases at1 e with ⟨d', e1, e2⟩ | e2 <;> cases e2
  · rcases at1 e1 with ⟨d', e1, e2⟩ | e2 <;> cases e2
theorem fn_P {P : Program} {w : World} {K : Fg} {mg : Str → Option Value} {base : Heap} {x qual : Str} {params : Arguments} {body : List Stmt} {scope : Scope} {dvs : List V} {kws : List (Str × V)} {f : Addr} {fd : FuncData} {N ps : List Str} {k : Nat} {p : PSp}
    (F : FunD K x qual params body scope dvs kws f fd) (Sc : FnScope N ps scope) (hl : ∀ ds M Q E, p ds M Q E → ds.length = ps.length)
    {q : QS} (hbody : ∀ (cdv : Value) (A : Around) (outer : List Env) (s : Shared) (H : Hp) (E : XK) (z : Z), K = z.K → Room k (A.deeper (envOfC qual scope s.heap.objs.size f cdv)) →
      PSs (cxOf CX0 P w K mg base N qual scope f cdv A outer s H E).nox body (liS z q))
    (hq : ∀ ds M Q0, p ds M Q0 PF → q { nx := fun _ M' => Q0 (.va .non) M', rt := Q0 } (stE N ds) M) : FnOk P w K mg base CX0 (k + 1) f fd ps (liP K p) := by
  refine F.ok Sc (fun vs H Q E ⟨S, M, ds, Q0, c, r, h, _⟩ => by rw [r.length]; exact hl _ _ _ _ h) fun cdv A outer s H vs Q E hr ⟨S, M, ds, Q0, c, r, h, post⟩ => ⟨_, (hbody cdv A outer s H E (zOf K H S M) rfl hr).nox, ?_⟩
  refine ⟨S, M, _, _, start_sim c rfl r, hq ds M Q0 h, fun ρ' M' S' σ' H' q e sim => ?_, fun _ _ _ _ _ q => q.elim, fun _ _ _ _ _ q => q.elim, fun r M' S' v H' q c' res => post v H' r M' S' q c' res⟩
  exact post .non H' _ M' S' q sim.toCore .non
/-! ### the law's tape -/
/-- one draw -/
def pDraw : PSp := fun ds M Q _ => match ds with
  | [.ref T, .int n] => ((T, MO.tape) ∈ M ∧ 1 ≤ n ∧ n < 1267650600228229401496703205376) ∧ ∀ r : Int, 0 ≤ r → r < n → Q (.va (.int r)) M
  | _ => False
theorem mput_mput (M : Mu) (a : Addr) (o o' : MO) : mput (mput M a o) a o' = mput M a o' := by
  unfold mput
  rw [List.map_map]
  refine List.map_congr_left fun p _ => ?_
  show (if (if p.1 = a then (a, o) else p).1 = a then (a, o') else (if p.1 = a then (a, o) else p)) = _
  by_cases h : p.1 = a
  · simp [h]
  · simp [h]
theorem mput_self {M : Mu} (hn : (M.map (·.1)).Nodup) {a : Addr} {o : MO} (h : (a, o) ∈ M) : mput M a o = M := by
  unfold mput
  conv => rhs; rw [← List.map_id M]
  refine List.map_congr_left fun p hp => ?_
  by_cases e : p.1 = a
  · rw [if_pos e]
    obtain ⟨b, o'⟩ := p
    have e' : b = a := e
    subst e'
    rw [nodup_at hn h hp]
    rfl
  · rw [if_neg e]; rfl
theorem lookup_mput {M : Mu} {a : Addr} {o : MO} (h : ∃ p ∈ M, p.1 = a) : (mput M a o).lookup a = some o := by
  induction M with
  | nil => obtain ⟨p, hp, _⟩ := h; cases hp
  | cons q M ih =>
    unfold mput
    rw [List.map_cons]
    by_cases e : q.1 = a
    · rw [if_pos e, List.lookup_cons]
      simp
    · rw [if_neg e]
      obtain ⟨p, hp, e2⟩ := h
      have hp' : p ∈ M := by
        rcases List.mem_cons.mp hp with rfl | hp
        · exact absurd e2 e
        · exact hp
      have := ih ⟨p, hp', e2⟩
      unfold mput at this
      obtain ⟨b, u⟩ := q
      rw [List.lookup_cons]
      have hb : (a == b) = false := beq_eq_false_iff_ne.mpr fun w => e w.symm
      rw [hb]
      exact this
theorem fn_draw {P : Program} {w : World} {K : Fg} {mg : Str → Option Value} {base : Heap} {x qual : Str} {params : Arguments} {body : List Stmt} {scope : Scope} {dvs : List V} {kws : List (Str × V)} {f : Addr} {fd : FuncData} {N ps : List Str} {k : Nat}
    (F : FunD K x qual params body scope dvs kws f fd) (Sc : FnScope N ps scope) (hps : ps.length = 2)
    {q : QS} (hbody : ∀ (cdv : Value) (A : Around) (outer : List Env) (s : Shared) (H : Hp) (E : XK) (z : Z), K = z.K → Room k (A.deeper (envOfC qual scope s.heap.objs.size f cdv)) →
      PSs (cxOf CX0 P w K mg base N qual scope f cdv A outer s H E).nox body (liS z q))
    (hq : ∀ (T : Addr) (n : Int) (M : Mu) (ns : List Int) (c x : Int) (Q0 : Sl → Mu → Prop), M.lookup T = some (.lst [.lst (ns.map D.int), .int c, .int x]) → 0 ≤ c → 0 ≤ x → 1 ≤ n → n < 1267650600228229401496703205376 →
      (∀ r c' x' : Int, 0 ≤ r → r < n → 0 ≤ c' → 0 ≤ x' → Q0 (.va (.int r)) (mput M T (.lst [.lst (ns.map D.int), .int c', .int x']))) → q { nx := fun _ M' => Q0 (.va .non) M', rt := Q0 } (stE N [.ref T, .int n]) M) :
    FnOk P w K mg base CX0 (k + 1) f fd ps (liP K pDraw) := by
  refine F.ok Sc (fun vs H Q E ⟨S, M, ds, Q0, c, r, h, _⟩ => ?_) fun cdv A outer s H vs Q E hr ⟨S, M, ds, Q0, c, r, h, post⟩ => ⟨_, (hbody cdv A outer s H E (zOf K H S M) rfl hr).nox, ?_⟩
  · rw [r.length, hps]
    unfold pDraw at h
    split at h
    · rfl
    · exact h.elim
  · unfold pDraw at h
    split at h
    · obtain ⟨⟨hm, h1, h2⟩, h3⟩ := h
      rename_i T n
      obtain ⟨cc, ns, kk, xx, e1, e2, e3, e4⟩ := (c.mu _ hm).2
      have hk : MOk K S H T (.lst [.lst (ns.map D.int), .int kk, .int xx]) := ⟨_, e1, .cons (.lst e2 .ints) (.cons (.int _) (.cons (.int _) .nil))⟩
      have c1 := c.mtell hm hk
      refine ⟨S, _, _, _, start_sim c1 rfl r, hq T n _ ns kk xx (fun r M' => (∃ i : Int, r = .va (.int i) ∧ 0 ≤ i ∧ i < n) ∧ ∃ c' x' : Int, 0 ≤ c' ∧ 0 ≤ x' ∧ M' = mput M T (.lst [.lst (ns.map D.int), .int c', .int x'])) (lookup_mput ⟨_, hm, rfl⟩) e3 e4 h1 h2 fun r c' x' r0 r1 c0 x0 => ⟨⟨r, rfl, r0, r1⟩, c', x', c0, x0, mput_mput _ _ _ _⟩,
        fun ρ' M' S' σ' H' q e sim => ?_, fun _ _ _ _ _ q => q.elim, fun _ _ _ _ _ q => q.elim, fun r M' S' v H' q c' res => ?_⟩
      · obtain ⟨⟨i, e, _⟩, _⟩ := q
        cases e
      · obtain ⟨⟨i, rfl, i0, i1⟩, c2, x2, c0, x0, rfl⟩ := q
        have hm2 : (T, MO.lst [.lst (ns.map D.int), .int c2, .int x2]) ∈ mput M T (.lst [.lst (ns.map D.int), .int c2, .int x2]) := lookup_mem (lookup_mput ⟨_, hm, rfl⟩)
        obtain ⟨xs, k1, k2⟩ := (c'.mu _ hm2).2
        have c3 := c'.mtell (o' := .tape) hm2 (by
          cases k2 with
          | cons a1 a2 =>
            cases a2 with
            | cons b1 b2 =>
              cases b2 with
              | cons d1 d2 =>
                cases d2
                cases b1
                cases d1
                cases a1 with
                | lst w1 w2 => exact ⟨_, ns, c2, x2, k1, by rw [w1, w2.intsV], c0, x0⟩)
        rw [mput_mput, mput_self c.mnd hm] at c3
        exact post v H' _ M S' (h3 i i0 i1) c3 res
    · exact h.elim

/-! ### the law -/
/-- script -> the tape -/
def spTape (K : Fg) : Sp := fun vs H Q _ => ∃ (a : Addr) (ns : List Int), vs = [.ref a] ∧ SqL K H a (ns.map V.int) ∧ ∀ (H' : Hp) (c p : Addr), Same H H' → H c = none → H p = none → p ≠ c → H' c = some (.lst (ns.map V.int)) → H' p = some (.lst [.ref c, .int 0, .int 0]) → Q (.ref p) H'
def spLaw (K : Fg) : Sp := fun vs H Q _ => ∃ (a : Addr) (ns : List Int), vs = [.ref a] ∧ SqL K H a (ns.map V.int) ∧ ∀ H', Q (.bl true) H'
theorem law_P {K : Fg} {N : List Str} {a : Addr} {H : Hp} {ns : List Int} {Q : VK} {q : QS} {t0 : TE} (hN : 2 ≤ N.length)
    (hS : SqL K H a (ns.map V.int)) (hQ : ∀ H', Q (.bl true) H')
    (h0 : ∀ Q' : VK, (∀ (H' : Hp) (c p : Addr), Same H H' → H c = none → H p = none → p ≠ c → H' c = some (.lst (ns.map V.int)) → H' p = some (.lst [.ref c, .int 0, .int 0]) → Q' (.ref p) H') → t0 (L2.start N [.ref a]) H Q')
    (hq : ∀ (T : Addr), q { nx := fun _ _ => False, rt := fun r _ => r = .va (.bl true) } ([Sl.un, .va (.ref T)] ++ List.replicate (N.length - 2) .un) [(T, .tape)]) :
    tSeq (tAsg t0 (gName 1)) (liS (zOf K H (fun _ => none) []) q) { nx := fun _ H' => Q .non H', rt := Q } (L2.start N [.ref a]) H := by
  refine h0 _ fun H' c p e nc np ne hc hp => ?_
  have hS1 : ∀ {b : Addr} {o : HO}, (if b = c then some (HO.lst (ns.map V.int)) else none) = some o → b = c ∧ o = .lst (ns.map V.int) := fun {b o} q => by
    by_cases hb : b = c
    · rw [if_pos hb] at q; cases q; exact ⟨hb, rfl⟩
    · rw [if_neg hb] at q; cases q
  refine ⟨fun b => if b = c then some (.lst (ns.map V.int)) else none, [(p, .tape)], _, _, ⟨⟨⟨fun _ _ q => (by cases q), fun b o q _ => e b o q, fun w hw => ?_, fun b q => ?_⟩, fun b o q => ?_, fun b q => ?_, fun w hw => ?_, by simp, fun _ r => r.elim⟩, ?_, fun i d q => ?_, fun i o q => ?_, fun i j o o' b q => ?_⟩, hq p, fun _ _ _ _ _ q => q.elim, fun _ _ _ _ _ q => q.elim, fun _ _ _ _ _ q => q.elim, fun r M' S' v H'' q c' res => ?_⟩
  · rw [List.mem_singleton.mp hw]; exact .inr np
  · cases k : H b with
    | none => exact absurd k q
    | some o => rw [e b o k]; simp
  · obtain ⟨rfl, rfl⟩ := hS1 q; exact hc
  · cases k : (if b = c then some (HO.lst (ns.map V.int)) else none) with
    | none => exact absurd k q
    | some o => obtain ⟨rfl, _⟩ := hS1 k; exact .inr nc
  · rw [List.mem_singleton.mp hw]
    exact ⟨if_neg ne, c, ns, 0, 0, hp, if_pos rfl, Int.le_refl _, Int.le_refl _⟩
  · unfold L2.start
    simp only [List.length_set, List.length_append, List.length_map, List.length_replicate, List.length_cons, List.length_nil]
    omega
  · match i with
    | 0 => cases q
    | 1 =>
      cases q
      refine ⟨.ref p, ?_, .ref p⟩
      rw [List.getElem?_set_self]
      unfold L2.start
      simp only [List.length_append, List.length_map, List.length_replicate, List.length_cons, List.length_nil]
      omega
    | i + 2 =>
      simp only [List.cons_append, List.nil_append, List.getElem?_cons_succ, List.getElem?_replicate] at q
      split at q <;> cases q
  · match i with
    | 0 => cases q
    | 1 => cases q
    | i + 2 =>
      simp only [List.cons_append, List.nil_append, List.getElem?_cons_succ, List.getElem?_replicate] at q
      split at q <;> cases q
  · match i with
    | 0 => cases q
    | 1 => cases q
    | i + 2 =>
      simp only [List.cons_append, List.nil_append, List.getElem?_cons_succ, List.getElem?_replicate] at q
      split at q <;> cases q
  · subst q
    cases res
    exact hQ H''
end PL
/-! the head's facts, with one more Bool of the written part -/
namespace PL
open PySem PySem.Spec PyProof.Rows L2 He
def obsE (fa : List Fa) (fn : List DefD) (ex : Fg → Bool) (K : Fg) : AlD := (((fa.all fun f => f.ok K) && fn.all fun d => d.ok K) && ex K, fn.map fun d => fnW K d.at_)
structure SaysE (fa : List Fa) (fn : List DefD) (ex : Fg → Bool) (K : Fg) : Prop where
  d : SaysD fa fn K
  x : ex K = true
theorem saysE_of {fa : List Fa} {fn : List DefD} {ex : Fg → Bool} {K : Fg} (h : obsE fa fn ex K = valD fn) : SaysE fa fn ex K := by
  unfold obsE valD at h
  have h1 := (Prod.mk.inj h).1
  have h2 := (Prod.mk.inj h).2
  obtain ⟨a, b⟩ := ba h1
  exact ⟨by unfold SaysD obsD valD; rw [a, h2], b⟩
def obsEG (n : Nat) (fa : List Fa) (fn : List DefD) (ex : Fg → Bool) (g : Addr → Option Obj) : AlD := obsE fa fn ex (frG g (asD g n))
def hookE (n : Nat) (fa : List Fa) (fn : List DefD) (ex : Fg → Bool) : PySem.W.Hook where
  α := AlD
  obs := fun s => obsEG n fa fn ex s.heap.get?
  val := fun _ => valD fn
  says := fun _ h => ∃ K : PySem.W.Frag, K.In h ∧ SaysE fa fn ex K
  of := fun _ _ e => ⟨_, frG_in, saysE_of e⟩
  keeps := fun _ _ _ ⟨K, hK, c⟩ k => ⟨K, PySem.W.Frag.In.keeps hK k, c⟩
theorem obsEG_eq {n : Nat} {fa : List Fa} {fn : List DefD} {ex : Fg → Bool} {g : Addr → Option Obj} {s : Shared} (h : ∀ a, g a = s.heap.get? a) : obsEG n fa fn ex g = (hookE n fa fn ex).obs s := by
  have e : g = s.heap.get? := funext h
  rw [e] <;> rfl
/-! ### tables of the module: tuples of data -/
mutual
def tabB (K : Fg) : Value → D → Bool
  | .none, .non => true
  | .bool b, .bl c => b == c
  | .int i _, .int j => decide (i = j)
  | .str x _, .str y => decide (x = y)
  | .ref a, .tup ds => (match K.lookup a with
    | some ⟨.type c, _, .seq its _, _⟩ => decide (c = "tuple") && (decide (its.size ≤ sizeLine) && tabA K its.toList ds)
    | _ => false)
  | _, _ => false
def tabA (K : Fg) : List Value → List D → Bool
  | [], [] => true
  | v :: vs, d :: ds => tabB K v d && tabA K vs ds
  | _, _ => false
end
section
variable {K : Fg}
mutual
theorem tabB_rp (S : Hp) : ∀ (d : D) (u : Value), tabB K u d = true → ∃ v, RelV v u ∧ Rp K S v d
  | .non, u, h => by cases u <;> first | exact ⟨.non, rfl, .non⟩ | (simp [tabB] at h)
  | .bl c, u, h => by
    cases u <;> first | (simp [tabB] at h; done) | skip
    rename_i b
    simp [tabB] at h
    subst h
    exact ⟨.bl _, rfl, .bl _⟩
  | .int j, u, h => by
    cases u <;> first | (simp [tabB] at h; done) | skip
    rename_i i t
    simp [tabB] at h
    subst h
    exact ⟨.int _, ⟨_, rfl⟩, .int _⟩
  | .str y, u, h => by
    cases u <;> first | (simp [tabB] at h; done) | skip
    rename_i i t
    simp [tabB] at h
    subst h
    exact ⟨.str _, ⟨_, rfl⟩, .str _⟩
  | .lst ds, u, h => by cases u <;> simp [tabB] at h
  | .ref a, u, h => by cases u <;> simp [tabB] at h
  | .ty n, u, h => by cases u <;> simp [tabB] at h
  | .set f n, u, h => by cases u <;> simp [tabB] at h
  | .dic ks ds, u, h => by cases u <;> simp [tabB] at h
  | .tup ds, u, h => by
    cases u <;> first | (simp [tabB] at h; done) | skip
    rename_i a
    rw [tabB] at h
    split at h
    · rename_i c dd its n sl q
      simp only [Bool.and_eq_true, decide_eq_true_eq] at h
      obtain ⟨h1, h2, h3⟩ := h
      obtain ⟨vs, r1, r2⟩ := tabA_rp S ds its.toList h3
      exact ⟨.ref a, rfl, .tup (.inr ⟨_, its, n, q, by rw [h1], rfl, h2, r1⟩) r2⟩
    · cases h
theorem tabA_rp (S : Hp) : ∀ (ds : List D) (us : List Value), tabA K us ds = true → ∃ vs, Vals vs us ∧ RpA K S vs ds
  | [], us, h => by
    cases us with
    | nil => exact ⟨[], .nil, .nil⟩
    | cons => simp [tabA] at h
  | d :: ds, us, h => by
    cases us with
    | nil => simp [tabA] at h
    | cons u us =>
      rw [tabA, Bool.and_eq_true] at h
      obtain ⟨v, a1, a2⟩ := tabB_rp S d u h.1
      obtain ⟨vs, b1, b2⟩ := tabA_rp S ds us h.2
      exact ⟨v :: vs, .cons a1 b1, .cons a2 b2⟩
end
theorem tabB_ok {a : Addr} {d : D} (h : tabB K (.ref a) d = true) (S : Hp) : Rp K S (.ref a) d := by
  obtain ⟨v, r, q⟩ := tabB_rp S d _ h
  cases v with
  | ref b => cases r; exact q
  | non => cases r
  | bl _ => cases r
  | int _ => obtain ⟨_, e⟩ := r; cases e
  | str _ => obtain ⟨_, e⟩ := r; cases e
  | byt _ => obtain ⟨_, e⟩ := r; cases e
  | flt _ => obtain ⟨_, e⟩ := r; cases e
  | ty _ => cases r
end
/-! ### data compared -/
theorem cmpOk_int {i : Int} : cmpOk (.int i) = true := by rfl
theorem cmpOk_bl {i : Bool} : cmpOk (.bl i) = true := by rfl
theorem cmpOk_non : cmpOk .non = true := by rfl
theorem deq_int {i j : Int} : deq (.int i) (.int j) = decide (i = j) := by
  show (i == j) = decide (i = j)
  rw [Bool.beq_eq_decide_eq]
theorem deq_bl {i j : Bool} : deq (.bl i) (.bl j) = decide (i = j) := by
  show (i == j) = decide (i = j)
  rw [Bool.beq_eq_decide_eq]
theorem deq_str {i j : Str} : deq (.str i) (.str j) = decide (i = j) := by
  show (i == j) = decide (i = j)
  rw [Bool.beq_eq_decide_eq]
theorem deq_refl {d : D} (h : cmpOk d = true) : deq d d = true := by
  unfold cmpOk at h
  rw [Bool.and_eq_true] at h
  exact SeqAt.eqv_refl _ (SeqAt.canLay_of_shaped h.2)
theorem isi_non_bool : isInst .non "bool" = some false := by show kitB "NoneType" "bool" = some false; decide +kernel
theorem isi_non_int : isInst .non "int" = some false := by show kitB "NoneType" "int" = some false; decide +kernel
theorem isi_non_str : isInst .non "str" = some false := by show kitB "NoneType" "str" = some false; decide +kernel
theorem isi_non_list : isInst .non "list" = some false := by show kitB "NoneType" "list" = some false; decide +kernel
theorem isi_non_tuple : isInst .non "tuple" = some false := by show kitB "NoneType" "tuple" = some false; decide +kernel
theorem isi_bl_bool {i : Bool} : isInst (.bl i) "bool" = some true := by show kitB "bool" "bool" = some true; decide +kernel
theorem isi_bl_int {i : Bool} : isInst (.bl i) "int" = some true := by show kitB "bool" "int" = some true; decide +kernel
theorem isi_bl_str {i : Bool} : isInst (.bl i) "str" = some false := by show kitB "bool" "str" = some false; decide +kernel
theorem isi_bl_list {i : Bool} : isInst (.bl i) "list" = some false := by show kitB "bool" "list" = some false; decide +kernel
theorem isi_bl_tuple {i : Bool} : isInst (.bl i) "tuple" = some false := by show kitB "bool" "tuple" = some false; decide +kernel
theorem isi_int_bool {i : Int} : isInst (.int i) "bool" = some false := by show kitB "int" "bool" = some false; decide +kernel
theorem isi_int_int {i : Int} : isInst (.int i) "int" = some true := by show kitB "int" "int" = some true; decide +kernel
theorem isi_int_str {i : Int} : isInst (.int i) "str" = some false := by show kitB "int" "str" = some false; decide +kernel
theorem isi_int_list {i : Int} : isInst (.int i) "list" = some false := by show kitB "int" "list" = some false; decide +kernel
theorem isi_int_tuple {i : Int} : isInst (.int i) "tuple" = some false := by show kitB "int" "tuple" = some false; decide +kernel
theorem isi_str_bool {i : Str} : isInst (.str i) "bool" = some false := by show kitB "str" "bool" = some false; decide +kernel
theorem isi_str_int {i : Str} : isInst (.str i) "int" = some false := by show kitB "str" "int" = some false; decide +kernel
theorem isi_str_str {i : Str} : isInst (.str i) "str" = some true := by show kitB "str" "str" = some true; decide +kernel
theorem isi_str_list {i : Str} : isInst (.str i) "list" = some false := by show kitB "str" "list" = some false; decide +kernel
theorem isi_str_tuple {i : Str} : isInst (.str i) "tuple" = some false := by show kitB "str" "tuple" = some false; decide +kernel
theorem isi_lst_bool {i : List D} : isInst (.lst i) "bool" = some false := by show kitB "list" "bool" = some false; decide +kernel
theorem isi_lst_int {i : List D} : isInst (.lst i) "int" = some false := by show kitB "list" "int" = some false; decide +kernel
theorem isi_lst_str {i : List D} : isInst (.lst i) "str" = some false := by show kitB "list" "str" = some false; decide +kernel
theorem isi_lst_list {i : List D} : isInst (.lst i) "list" = some true := by show kitB "list" "list" = some true; decide +kernel
theorem isi_lst_tuple {i : List D} : isInst (.lst i) "tuple" = some false := by show kitB "list" "tuple" = some false; decide +kernel
theorem isi_tup_bool {i : List D} : isInst (.tup i) "bool" = some false := by show kitB "tuple" "bool" = some false; decide +kernel
theorem isi_tup_int {i : List D} : isInst (.tup i) "int" = some false := by show kitB "tuple" "int" = some false; decide +kernel
theorem isi_tup_str {i : List D} : isInst (.tup i) "str" = some false := by show kitB "tuple" "str" = some false; decide +kernel
theorem isi_tup_list {i : List D} : isInst (.tup i) "list" = some false := by show kitB "tuple" "list" = some false; decide +kernel
theorem isi_tup_tuple {i : List D} : isInst (.tup i) "tuple" = some true := by show kitB "tuple" "tuple" = some true; decide +kernel
/-- may be compared: how deep -/
def Ck (n : Nat) (d : D) : Prop := isPure d = true ∧ (toPy d).canLay0 = true ∧ (toPy d).depth ≤ n
def CkA (n : Nat) (ds : List D) : Prop := isPureA ds = true ∧ PyData.canLayAll0 (toPyA ds) = true ∧ PyData.depthAll (toPyA ds) ≤ n
theorem cmpOk_iff {d : D} : cmpOk d = true ↔ Ck 64 d := by
  unfold cmpOk Ck SeqAt.shaped
  simp only [Bool.and_eq_true, decide_eq_true_eq]
theorem ckA_iff {n : Nat} : ∀ {ds : List D}, CkA n ds ↔ ∀ d ∈ ds, Ck n d
  | [] => ⟨fun _ _ h => (by simp at h), fun _ => ⟨rfl, rfl, Nat.zero_le _⟩⟩
  | d :: ds => by
    have ih := ckA_iff (n := n) (ds := ds)
    unfold CkA at ih ⊢
    unfold Ck at ih ⊢
    simp only [isPureA, toPyA, PyData.canLayAll0, PyData.depthAll, Bool.and_eq_true, Nat.max_le, List.mem_cons, forall_eq_or_imp]
    rw [← ih]
    constructor
    · rintro ⟨⟨a, b⟩, ⟨c, e⟩, f, g⟩; exact ⟨⟨a, c, f⟩, b, e, g⟩
    · rintro ⟨⟨a, c, f⟩, b, e, g⟩; exact ⟨⟨a, b⟩, ⟨c, e⟩, f, g⟩
theorem ck_lst {n : Nat} {ds : List D} : Ck (n + 1) (.lst ds) ↔ ∀ d ∈ ds, Ck n d := by
  rw [← ckA_iff]
  unfold Ck CkA
  simp only [isPure, toPy, PyData.canLay0, PyData.depth, Nat.add_le_add_iff_right]
theorem ck_tup {n : Nat} {ds : List D} : Ck (n + 1) (.tup ds) ↔ ∀ d ∈ ds, Ck n d := by
  rw [← ckA_iff]
  unfold Ck CkA
  simp only [isPure, toPy, PyData.canLay0, PyData.depth, Nat.add_le_add_iff_right]
theorem ck_int {n : Nat} {i : Int} : Ck n (.int i) := ⟨rfl, rfl, Nat.zero_le _⟩
theorem ck_bl {n : Nat} {i : Bool} : Ck n (.bl i) := ⟨rfl, rfl, Nat.zero_le _⟩
theorem ck_non {n : Nat} : Ck n .non := ⟨rfl, rfl, Nat.zero_le _⟩
theorem ck_str {n : Nat} {x : Str} (h : PyData.strOk x = true) : Ck n (.str x) := ⟨rfl, by simpa [toPy, PyData.canLay0] using h, by simp [toPy, PyData.depth]⟩
theorem Ck.mono {n m : Nat} {d : D} (h : Ck n d) (k : n ≤ m) : Ck m d := ⟨h.1, h.2.1, Nat.le_trans h.2.2 k⟩
theorem cmpOk_of {n : Nat} {d : D} (h : Ck n d) (k : n ≤ 64 := by decide) : cmpOk d = true := cmpOk_iff.mpr (h.mono k)
theorem ck_intsA {n : Nat} {ns : List Int} : ∀ d ∈ ns.map D.int, Ck n d := fun d h => by
  obtain ⟨i, _, rfl⟩ := List.mem_map.mp h
  exact ck_int
theorem cmpOk_ints {ns : List Int} : cmpOk (.lst (ns.map D.int)) = true := cmpOk_of (n := 1) (ck_lst.mpr ck_intsA)
theorem cmpOk_intsT {ns : List Int} : cmpOk (.tup (ns.map D.int)) = true := cmpOk_of (n := 1) (ck_tup.mpr ck_intsA)
def deqA : List D → List D → Bool
  | [], [] => true
  | x :: xs, y :: ys => deq x y && deqA xs ys
  | _, _ => false
theorem deqA_eq : ∀ xs ys : List D, PyData.eqvAll (toPyA xs) (toPyA ys) = deqA xs ys
  | [], [] => by simp [toPyA, PyData.eqvAll, deqA]
  | [], _ :: _ => by simp [toPyA, PyData.eqvAll, deqA]
  | _ :: _, [] => by simp [toPyA, PyData.eqvAll, deqA]
  | x :: xs, y :: ys => by simp [toPyA, PyData.eqvAll, deqA, deqA_eq xs ys, deq]
theorem deq_tup {xs ys : List D} : deq (.tup xs) (.tup ys) = deqA xs ys := by
  unfold deq
  rw [toPy, toPy, PyData.eqv, deqA_eq]
theorem deq_lst {xs ys : List D} : deq (.lst xs) (.lst ys) = deqA xs ys := by
  unfold deq
  rw [toPy, toPy, PyData.eqv, deqA_eq]
theorem deqA_nil : deqA [] [] = true := rfl
theorem deqA_cons {x y : D} {xs ys : List D} : deqA (x :: xs) (y :: ys) = (deq x y && deqA xs ys) := rfl
theorem deqA_ints : ∀ {ns ms : List Int}, deqA (ns.map D.int) (ms.map D.int) = decide (ns = ms)
  | [], [] => by simp [deqA]
  | [], _ :: _ => by simp [deqA]
  | _ :: _, [] => by simp [deqA]
  | n :: ns, m :: ms => by
    rw [List.map_cons, List.map_cons, deqA_cons, deqA_ints, deq_int]
    by_cases h : n = m <;> by_cases h2 : ns = ms <;> simp [h, h2]
theorem deq_ints {ns ms : List Int} : deq (.lst (ns.map D.int)) (.lst (ms.map D.int)) = decide (ns = ms) := by rw [deq_lst, deqA_ints]
theorem deq_intsT {ns ms : List Int} : deq (.tup (ns.map D.int)) (.tup (ms.map D.int)) = decide (ns = ms) := by rw [deq_tup, deqA_ints]
/-! ### readings opened -/
theorem get0 {a : Sl} {l : Ev} : (a :: l)[0]? = some a := rfl
theorem getS {a : Sl} {l : Ev} {n : Nat} : (a :: l)[n + 1]? = l[n]? := by simp
theorem atI0 {d : D} {ds : List D} : atI (d :: ds) 0 = some d := by
  unfold atI ixN
  rw [if_pos (Int.le_refl _), if_pos (by simp)]
  rfl
theorem atI_one {a d : D} {ds : List D} : atI (a :: d :: ds) 1 = some d := by
  unfold atI ixN
  rw [if_pos (by decide), if_pos (by simp only [List.length_cons]; omega)]
  rfl
theorem atI1 {a d : D} {ds : List D} : atI (a :: d :: ds) 1 = some d := atI_one
theorem atI2 {a b d : D} {ds : List D} : atI (a :: b :: d :: ds) 2 = some d := by
  unfold atI ixN
  rw [if_pos (by decide), if_pos (by simp only [List.length_cons]; omega)]
  rfl
theorem atI3 {a b c d : D} {ds : List D} : atI (a :: b :: c :: d :: ds) 3 = some d := by
  unfold atI ixN
  rw [if_pos (by decide), if_pos (by simp only [List.length_cons]; omega)]
  rfl
theorem atI4 {a b c e d : D} {ds : List D} : atI (a :: b :: c :: e :: d :: ds) 4 = some d := by
  unfold atI ixN
  rw [if_pos (by decide), if_pos (by simp only [List.length_cons]; omega)]
  rfl
theorem atI_nn {ds : List D} {i : Int} {d : D} (h0 : 0 ≤ i) (h : ds[i.toNat]? = some d) : atI ds i = some d := by
  unfold atI ixN
  have hl := (List.getElem?_eq_some_iff.mp h).1
  rw [if_pos h0, if_pos (by omega)]
  exact h
theorem isInst_bool {d : D} (h : cmpOk d = true) : isInst d "bool" = some (match d with | .bl _ => true | _ => false) := by
  cases d with
  | ref a => cases h
  | ty a => cases h
  | set f n => cases h
  | dic ks ds => cases h
  | non => exact isi_non_bool
  | bl b => exact isi_bl_bool
  | int b => exact isi_int_bool
  | str b => exact isi_str_bool
  | tup b => exact isi_tup_bool
  | lst b => exact isi_lst_bool
theorem isInst_int {d : D} (h : cmpOk d = true) : isInst d "int" = some (match d with | .bl _ => true | .int _ => true | _ => false) := by
  cases d with
  | ref a => cases h
  | ty a => cases h
  | set f n => cases h
  | dic ks ds => cases h
  | non => exact isi_non_int
  | bl b => exact isi_bl_int
  | int b => exact isi_int_int
  | str b => exact isi_str_int
  | tup b => exact isi_tup_int
  | lst b => exact isi_lst_int
theorem isInst_str {d : D} (h : cmpOk d = true) : isInst d "str" = some (match d with | .str _ => true | _ => false) := by
  cases d with
  | ref a => cases h
  | ty a => cases h
  | set f n => cases h
  | dic ks ds => cases h
  | non => exact isi_non_str
  | bl b => exact isi_bl_str
  | int b => exact isi_int_str
  | str b => exact isi_str_str
  | tup b => exact isi_tup_str
  | lst b => exact isi_lst_str
theorem isInst_tuple {d : D} (h : cmpOk d = true) : isInst d "tuple" = some (match d with | .tup _ => true | _ => false) := by
  cases d with
  | ref a => cases h
  | ty a => cases h
  | set f n => cases h
  | dic ks ds => cases h
  | non => exact isi_non_tuple
  | bl b => exact isi_bl_tuple
  | int b => exact isi_int_tuple
  | str b => exact isi_str_tuple
  | tup b => exact isi_tup_tuple
  | lst b => exact isi_lst_tuple
theorem isInst_list {d : D} (h : cmpOk d = true) : isInst d "list" = some (match d with | .lst _ => true | _ => false) := by
  cases d with
  | ref a => cases h
  | ty a => cases h
  | set f n => cases h
  | dic ks ds => cases h
  | non => exact isi_non_list
  | bl b => exact isi_bl_list
  | int b => exact isi_int_list
  | str b => exact isi_str_list
  | tup b => exact isi_tup_list
  | lst b => exact isi_lst_list
theorem ixN31 : ixN 3 1 = some 1 := rfl
theorem ixN32 : ixN 3 2 = some 2 := rfl
theorem sFor_i {qi : QA} {g : QG} {tb : QS} {D' : QK} {ρ : Ev} {M : Mu} (I : Nat → Ev → Mu → Prop) (ds : List D) (h : ∀ Q : List D → Ev → Mu → Prop, Q ds ρ M → qi ρ M Q) (h0 : I 0 ρ M)
    (hs : ∀ i d ρ M, ds[i]? = some d → I i ρ M → g d ρ fun ρ2 => tb { nx := I (i + 1), ct := I (i + 1), bk := D'.nx, rt := D'.rt } ρ2 M) (hn : ∀ ρ M, I ds.length ρ M → D'.nx ρ M) : sFor qi g tb D' ρ M := h _ ⟨I, h0, hs, hn⟩
theorem at_lit (P : D → Prop) {ds : List D} {r : Int} (h0 : 0 ≤ r) (h1 : r < ds.length) (h : ∀ d ∈ ds, P d) : ∃ d, atI ds r = some d ∧ P d := by
  have h2 : r.toNat < ds.length := by omega
  exact ⟨ds[r.toNat], atI_nn h0 (List.getElem?_eq_getElem h2), h _ (List.getElem_mem h2)⟩
/-- a whole number within bounds -/
def InB (a b : Int) (d : D) : Prop := ∃ v, d = .int v ∧ a ≤ v ∧ v ≤ b
theorem InB.mk {a b v : Int} (h1 : a ≤ v) (h2 : v ≤ b) : InB a b (.int v) := ⟨v, rfl, h1, h2⟩
theorem at_int (a b : Int) {ds : List D} {r : Int} (h0 : 0 ≤ r) (h1 : r < ds.length) (h : ∀ d ∈ ds, InB a b d) : ∃ v, atI ds r = some (.int v) ∧ a ≤ v ∧ v ≤ b := by
  obtain ⟨d, e, v, rfl, h2⟩ := at_lit (InB a b) h0 h1 h
  exact ⟨v, e, h2⟩
/-- a whole number of a list, with something known of it -/
theorem at_intP (P : Int → Prop) {ds : List D} {r : Int} (h0 : 0 ≤ r) (h1 : r < ds.length) (h : ∀ d ∈ ds, ∃ v, d = .int v ∧ P v) : ∃ v, atI ds r = some (.int v) ∧ P v := by
  obtain ⟨d, e, v, rfl, h2⟩ := at_lit (fun d => ∃ v, d = .int v ∧ P v) h0 h1 h
  exact ⟨v, e, h2⟩
theorem sSeq_i {t u : QS} {D' : QK} {ρ : Ev} {M : Mu} (h : ∀ N : Ev → Mu → Prop, (∀ ρ M, u D' ρ M → N ρ M) → t { D' with nx := N } ρ M) : sSeq t u D' ρ M := h _ fun _ _ h => h
end PL
namespace PL
open PySem PySem.Spec PyProof.Rows L2
/-- a comprehension that picks and maps, without effect -/
theorem eLc_fm {qi : QA} {g : QG} {qt : QT} {qe : QE} {vs : List Nat} {ρ : Ev} {M : Mu} {Q : Sl → Ev → Mu → Prop} (h : D → Option D) (ds : List D)
    (hq : ∀ Q : List D → Ev → Mu → Prop, Q ds ρ M → qi ρ M Q) (hv : notOw ρ vs = true) (hl : ds.length < 16777216)
    (hs : ∀ (i : Nat) (d : D) (acc : List D) (J : List D → Mu → Prop), ds[i]? = some d → acc.length < 16777216 → J (acc ++ (h d).toList) M → g d (wipeE ρ vs) fun ρ2 => wipeE ρ2 vs = wipeE ρ vs ∧ qt ρ2 M fun b ρ3 M3 => ρ3 = ρ2 ∧
      (if b = true then qe ρ3 M3 fun r ρ4 M4 => ρ4 = ρ3 ∧ acc.length < 16777216 ∧ J (acc ++ [r.val]) M4 else J acc M3))
    (hk : Q (.ow (.lst (ds.filterMap h))) ρ M) : eLc qi g qt qe vs ρ M Q := by
  refine hq _ ⟨hv, fun i acc M' => M' = M ∧ acc = (ds.take i).filterMap h ∧ i ≤ ds.length, ⟨rfl, rfl, Nat.zero_le _⟩, ?_, ?_⟩
  · rintro i d acc M' hd ⟨rfl, rfl, hi⟩
    have hlt : i < ds.length := by
      rcases Nat.lt_or_ge i ds.length with w | w
      · exact w
      · rw [List.getElem?_eq_none w] at hd; cases hd
    have ht : ds.take (i + 1) = ds.take i ++ [d] := by rw [List.take_add_one, hd]; rfl
    have hlen : ((ds.take i).filterMap h).length < 16777216 := by
      have h1 := List.length_filterMap_le h (ds.take i)
      rw [List.length_take] at h1
      omega
    refine hs i d _ (fun acc M2 => M2 = M' ∧ acc = (ds.take (i + 1)).filterMap h ∧ i + 1 ≤ ds.length) hd hlen ⟨rfl, ?_, by omega⟩
    rw [ht, List.filterMap_append]
    cases e : h d <;> simp [e]
  · rintro acc M' ⟨rfl, rfl, _⟩
    rw [List.take_length]
    exact hk
theorem rangeL_nil {lo hi : Int} (h : hi ≤ lo) : rangeL lo hi = [] := by
  unfold rangeL
  rw [show (hi - lo).toNat = 0 by omega]
  rfl
theorem rangeL_cons {lo hi : Int} (h : lo < hi) : rangeL lo hi = .int lo :: rangeL (lo + 1) hi := by
  unfold rangeL
  rw [show (hi - lo).toNat = (hi - (lo + 1)).toNat + 1 by omega, List.range_succ_eq_map, List.map_cons, List.map_map]
  congr 1
  · simp
  · refine List.map_congr_left fun k _ => ?_
    simp only [Function.comp]
    congr 1
    omega
/-- the whole numbers from lo that are less than hi -/
def rgI (lo hi : Int) : List Int := (List.range (hi - lo).toNat).map fun (k : Nat) => lo + (k : Int)
theorem rangeL_rgI (lo hi : Int) : rangeL lo hi = (rgI lo hi).map D.int := by
  unfold rangeL rgI
  rw [List.map_map]
  rfl
theorem rgI_len (lo hi : Int) : (rgI lo hi).length = (hi - lo).toNat := by unfold rgI; rw [List.length_map, List.length_range]
theorem rgI_mem {lo hi n : Int} : n ∈ rgI lo hi ↔ lo ≤ n ∧ n < hi := by
  unfold rgI
  rw [List.mem_map]
  constructor
  · rintro ⟨k, h, rfl⟩
    have := List.mem_range.mp h
    omega
  · intro h
    exact ⟨(n - lo).toNat, List.mem_range.mpr (by omega), by omega⟩
theorem rgI_get {lo hi : Int} {i : Nat} {n : Int} (h : (rgI lo hi)[i]? = some n) : n = lo + i ∧ i < (hi - lo).toNat := by
  unfold rgI at h
  rw [List.getElem?_map] at h
  cases e : (List.range (hi - lo).toNat)[i]? with
  | none => rw [e] at h; cases h
  | some k =>
    rw [e] at h
    have h : lo + (k : Int) = n := Option.some.inj h
    obtain ⟨h1, h2⟩ := List.getElem?_eq_some_iff.mp e
    rw [List.getElem_range] at h2
    rw [List.length_range] at h1
    omega
theorem rgI_nil {lo hi : Int} (h : hi ≤ lo) : rgI lo hi = [] := by
  unfold rgI
  rw [show (hi - lo).toNat = 0 by omega]
  rfl
theorem rgI_cons {lo hi : Int} (h : lo < hi) : rgI lo hi = lo :: rgI (lo + 1) hi := by
  unfold rgI
  rw [show (hi - lo).toNat = (hi - (lo + 1)).toNat + 1 by omega, List.range_succ_eq_map, List.map_cons, List.map_map]
  congr 1
  · simp
  · refine List.map_congr_left fun k _ => ?_
    simp only [Function.comp]
    omega
theorem rgI_filter {P : Int → Prop} [DecidablePred P] {lo hi a b : Int} (h : ∀ n, lo ≤ n → n < hi → (P n ↔ a ≤ n ∧ n < b)) (ha : lo ≤ a) (hb : b ≤ hi) : (rgI lo hi).filter (fun n => decide (P n)) = rgI a b := by
  generalize hk : (hi - lo).toNat = k
  induction k generalizing lo a with
  | zero =>
    rw [rgI_nil (show hi ≤ lo by omega), rgI_nil (show b ≤ a by omega)]
    rfl
  | succ k ih =>
    rw [rgI_cons (show lo < hi by omega), List.filter_cons]
    have hP := h lo (Int.le_refl _) (by omega)
    by_cases e : P lo
    · have := hP.mp e
      have ea : a = lo := by omega
      subst ea
      rw [if_pos (by simp [e]), rgI_cons (show a < b by omega)]
      congr 1
      refine ih (fun n h1 h2 => ?_) (Int.le_refl _) (by omega)
      rw [h n (by omega) h2]
      omega
    · rw [if_neg (by simp [e])]
      by_cases hl : a = lo
      · have hab : b ≤ a := by
          rcases Int.lt_or_le a b with w | w
          · exact absurd (hP.mpr (by omega)) e
          · exact w
        rw [ih (a := a + 1) (fun n h1 h2 => by rw [h n (by omega) h2]; omega) (by omega) (by omega), rgI_nil (show b ≤ a + 1 by omega), rgI_nil hab]
      · exact ih (fun n h1 h2 => h n (by omega) h2) (by omega) (by omega)
/-- what a comprehension over whole numbers picks, when it keeps the number -/
def pickI (P : Int → Prop) [DecidablePred P] : D → Option D
  | .int n => if P n then some (.int n) else none
  | _ => none
theorem pickI_map (P : Int → Prop) [DecidablePred P] : ∀ ns : List Int, (ns.map D.int).filterMap (pickI P) = (ns.filter fun n => decide (P n)).map D.int
  | [] => rfl
  | n :: ns => by
    rw [List.map_cons, List.filterMap_cons, List.filter_cons, pickI_map P ns]
    unfold pickI
    by_cases e : P n
    · simp [e]
    · simp [e]
theorem cmpOk_rangeL {a b : Int} : cmpOk (.lst (rangeL a b)) = true := by rw [rangeL_rgI]; exact cmpOk_ints
def chS (r : Sl) (A B : Prop) : Prop := match r with
  | .va (.bl true) => A
  | .va (.bl false) => B
  | _ => False
theorem chS_dec {p : Prop} [Decidable p] {A B : Prop} : chS (.va (.bl (decide p))) A B = (if p then A else B) := by
  by_cases h : p
  · rw [if_pos h, decide_eq_true h]; rfl
  · rw [if_neg h, decide_eq_false h]; rfl
theorem chS_true {A B : Prop} : chS (.va (.bl true)) A B = A := rfl
theorem chS_false {A B : Prop} : chS (.va (.bl false)) A B = B := rfl
theorem eChain_eq {od od' : OD} {qa qb qc : QB} : eChain od od' qa qb qc = fun ρ M Q => qa ρ M fun d1 ρ1 M1 => qb ρ1 M1 fun d2 ρ2 M2 => od d1 d2 fun r => chS r (qc ρ2 M2 fun d3 ρ3 M3 => od' d2 d3 fun r => Q r ρ3 M3) (Q (.va (.bl false)) ρ2 M2) := by
  rfl
theorem wipeE_nil {ρ : Ev} : wipeE ρ [] = ρ := rfl
theorem wipeE_cons {ρ : Ev} {v : Nat} {vs : List Nat} : wipeE ρ (v :: vs) = (wipeE ρ vs).set v .un := rfl
theorem pickI_t {P : Int → Prop} [DecidablePred P] {n : Int} (h : P n) : pickI P (.int n) = some (.int n) := if_pos h
theorem pickI_f {P : Int → Prop} [DecidablePred P] {n : Int} (h : ¬ P n) : pickI P (.int n) = none := if_neg h
/-- what a picking comprehension's turn asks -/
theorem pickI_J {P : Int → Prop} [DecidablePred P] {n : Int} {acc : List D} {J : List D → Mu → Prop} {M : Mu} (hl : acc.length < 16777216) (h : J (acc ++ (pickI P (.int n)).toList) M) : if P n then acc.length < 16777216 ∧ J (acc ++ [D.int n]) M else J acc M := by
  by_cases e : P n
  · rw [if_pos e]; rw [pickI_t e] at h; exact ⟨hl, h⟩
  · rw [if_neg e]; rw [pickI_f e] at h; simpa using h
end PL
namespace PL
open PySem PySem.Spec PyProof.Rows L2
/-! ### comparing literal data -/
def CkAl (n : Nat) (ds : List D) : Prop := ∀ d ∈ ds, Ck n d
theorem ckAl_nil {n : Nat} : CkAl n [] := fun _ h => (by cases h)
theorem ckAl_cons {n : Nat} {d : D} {ds : List D} : CkAl n (d :: ds) ↔ Ck n d ∧ CkAl n ds := by unfold CkAl; simp
theorem ckAl_ints {n : Nat} {ns : List Int} : CkAl n (ns.map D.int) := ck_intsA
theorem ckAl_rangeL {n : Nat} {a b : Int} : CkAl n (rangeL a b) := by rw [rangeL_rgI]; exact ck_intsA
theorem cmpOk_lstA {ds : List D} : cmpOk (.lst ds) = true ↔ CkAl 63 ds := cmpOk_iff.trans ck_lst
theorem cmpOk_tupA {ds : List D} : cmpOk (.tup ds) = true ↔ CkAl 63 ds := cmpOk_iff.trans ck_tup
theorem ckA_lst {n : Nat} {ds : List D} : Ck (n + 1) (.lst ds) ↔ CkAl n ds := ck_lst
theorem ckA_tup {n : Nat} {ds : List D} : Ck (n + 1) (.tup ds) ↔ CkAl n ds := ck_tup
theorem cmpOk_str {x : Str} : cmpOk (.str x) = true ↔ PyData.strOk x = true := by
  rw [cmpOk_iff]
  constructor
  · intro h
    have := h.2.1
    simpa [toPy, PyData.canLay0] using this
  · exact ck_str
theorem ck_strI {n : Nat} {x : Str} : Ck n (.str x) ↔ PyData.strOk x = true := ⟨fun h => by simpa [toPy, PyData.canLay0] using h.2.1, ck_str⟩
theorem decEq_self {α : Type} [DecidableEq α] (a : α) : decide (a = a) = true := decide_eq_true rfl
theorem chS_bl {b : Bool} {A B : Prop} : chS (.va (.bl b)) A B = (if b = true then A else B) := by cases b <;> rfl
theorem eAnd_eq {qa qb : QE} : eAnd qa qb = fun ρ M Q => qa ρ M fun r ρ1 M1 => chS r (qb ρ1 M1 Q) (Q (.va (.bl false)) ρ1 M1) := rfl
theorem eOr_eq {qa qb : QE} : eOr qa qb = fun ρ M Q => qa ρ M fun r ρ1 M1 => chS r (Q (.va (.bl true)) ρ1 M1) (qb ρ1 M1 Q) := by
  unfold eOr
  funext ρ M Q
  congr 1
  funext r ρ1 M1
  unfold chS
  split <;> first | rfl | (split <;> first | rfl | (rename_i a b c; cases b) | skip)
  all_goals first | rfl | contradiction | skip
/-- a statement that is never come to -/
def sNever : QS := fun _ _ _ => False
theorem qs_never {X : Cx} {z : Z} {s : Stmt} : PS X s (liS z sNever) := by
  constructor
  intro pins s2 σ H Q I h
  obtain ⟨_, _, _, _, _, h, _⟩ := h
  exact h.elim
/-- a comprehension that picks and maps, without effect -/
theorem eLc_fmj {qi : QA} {g : QG} {qt : QT} {qe : QE} {vs : List Nat} {ρ0 : Ev} {M0 : Mu} {Q : Sl → Ev → Mu → Prop} (h : D → Option D) (ds : List D) (ρ : Ev) (M : Mu)
    (hq : ∀ Q : List D → Ev → Mu → Prop, Q ds ρ M → qi ρ0 M0 Q) (hv : notOw ρ vs = true) (hl : ds.length < 16777216)
    (hs : ∀ (i : Nat) (d : D) (acc : List D) (J : List D → Mu → Prop), ds[i]? = some d → acc.length < 16777216 → J (acc ++ (h d).toList) M → g d (wipeE ρ vs) fun ρ2 => wipeE ρ2 vs = wipeE ρ vs ∧ qt ρ2 M fun b ρ3 M3 => ρ3 = ρ2 ∧
      (if b = true then qe ρ3 M3 fun r ρ4 M4 => ρ4 = ρ3 ∧ acc.length < 16777216 ∧ J (acc ++ [r.val]) M4 else J acc M3))
    (hk : Q (.ow (.lst (ds.filterMap h))) ρ M) : eLc qi g qt qe vs ρ0 M0 Q := by
  refine hq _ ⟨hv, fun i acc M' => M' = M ∧ acc = (ds.take i).filterMap h ∧ i ≤ ds.length, ⟨rfl, rfl, Nat.zero_le _⟩, ?_, ?_⟩
  · rintro i d acc M' hd ⟨rfl, rfl, hi⟩
    have hlt : i < ds.length := by
      rcases Nat.lt_or_ge i ds.length with w | w
      · exact w
      · rw [List.getElem?_eq_none w] at hd; cases hd
    have ht : ds.take (i + 1) = ds.take i ++ [d] := by rw [List.take_add_one, hd]; rfl
    have hlen : ((ds.take i).filterMap h).length < 16777216 := by
      have h1 := List.length_filterMap_le h (ds.take i)
      rw [List.length_take] at h1
      omega
    refine hs i d _ (fun acc M2 => M2 = M' ∧ acc = (ds.take (i + 1)).filterMap h ∧ i + 1 ≤ ds.length) hd hlen ⟨rfl, ?_, by omega⟩
    rw [ht, List.filterMap_append]
    cases e : h d <;> simp [e]
  · rintro acc M' ⟨rfl, rfl, _⟩
    rw [List.take_length]
    exact hk
theorem sFor_j {qi : QA} {g : QG} {tb : QS} {D' : QK} {ρ0 : Ev} {M0 : Mu} (I : Nat → Ev → Mu → Prop) (ds : List D) (ρ : Ev) (M : Mu) (h : ∀ Q : List D → Ev → Mu → Prop, Q ds ρ M → qi ρ0 M0 Q) (h0 : I 0 ρ M)
    (hs : ∀ i d ρ M, ds[i]? = some d → I i ρ M → g d ρ fun ρ2 => tb { nx := I (i + 1), ct := I (i + 1), bk := D'.nx, rt := D'.rt } ρ2 M) (hn : ∀ ρ M, I ds.length ρ M → D'.nx ρ M) : sFor qi g tb D' ρ0 M0 := h _ ⟨I, h0, hs, hn⟩
def mapI (f : Int → Int) : D → Option D
  | .int n => some (.int (f n))
  | _ => none
theorem mapI_map (f : Int → Int) : ∀ ns : List Int, (ns.map D.int).filterMap (mapI f) = (ns.map f).map D.int
  | [] => rfl
  | n :: ns => by
    rw [List.map_cons, List.filterMap_cons, List.map_cons, mapI_map f ns]
    rfl
theorem at_ints {ns : List Int} {i : Int} (h0 : 0 ≤ i) (h1 : i < ns.length) : ∃ v, ns[i.toNat]? = some v ∧ atI (ns.map D.int) i = some (.int v) := by
  have h2 : i.toNat < ns.length := by omega
  refine ⟨ns[i.toNat], List.getElem?_eq_getElem h2, atI_nn h0 ?_⟩
  rw [List.getElem?_map, List.getElem?_eq_getElem h2]
  rfl
theorem ints_get {ns : List Int} {i : Nat} {d : D} (h : (ns.map D.int)[i]? = some d) : ∃ v, d = .int v ∧ ns[i]? = some v := by
  rw [List.getElem?_map] at h
  cases e : ns[i]? with
  | none => rw [e] at h; cases h
  | some v => rw [e] at h; exact ⟨v, (Option.some.inj h).symm, rfl⟩
theorem rgI_getI {lo hi i : Int} (h0 : 0 ≤ i) (h1 : i < hi - lo) : atI ((rgI lo hi).map D.int) i = some (.int (lo + i)) := by
  obtain ⟨v, e, e2⟩ := at_ints (ns := rgI lo hi) h0 (by rw [rgI_len]; omega)
  have := (rgI_get e).1
  rw [e2]
  congr 2
  omega
theorem rgI_shift {f : Int} {l : Int} : (rgI 0 l).map (fun k => f + k) = rgI f (f + l) := by
  unfold rgI
  rw [List.map_map, show (f + l - f).toNat = (l - 0).toNat by omega]
  refine List.map_congr_left fun k _ => ?_
  simp only [Function.comp]
  omega
end PL
namespace PL
open PySem PySem.Spec PyProof.Rows L2
theorem intsOf_ints : ∀ ns : List Int, intsOf (ns.map D.int) = some ns
  | [] => rfl
  | n :: ns => by
    rw [List.map_cons]
    unfold intsOf
    rw [intsOf_ints ns]
    rfl
theorem boolsOf_bls : ∀ ns : List Bool, boolsOf (ns.map D.bl) = some ns
  | [] => rfl
  | n :: ns => by
    rw [List.map_cons]
    unfold boolsOf
    rw [boolsOf_bls ns]
    rfl
theorem plAnyI {a : Int} : ∀ ns : List Int, ((ns.map D.int).any fun x => deq x (.int a)) = decide (a ∈ ns)
  | [] => by simp
  | n :: ns => by
    rw [List.map_cons, List.any_cons, plAnyI ns, deq_int, Bool.eq_iff_iff]
    simp only [Bool.or_eq_true, decide_eq_true_eq, List.mem_cons]
    rw [show (n = a) = (a = n) from propext ⟨Eq.symm, Eq.symm⟩]
theorem plAnyR {lo hi a : Int} : ((rangeL lo hi).any fun x => deq x (.int a)) = decide (lo ≤ a ∧ a < hi) := by
  rw [rangeL_rgI, plAnyI, Bool.eq_iff_iff]
  simp [rgI_mem]
/-- strictly ascending -/
abbrev Asc (ns : List Int) : Prop := ns.Pairwise (· < ·)
/-- how many are below -/
def cntL (ns : List Int) (r : Int) : Int := ((ns.filter fun n => decide (n < r)).length : Nat)
theorem asc_of {ms : List Int} (h : ms.Pairwise (· ≤ ·)) (n : ms.Nodup) : Asc ms := by
  have := List.Pairwise.and h n
  exact this.imp fun ⟨a, b⟩ => by omega
theorem Asc.get {ns : List Int} (h : Asc ns) {i j : Nat} {a b : Int} (hij : i < j) (ha : ns[i]? = some a) (hb : ns[j]? = some b) : a < b := by
  obtain ⟨h1, rfl⟩ := List.getElem?_eq_some_iff.mp ha
  obtain ⟨h2, rfl⟩ := List.getElem?_eq_some_iff.mp hb
  exact List.pairwise_iff_getElem.mp h i j h1 h2 hij
/-- the place among ascending ones -/
theorem cntL_at {ns : List Int} (h : Asc ns) {k : Nat} {r : Int} (hk : k ≤ ns.length) (h1 : ∀ i v, i < k → ns[i]? = some v → v < r) (h2 : ∀ i v, k ≤ i → ns[i]? = some v → r ≤ v) : cntL ns r = k := by
  unfold cntL
  have e : ns.filter (fun n => decide (n < r)) = ns.take k := by
    conv => lhs; rw [← List.take_append_drop k ns]
    rw [List.filter_append, List.filter_eq_self.mpr, List.filter_eq_nil_iff.mpr, List.append_nil]
    · intro v hv
      obtain ⟨i, hi, rfl⟩ := List.mem_iff_getElem.mp hv
      rw [List.getElem_drop]
      have := h2 (k + i) _ (by omega) (List.getElem?_eq_getElem (by rw [List.length_drop] at hi; omega))
      simp; omega
    · intro v hv
      obtain ⟨i, hi, rfl⟩ := List.mem_iff_getElem.mp hv
      rw [List.getElem_take]
      have := h1 i _ (by rw [List.length_take] at hi; omega) (List.getElem?_eq_getElem (by rw [List.length_take] at hi; omega))
      simp; omega
  rw [e, List.length_take]
  omega
theorem cntL_le {ns : List Int} {r : Int} : 0 ≤ cntL ns r ∧ cntL ns r ≤ ns.length := by
  unfold cntL
  have := List.length_filter_le (fun n => decide (n < r)) ns
  omega
/-- before the place they are less, from it on they aren't -/
theorem cntL_lt {ns : List Int} (h : Asc ns) {r : Int} {i : Nat} {v : Int} (e : ns[i]? = some v) : v < r ↔ (i : Int) < cntL ns r := by
  induction ns generalizing i with
  | nil => cases e
  | cons n ns ih =>
    have hA : Asc ns := (List.pairwise_cons.mp h).2
    have hn := (List.pairwise_cons.mp h).1
    unfold cntL at ih ⊢
    rw [List.filter_cons]
    by_cases c : n < r
    · rw [if_pos (by simp [c]), List.length_cons]
      cases i with
      | zero => cases e; constructor <;> intro _ <;> omega
      | succ i =>
        have := ih hA (i := i) e
        rw [this]
        omega
    · rw [if_neg (by simp [c])]
      have e2 : ns.filter (fun n => decide (n < r)) = [] := List.filter_eq_nil_iff.mpr fun w hw => by have := hn w hw; simp; omega
      rw [e2]
      have : n ≤ v := by
        cases i with
        | zero => cases e; omega
        | succ i => have := hn v (List.mem_of_getElem? e); omega
      simp only [List.length_nil]
      constructor <;> intro _ <;> omega
/-- a loop over these data -/
def LoopK (g : QG) (tb : QS) (D' : QK) (ds : List D) (ρ : Ev) (M : Mu) : Prop := ∃ I : Nat → Ev → Mu → Prop, I 0 ρ M ∧
  (∀ i d ρ M, ds[i]? = some d → I i ρ M → g d ρ fun ρ2 => tb { nx := I (i + 1), ct := I (i + 1), bk := D'.nx, rt := D'.rt } ρ2 M) ∧ (∀ ρ M, I ds.length ρ M → D'.nx ρ M)
theorem sFor_k {qi : QA} {g : QG} {tb : QS} {D' : QK} {ρ : Ev} {M : Mu} (h : ∀ N : List D → Ev → Mu → Prop, (∀ ds ρ1 M1, LoopK g tb D' ds ρ1 M1 → N ds ρ1 M1) → qi ρ M N) : sFor qi g tb D' ρ M := h _ fun _ _ _ h => h
theorem loop_i {g : QG} {tb : QS} {D' : QK} {ds : List D} {ρ : Ev} {M : Mu} (I : Nat → Ev → Mu → Prop) (h0 : I 0 ρ M)
    (hs : ∀ J : Nat → Ev → Mu → Prop, (∀ i ρ M, I i ρ M → J i ρ M) → ∀ i d ρ M, ds[i]? = some d → I i ρ M → g d ρ fun ρ2 => tb { nx := J (i + 1), ct := J (i + 1), bk := D'.nx, rt := D'.rt } ρ2 M)
    (hn : ∀ ρ M, I ds.length ρ M → D'.nx ρ M) : LoopK g tb D' ds ρ M := ⟨I, h0, hs I fun _ _ _ h => h, hn⟩
theorem sWhile_i {c : QT} {tb : QS} {D' : QK} {ρ : Ev} {M : Mu} (I : Nat → Ev → Mu → Prop) (m0 : Nat) (h0 : I m0 ρ M)
    (hs : ∀ (m : Nat) (J : Ev → Mu → Prop), (∀ m' ρ M, m' < m → I m' ρ M → J ρ M) → ∀ ρ M, I m ρ M → c ρ M fun b ρ1 M1 => if b = true then tb { nx := J, ct := J, bk := D'.nx, rt := D'.rt } ρ1 M1 else D'.nx ρ1 M1) : sWhile c tb D' ρ M :=
  ⟨I, ⟨m0, h0⟩, fun m ρ M h => hs m (fun ρ M => ∃ m', m' < m ∧ I m' ρ M) (fun m' ρ M l h => ⟨m', l, h⟩) ρ M h⟩
theorem atI_last {ns : List Int} (h : 0 < ns.length) : atI (ns.map D.int) (-1) = some (.int (ns.getD (ns.length - 1) 0)) := by
  have e : (ns.map D.int)[ns.length - 1]? = some (.int (ns.getD (ns.length - 1) 0)) := by
    rw [List.getElem?_map, List.getD_eq_getElem?_getD, List.getElem?_eq_getElem (by omega)]
    rfl
  unfold atI ixN
  rw [List.length_map]
  simp only [show ¬ (0 : Int) ≤ -1 by omega, if_false]
  rw [if_pos (by omega), show (-1 + (ns.length : Int)).toNat = ns.length - 1 by omega]
  exact e
end PL
namespace PL
open PySem PySem.Spec PyProof.Rows L2
/-! ### a, b, .. = a tuple or a list -/
def gSq (n : Nat) (gs : QGs) : QG := fun d ρ Q => match d with
  | .tup ds => ds.length = n ∧ gs ds ρ Q
  | .lst ds => ds.length = n ∧ gs ds ρ Q
  | _ => False
section
variable {X : Cx} {z : Z} {pos : Pos} {e o : Expr} {es : List Expr} {gs : QGs} {as : List Nat}
theorem qg_lst {k n : Nat} (hc : X.calm = true) (h : PGs X es (liGs z as gs)) (hK : X.K = z.K := by first | assumption | rfl) (hn : (assignEach es X.env).length = n := by rfl) (hst : (assignEach es X.env).findIdx? (·.1) = none := by rfl) :
    PG X (.Tuple es k pos) (liG z as fun d ρ Q => match d with | .lst ds => ds.length = n ∧ gs ds ρ Q | _ => False) :=
  pg_w (pg_lst hc h hn hst) fun v σ H Q ⟨S, M, ρ, d, Q0, sim, r, h, post⟩ => by
    dsimp only at h
    split at h
    · cases r with
      | lst r1 r2 => exact ⟨_, _, rfl, .of (sim.sub _ _ r1), by rw [r2.length]; exact h.1, S, M, ρ, _, Q0, sim, r2, h.2, post⟩
    · exact h.elim
theorem qg_seq {k n : Nat} (hc : X.calm = true) (h : PGs X es (liGs z as gs)) (hK : X.K = z.K := by first | assumption | rfl) (hn : (assignEach es X.env).length = n := by rfl) (hst : (assignEach es X.env).findIdx? (·.1) = none := by rfl) : PG X (.Tuple es k pos) (liG z as (gSq n gs)) := by
  refine ⟨fun pins s σ H v u Q I r ⟨S, M, ρ, d, Q0, sim, rp, h0, post⟩ => ?_⟩
  unfold gSq at h0
  split at h0
  · exact (qg_tup (n := n) hc h hK hn hst).run pins s σ H v u Q I r ⟨S, M, ρ, _, Q0, sim, rp, h0, post⟩
  · exact (qg_lst (n := n) hc h hK hn hst).run pins s σ H v u Q I r ⟨S, M, ρ, _, Q0, sim, rp, h0, post⟩
  · exact h0.elim

/-! ### methods of built-in types -/
abbrev MD := D → List D → (Sl → Prop) → Prop
/-- the built-in type of data -/
def tyM : D → String
  | .lst _ => "list"
  | .str _ => "str"
  | .dic _ _ => "dict"
  | .set _ _ => "set"
  | _ => ""
def MethB (X : Cx) (z : Z) (id : String) (md : MD) : Prop :=
  ∀ (pins : List (Addr × Obj)) (s : Shared) (σ : St) (H S : Hp) (M : Mu) (ρ : Ev) (x : V) (v : Value) (xs : List V) (us : List Value) (d : D) (ds : List D) (Q0 : Sl → Prop), Inv X pins σ H s → Sim z S M ρ σ H → Rb z.K S M H x d → RbA z.K S M H xs ds → RelV x v → Vals xs us → md d ds Q0 →
    wpAny (model X.prog X.w) X.A (call (.builtin id) (v :: us)) (EP X pins σ (PoE z S M σ H fun r ρ' M' => ρ' = ρ ∧ M' = M ∧ Q0 r)) X.xe s
theorem methB_of {id : String} {md : MD} {r : V → List V → Hp → VK → Prop} (h : MtR X id r)
    (k : ∀ (σ : St) (H S : Hp) (M : Mu) (ρ : Ev) (x : V) (xs : List V) (d : D) (ds : List D) (Q0 : Sl → Prop), Sim z S M ρ σ H → Rb z.K S M H x d → RbA z.K S M H xs ds → md d ds Q0 → r x xs H (PoE z S M σ H fun r ρ' M' => ρ' = ρ ∧ M' = M ∧ Q0 r)) : MethB X z id md :=
  fun pins s σ H S M ρ x v xs us d ds Q0 I sim b rb rx rv q => h pins s σ H x xs v us _ I rx rv (k σ H S M ρ x xs d ds Q0 sim b rb q)
def eM (T : String) (md : MD) (qo : QB) (qr : QA) : QE := fun ρ M Q => qo ρ M fun d ρ1 M1 => tyM d = T ∧ qr ρ1 M1 fun ds ρ2 M2 => md d ds fun r => Q r ρ2 M2
theorem tyV_of {S : Hp} {M : Mu} {ρ : Ev} {σ : St} {H : Hp} {x : V} {d : D} {T : String} (hT : T ≠ "") (sim : Sim z S M ρ σ H) (b : Rb z.K S M H x d) (e : tyM d = T) (hK : X.K = z.K := by first | assumption | rfl) : tyV X.K T x H := by
  cases d with
  | lst ds =>
    cases e
    obtain ⟨a, xs, rfl, h1, _⟩ := b.lst sim.sub
    exact .inl ⟨rfl, xs, .of h1⟩
  | str x => cases e; rw [b.str]; rfl
  | dic ks ds =>
    cases e
    rcases b with b | ⟨_, _, _, rfl, e, _⟩
    · cases b with | dic h1 _ _ => exact .inr (.inr (.inl ⟨rfl, .inl ⟨_, sim.sub _ _ h1⟩⟩))
    · cases e
  | set f n =>
    cases e
    rcases b with b | ⟨_, _, _, rfl, e, _⟩
    · cases b with | set h1 => exact .inr (.inr (.inr ⟨rfl, _, _, sim.sub _ _ h1⟩))
    · cases e
  | _ => exact absurd e.symm hT
theorem meth_lift {T : String} {md : MD} {qo : QB} {qr : QA} (hT : T ≠ "") (hK : X.K = z.K) {σ : St} {H : Hp} {Q : VK} (h : liE z (eM T md qo qr) σ H Q) :
    liB z qo σ H fun x H1 => tyV X.K T x H1 ∧ liAB z qr σ H1 fun xs H2 => ∃ S M ρ d ds Q0, Sim z S M ρ σ H2 ∧ Rb z.K S M H2 x d ∧ RbA z.K S M H2 xs ds ∧ md d ds Q0 ∧ ∀ v H', PoE z S M σ H2 (fun r ρ' M' => ρ' = ρ ∧ M' = M ∧ Q0 r) v H' → Q v H' := by
  obtain ⟨S, M, ρ, Q0, sim, h, post⟩ := h
  refine ⟨S, M, ρ, _, sim, h, fun x H1 ⟨d1, ρ1, M1, S1, ⟨ty, q1⟩, st1, sim1, b1⟩ => ⟨tyV_of hT sim1 b1 ty, S1, M1, ρ1, _, sim1, q1, fun xs H2 ⟨ds, ρ2, M2, S2, q2, st2, sim2, b2⟩ => ?_⟩⟩
  refine ⟨S2, M2, ρ2, d1, ds, _, sim2, b1.step st2, b2, q2, fun v H' ⟨r, ρ', M', S', ⟨e1, e2, q⟩, st, sim', res⟩ => post v H' ⟨r, ρ', M', S', ?_, (st1.trans st2).trans st, sim', res⟩⟩
  subst e1 e2
  exact q
theorem qe_meth {T id : String} {name : Str} {md : MD} {qo : QB} {qr : QA} {apos cpos : Pos} (hm : MethB X z id md) (pa : PlainAttrs T) (slot : Slot T name id) (hty : typeOf (.builtin id) = pure (.type "method_descriptor")) (hT : T ≠ "") (ho : PE X o (liB z qo)) (ha : PA X (e :: es) (liAB z qr)) (hK : X.K = z.K := by first | assumption | rfl)
    (hbase : attributeBase o name X.env (eval o X.env) = eval o X.env := by rfl)
    (hfew : ((backTo cpos (starEach (e :: es) X.env)).all (fun x => !x.1) && (backToKw cpos (keywordEach [] X.env)).all (fun x => x.1.isSome)
      && decide ((e :: es).length + ([] : List Keyword).length + (if ([] : List Keyword).isEmpty then 0 else 1) < 30)) = true := by rfl)
    (hline : (apos.endLine == cpos.line) = true := by rfl) (hs : starEach (e :: es) X.env = (false, eval e X.env) :: starEach es X.env := by rfl) (hplain : (backTo cpos (starEach es X.env)).any (·.1) = false := by rfl) :
    PE X (.Call (.Attribute o name apos) (e :: es) [] cpos) (liE z (eM T md qo qr)) := by
  refine ⟨fun pins s σ H Q I h => ?_⟩
  refine wpAny_Call_method_late hbase hfew hline rfl (thn (ho.run pins s σ H _ I (meth_lift hT hK h)) fun v s1 ⟨x, H1, I1, r1, ty, q1⟩ => ?_)
  obtain ⟨h1, h2⟩ := tyV_is I1 r1 ty
  refine ⟨T, id, pa, slot, hty, h1, h2, ?_⟩
  have hA := ha.run cpos pins s1 σ H1 _ I1 q1
  rw [hs] at hA ⊢
  refine Calls.callWith_builtin (by show (false || (backTo cpos (starEach es X.env)).any (·.1)) = false; rw [hplain] <;> rfl) (Calls.evalArgs_plain ?_)
  exact thn hA fun us s2 ⟨vs, H2, I2, r2, S, M, ρ, d, ds, Q0, sim, b, rb, q, post⟩ => thn (hm pins s2 σ H2 S M ρ x v vs us d ds Q0 I2 sim b rb r1 r2 q) fun w s3 ⟨y, H3, I3, r3, p3⟩ => ⟨y, H3, I3, r3, post _ _ p3⟩
/-- l.index(x): the first equal one -/
def mIndex : MD := fun d ds Q => match d, ds with
  | .lst xs, [a] => (cmpOk a = true ∧ cmpOk (.lst xs) = true) ∧ (match xs.findIdx? (fun x => deq x a) with | some j => Q (.va (.int (j : Nat))) | none => False)
  | _, _ => False
theorem toPyA_get : ∀ {xs : List D} {j : Nat} {d : D}, xs[j]? = some d → (toPyA xs)[j]? = some (toPy d)
  | d :: ds, 0, _, h => by cases h; rfl
  | d :: ds, j + 1, _, h => by
    rw [toPyA, List.getElem?_cons_succ]
    exact toPyA_get (by simpa using h)
theorem toPyA_len : ∀ {xs : List D}, (toPyA xs).length = xs.length
  | [] => rfl
  | d :: ds => by rw [toPyA, List.length_cons, List.length_cons, toPyA_len]
theorem mb_index (hu : X.A.units + 65 < cLine) (hK : X.K = z.K := by first | assumption | rfl) : MethB X z "list.index" mIndex := methB_of (mt_indexD hu) fun σ H S M ρ x xs d ds Q0 sim b rb q => by
  unfold mIndex at q
  split at q
  · rename_i ds a
    obtain ⟨⟨p1, p2⟩, q⟩ := q
    split at q
    · rename_i j hj
      cases rb with
      | cons r1 rr =>
        cases rr
        obtain ⟨l, ys, rfl, h1, k1⟩ := b.lst sim.sub
        unfold cmpOk at p1 p2
        rw [Bool.and_eq_true] at p1 p2
        have k2 := b.dp sim.sub p2.1
        rw [toPy] at k2 p2
        obtain ⟨hlt, e1, e2⟩ := List.findIdx?_eq_some_iff_getElem.mp hj
        refine ⟨l, _, toPy a, toPyA ds, j, toPy ds[j], rfl, rfl, by rw [hK]; exact k2, by rw [hK]; exact r1.dp sim.sub p1.1, p2.2, p1.2, toPyA_get (List.getElem?_eq_getElem hlt), e1, fun m z' hm hz => ?_, poE_va sim (.int _) q⟩
        have hml : m < ds.length := by omega
        rw [toPyA_get (List.getElem?_eq_getElem hml)] at hz
        cases hz
        have := e2 m hm
        simpa [deq] using this
    · exact q.elim
  · exact q.elim

/-! ### sets of ints -/
theorem poE_set {S : Hp} {M : Mu} {H : Hp} {ρ : Ev} {σ : St} {Q0 : Sl → Prop} {p : Addr} {f : Int → Bool} {n : Nat} (sim : Sim z S M ρ σ H) (hp : H p = none) (q : Q0 (.va (.set f n))) : PoE z S M σ H (fun r ρ' M' => ρ' = ρ ∧ M' = M ∧ Q0 r) (.ref p) (upd H p (.set f n)) := by
  obtain ⟨a, b⟩ := sim.alloc (o := .set f n) hp
  exact ⟨_, ρ, M, _, ⟨rfl, rfl, q⟩, b, a, Rp.set upd_same⟩
/-- set(tuple of ints) -/
def cSet : CD := fun ds Q => match ds with
  | [.tup xs] => ∃ ns : List Int, xs = ns.map D.int ∧ ns.length < 4000 ∧ ∀ c : Nat, c ≤ ns.length → Q (.va (.set (fun j => decide (j ∈ ns)) c))
  | _ => False
theorem cb_set (hc : X.calm = true) (hK : X.K = z.K := by first | assumption | rfl) : CallB X z (.type "set") cSet := by
  intro pins s σ H S M ρ xs us ds Q0 I sim rb rv q
  unfold cSet at q
  split at q
  · obtain ⟨ns, rfl, hl, q⟩ := q
    cases rb with
    | cons r1 rr =>
      cases rr
      obtain ⟨a, ys, rfl, h1, k1⟩ := r1.tup
      cases rv with
      | cons rx rt =>
        cases rt
        cases rx
        have h2 : SqT X.K H a ys := by rw [hK]; exact same_seqT sim.sub h1
        obtain ⟨its, rvs, pt, hz⟩ := I.tuple h2
        have hys : ys = ns.map V.int := k1.intsV
        subst hys
        refine call_set_tupI ns (I.ok.hd hc) pt rvs.ints (by unfold scanBound; omega) fun h' tk c R hcl hk => ?_
        have I1 : Inv X pins σ (upd H s.heap.objs.size (.set (fun j => decide (j ∈ ns)) c)) { s with heap := h', toks := tk } := I.laid hk (Nat.le_refl _) (show ObjOk X.prog X.w _ _ _ (.set (fun j => decide (j ∈ ns)) c) from R.setOf)
        exact ⟨.ref s.heap.objs.size, _, I1, rfl, poE_set sim (I.hok.fresh (Nat.le_refl _)) (q c hcl)⟩
  · exact q.elim
/-- in: a list, a tuple, a set -/
def dInX (neg : Bool) : OD := fun a b Q => match b with
  | .set f n => (match a with | .int i => Q (.va (.bl (if neg then !f i else f i))) | _ => False)
  | b => dIn neg a b Q
theorem Rb.setV {S : Hp} {M : Mu} {H : Hp} {v : V} {f : Int → Bool} {n : Nat} (h : Rb z.K S M H v (.set f n)) : ∃ a, v = .ref a ∧ S a = some (.set f n) := by
  rcases h with h | ⟨_, _, _, rfl, e, _⟩
  · cases h with | set a => exact ⟨_, rfl, a⟩
  · cases e
theorem ob_inX (hu : X.A.units + 65 < cLine) (hK : X.K = z.K := by first | assumption | rfl) : OpB X z (compareOp .In) (dInX false) := by
  intro pins s σ H S M ρ x y u w d1 d2 Q0 I sim b1 b2 r1 r2 q
  cases d2 with
  | set f n =>
    unfold dInX at q
    dsimp only at q
    split at q
    · rename_i i
      obtain ⟨a, rfl, ha⟩ := b2.setV
      rw [b1.int] at r1
      obtain ⟨tk, rfl⟩ := r1
      cases r2
      exact wpAny_inSet_of (intKind_is _ _ _ _) rfl (I.hok a _ (sim.sub _ _ ha)) ⟨.bl (f i), H, I.tok _, rfl, poE_va sim (.bl _) q⟩
    · exact q.elim
  | _ => exact ob_in hu hK pins s σ H S M ρ x y u w d1 _ Q0 I sim b1 b2 r1 r2 q
theorem ob_notInX (hu : X.A.units + 65 < cLine) (hK : X.K = z.K := by first | assumption | rfl) : OpB X z (compareOp .NotIn) (dInX true) := by
  intro pins s σ H S M ρ x y u w d1 d2 Q0 I sim b1 b2 r1 r2 q
  cases d2 with
  | set f n =>
    unfold dInX at q
    dsimp only at q
    split at q
    · rename_i i
      obtain ⟨a, rfl, ha⟩ := b2.setV
      rw [b1.int] at r1
      obtain ⟨tk, rfl⟩ := r1
      cases r2
      exact wpAny_notInSet_of (intKind_is _ _ _ _) rfl (I.hok a _ (sim.sub _ _ ha)) ⟨.bl (!f i), H, I.tok _, rfl, poE_va sim (.bl _) q⟩
    · exact q.elim
  | _ => exact ob_notIn hu hK pins s σ H S M ρ x y u w d1 _ Q0 I sim b1 b2 r1 r2 q
end
theorem natc0 : ((0 : Nat) : Int) = 0 := rfl
theorem natc1 : ((1 : Nat) : Int) = 1 := rfl
theorem natc2 : ((2 : Nat) : Int) = 2 := rfl
end PL
namespace PL
open PySem PySem.Spec PyProof.Rows L2
/-! ### exceptions, told by their class's name -/
def clsV (K : Fg) (c : Str) : Value := .ref (He.ga K c)
abbrev WP := Str → Ev → Mu → Prop
def liX (z : Z) (W : WP) : WX := fun cls d σ H => ∃ S M ρ c, cls = clsV z.K c ∧ Sim z S M ρ σ H ∧ W c ρ M
/-- a promise of a def that may raise -/
def liPX (K : Fg) (p : PSp) : Sp := fun vs H Q E => ∃ S M ds Q0 E0, Core (zOf K H S M) S M H ∧ RpA K S vs ds ∧ p ds M Q0 E0 ∧
  (∀ v H' r M' S', Q0 r M' → Core (zOf K H S M) S' M' H' → ResF (zOf K H S M) S' M' H' v r → Q v H') ∧
  ∀ c d M' S' H', E0 c [] M' → Core (zOf K H S M) S' M' H' → E (clsV K c) d H'
def eCallX (W : WP) (p : PSp) (qr : QA) : QE := fun ρ M Q => qr ρ M fun ds ρ1 M1 => p ds M1 (fun r M2 => Q r ρ1 M2) fun c _ M2 => W c ρ1 M2
section
variable {X : Cx} {z : Z} {k : Nat} {f : Addr} {fd : FuncData} {ps : List Str} {p : PSp} {x : Str} {pp pos : Pos} {e : Expr} {es : List Expr} {qr : QA} {W : WP}
theorem callX_lift {σ : St} {H : Hp} {Q : VK} (h : liE z (eCallX W p qr) σ H Q) : liA z qr σ H fun vs H1 => liPX z.K p vs H1 Q (WE (liX z W) σ) := by
  obtain ⟨S, M, ρ, Q0, sim, h, post⟩ := h
  refine ⟨S, M, ρ, _, sim, h, fun vs H1 ⟨ds, ρ1, M1, S1, q1, st1, sim1, rp⟩ => ⟨S1, M1, ds, _, _, sim1.core0, rp, q1, fun v H2 r M2 S2 q2 c res => ?_, fun c d M2 S2 H2 q2 c2 => ⟨S2, M2, ρ1, c, rfl, sim1.after c2, q2⟩⟩⟩
  exact post v H2 ⟨r, ρ1, M2, S2, q2, st1.trans c.step, sim1.after c, sim1.afterR res⟩
/-- f(e, ..), which may raise -/
theorem qe_callX (tk : Takes X (liX z W)) (F : FnOk X.prog X.w X.K X.mg X.base (L2.CX X.prog X.w) k f fd ps (liPX X.K p)) (hr : Room k X.A) (hg : Gl X x) (hm : X.mg x = some (.ref f)) (hk : PySem.W.keepIn X.K (.ref f) = true) (hb : Binds X.K fd ps [])
    (ha : PA X (e :: es) (liA z qr)) (hK : X.K = z.K := by first | assumption | rfl) (hdb : (x == ("__debug__" : Str)) = false := by decide) (he : starEach (e :: es) X.env = (false, eval e X.env) :: starEach es X.env := by rfl) (hpl : (backTo pos (starEach es X.env)).any (·.1) = false := by rfl) :
    PE X (.Call (.Name x pp) (e :: es) [] pos) (liE z (eCallX W p qr)) := by
  refine pe_w (pe_callS (E := WE (liX z W)) F hr hg hm hk hb (fun σ => passAt tk σ) ha hdb he hpl) fun σ H Q h => ?_
  have h' := callX_lift h
  unfold tCallS
  rw [hK]
  exact h'
/-- X() -/
theorem pmk_own0 {C : Addr} {bmB : List Value} {B newId initId : String} (F : ExcBaseFacts B newId initId bmB) (q : PySem.W.excIn X.K C bmB newId = true) (gC : X.mg x = some (.ref C)) (kC : PySem.W.keepIn X.K (.ref C) = true) (r : Raises X (.ref C)) (hg : Gl X x)
    (hdb : (x == ("__debug__" : Str)) = false := by decide) : PMk X (.Call (.Name x pp) [] [] pos) (fun _ H Q => Q (.ref C) none H) := by
  intro pins s σ H Q I h
  refine wpAny_Call_Name_kw (ld_glob I hg gC ?_ hdb)
  refine PySem.W.callWith_K0 I.kIn kC ?_
  show wpAny _ _ (call (.ref C) []) _ _ _
  obtain ⟨bm, N, nm, qn, bs, hdct, sn, sub, ab, col, dd, k0, k1, k2, k3, k5, mN, hC, hN, hni, T⟩ := exc_obj I.kIn q
  refine wpAny_call_exc_subT F T hC hN hni (fun h' e hm => ?_) (by show 0 ≤ sizeLine; omega)
  exact mk_of I hm r h (I.hok.gone hm.new)
def sRaise (W : WP) (c : Str) : QS := fun _ ρ M => W c ρ M
theorem qs_raise {W : WP} {pos' : Pos} (tk : Takes X (liX z W)) (hc : X.calm = true) (q : PySem.W.excIn X.K (He.ga X.K x) [.type "ValueError", .type "Exception", .type "BaseException", .type "object"] "ValueError.__new__" = true) (gC : X.mg x = some (.ref (He.ga X.K x))) (kC : PySem.W.keepIn X.K (.ref (He.ga X.K x)) = true)
    (h1 : PySem.W.subIn X.K (.ref (He.ga X.K x)) (.type "BaseException") = some true) (h2 : PySem.W.typeIn X.K (.ref (He.ga X.K x)) = some (.type "type")) (hg : Gl X x) (hK : X.K = z.K := by first | assumption | rfl) (hdb : (x == ("__debug__" : Str)) = false := by decide) :
    PS X (.Raise (some (.Call (.Name x pp) [] [] pos)) none pos') (liS z (sRaise W x)) :=
  ps_w (ps_raise hc tk (pmk_own0 PySem.F.excBase_ValueError q gC kC (raises_own h1 h2) hg hdb)) fun D σ H ⟨S, M, ρ, D0, sim, h, _⟩ => ⟨S, M, ρ, x, by rw [hK]; rfl, sim, h⟩
abbrev Z.at (z : Z) (S : Hp) : Z := { z with S0 := S }
theorem Sim.up {S : Hp} {M : Mu} {ρ : Ev} {σ : St} {H : Hp} (h : Sim z S M ρ σ H) : Sim (z.at S) S M ρ σ H :=
  ⟨⟨⟨.refl _, h.step.keep, h.step.mnew, h.step.dom⟩, h.sub, fun b q => .inl q, h.mu, h.mnd, h.rsv⟩, h.len, h.va, h.ow, h.sep⟩
theorem Core.down {S S' : Hp} {M M' : Mu} {H H' : Hp} (h0 : Core z S M H) (h : Core (z.at S) S' M' H') : Core z S' M' H' :=
  ⟨⟨h0.step.same.trans h.step.same, h.step.keep, h.step.mnew, h.step.dom⟩, h.sub, fun b q => by
    rcases h.frS b q with w | w
    · exact h0.frS b w
    · exact .inr w, h.mu, h.mnd, h.rsv⟩
theorem Sim.down {S S' : Hp} {M M' : Mu} {ρ : Ev} {σ : St} {H H' : Hp} (h0 : Core z S M H) (h : Sim (z.at S) S' M' ρ σ H') : Sim z S' M' ρ σ H' :=
  ⟨h0.down h.toCore, h.len, h.va, h.ow, h.sep⟩
theorem ResF.down {S S' : Hp} {M' : Mu} {H' : Hp} {v : V} {r : Sl} (h : ResF (z.at S) S' M' H' v r) : ResF z S' M' H' v r := by
  cases r <;> exact h
/-- try: body, except x: suite; cat tells of a class whether it is caught -/
def sTry (W : WP) (cat : Str → Option Bool) (tb : WP → QS) (th : QS) : QS := fun D ρ M => tb (fun c ρ' M' => match cat c with
  | some true => th D ρ' M'
  | some false => W c ρ' M'
  | none => False) D ρ M
theorem qs_try {W : WP} {cat : Str → Option Bool} {tb : WP → QS} {th : QS} {body suite : List Stmt} {b₀ : Stmt} {np pos' : Pos} (hs : X.stack = X.env :: X.outer) (hf : X.env.frame = some X.env.locals) (hg : Gl X x) (hdb : (x == ("__debug__" : Str)) = false) (gC : X.mg x = some (clsV X.K x)) (tk : Takes X (liX z W))
    (hK : X.K = z.K) (hcat : ∀ c b, cat c = some b → PySem.W.exmOne X.K (clsV X.K c) (clsV X.K x) = some b)
    (hb : ∀ (z' : Z) (W' : WP) (pn : List (Addr × Obj)) (xe : Value → Shared → Prop), X.K = z'.K → Takes (X.tr pn xe) (liX z' W') → PSs (X.tr pn xe) body (liS z' (tb W')))
    (hsu : ∀ (z' : Z) (a : Addr) (pn : List (Addr × Obj)), X.K = z'.K → PSs (X.suite a pn) (b₀ :: suite) (liS z' th)) :
    PS X (.Try body [.ExceptHandler (some (.Name x np)) none (b₀ :: suite) pos'] [] [] pos) (liS z (sTry W cat tb th)) := by
  refine ps_w (ps_try_only (c := clsV X.K x) (tb := fun Wx D σ H => ∃ (z' : Z) (W' : WP), X.K = z'.K ∧ (∀ cls d σ H, liX z' W' cls d σ H → Wx cls d σ H) ∧ liS z' (tb W') D σ H) (ts := fun a cls d D σ H => ∃ z' : Z, X.K = z'.K ∧ liS z' th D σ H) (Wout := liX z W) hs hf ⟨hg, hdb, .inl gC⟩ tk
    (fun Wx pn xe tkx _ => ⟨fun pins s σ H D I ⟨z', W', e, hi, h⟩ => (hb z' W' pn xe e (tkx.imp hi)).run pins s σ H D I h⟩)
    (fun a oe cls d pn _ _ => ⟨fun pins s σ H D I ⟨z', e, h⟩ => (hsu z' a _ e).run pins s σ H D I h⟩)) ?_
  intro D σ H ⟨S, M, ρ, D0, sim, h, nx, bk, ct, rt⟩
  refine ⟨z.at S, _, hK, ?_, S, M, ρ, D0, sim.up, h, fun ρ' M' S' σ' H' q e s => nx ρ' M' S' σ' H' q e (s.down sim.toCore), fun ρ' M' S' σ' H' q e s => bk ρ' M' S' σ' H' q e (s.down sim.toCore), fun ρ' M' S' σ' H' q e s => ct ρ' M' S' σ' H' q e (s.down sim.toCore), fun r M' S' v H' q c res => rt r M' S' v H' q (sim.toCore.down c) res.down⟩
  intro cls d σ1 H1 ⟨S1, M1, ρ1, c, e1, sim1, w⟩
  have hk : clsV (z.at S).K c = clsV X.K c := by rw [hK]
  rw [hk] at e1
  subst e1
  split at w
  · rename_i hc
    have s2 := sim1.down sim.toCore
    have e0 := sim1.step.same
    refine ⟨true, hcat c true hc, fun _ a _ => ⟨z, hK, S1, M1, ρ1, D0, s2, w, fun ρ' M' S' σ' H' q e s => nx ρ' M' S' σ' H' q (e0.trans e) s, fun ρ' M' S' σ' H' q e s => bk ρ' M' S' σ' H' q (e0.trans e) s, fun ρ' M' S' σ' H' q e s => ct ρ' M' S' σ' H' q (e0.trans e) s, rt⟩, fun q => nomatch q⟩
  · rename_i hc
    exact ⟨false, hcat c false hc, (fun q => nomatch q), fun _ => ⟨S1, M1, ρ1, c, by rw [hK], sim1.down sim.toCore, w⟩⟩
  · exact w.elim
end
/-- a def whose body may raise -/
theorem fn_PX {P : Program} {w : World} {K : Fg} {mg : Str → Option Value} {base : Heap} {x qual : Str} {params : Arguments} {body : List Stmt} {scope : Scope} {dvs : List V} {kws : List (Str × V)} {f : Addr} {fd : FuncData} {N ps : List Str} {k : Nat} {p : PSp}
    (F : FunD K x qual params body scope dvs kws f fd) (Sc : FnScope N ps scope) (hl : ∀ ds M Q E, p ds M Q E → ds.length = ps.length)
    {q : WP → QS} (hbody : ∀ (cdv : Value) (A : Around) (outer : List Env) (s : Shared) (H : Hp) (E : XK) (z : Z) (W : WP), K = z.K → Room k (A.deeper (envOfC qual scope s.heap.objs.size f cdv)) →
      Takes (cxOf (L2.CX P w) P w K mg base N qual scope f cdv A outer s H E) (liX z W) → PSs (cxOf (L2.CX P w) P w K mg base N qual scope f cdv A outer s H E) body (liS z (q W)))
    (hq : ∀ ds M Q0 E0, p ds M Q0 E0 → q (fun c _ M' => E0 c [] M') { nx := fun _ M' => Q0 (.va .non) M', rt := Q0 } (stE N ds) M) : FnOk P w K mg base (L2.CX P w) (k + 1) f fd ps (liPX K p) := by
  refine F.ok Sc (fun vs H Q E ⟨S, M, ds, Q0, E0, c, r, h, _⟩ => by rw [r.length]; exact hl _ _ _ _ h) fun cdv A outer s H vs Q E hr ⟨S, M, ds, Q0, E0, c, r, h, post, px⟩ => ⟨_, hbody cdv A outer s H E (zOf K H S M) (fun c _ M' => E0 c [] M') rfl hr ((takes_of rfl rfl rfl rfl).imp fun cls d σ H' ⟨S', M', ρ', c', e, sim, w⟩ => by subst e; exact px c' d M' S' H' w sim.toCore), ?_⟩
  refine ⟨S, M, _, _, start_sim c rfl r, hq ds M Q0 E0 h, fun ρ' M' S' σ' H' q e sim => ?_, fun _ _ _ _ _ q => q.elim, fun _ _ _ _ _ q => q.elim, fun r M' S' v H' q c' res => post v H' r M' S' q c' res⟩
  exact post .non H' _ M' S' q sim.toCore .non
theorem takesF {X : Cx} {z : Z} : Takes X (liX z fun _ _ _ => False) := takes0.imp fun _ _ _ _ ⟨_, _, _, _, _, _, w⟩ => w
def isSome1 (o : Option Bool) (b : Bool) : Bool := match o with | some c => c == b | none => false
theorem isSome1_eq {o : Option Bool} {b : Bool} (h : isSome1 o b = true) : o = some b := by
  cases o with
  | none => cases h
  | some c => rw [show c = b from beq_iff_eq.mp h]
def isTyp (o : Option Value) : Bool := match o with | some (.type s) => s == "type" | _ => false
theorem isTyp_eq {o : Option Value} (h : isTyp o = true) : o = some (.type "type") := by
  unfold isTyp at h
  split at h
  · rw [show _ = _ from beq_iff_eq.mp h]
  · cases h
end PL
namespace PySem
open Sem (wp)
theorem meets_enumerate_new1 {v : Value} {o : Obj} {H : Heap → Prop} (B : Begins v o H) :
    Meets (Builtin.«enumerate.__new__» ⟨[.type "enumerate", v], []⟩) (fun _ R s => H s.heap ∧
      R (.ok (.ret (.ref (s.heap.push o).objs.size))) { s with heap := (s.heap.push o).push { cls := .type "enumerate", data := .fields #[.none, .bool false, .ref s.heap.objs.size, rawInt 0, .none, .none] } }) :=
  .of_wp fun prog w A R s h => by
    obtain ⟨hh0, g, d, tk, os⟩ := s; obtain ⟨hH, h⟩ := h
    have sb0 := sub_enumerate
    have qq1 : ∀ {A' : Around} {E : Value → Shared → Prop} {Q : Value → Shared → Prop}, Q (.ref hh0.objs.size) ⟨hh0.push o, g, d, tk, os⟩ → wpAny (model prog w) A' (pyIter v) Q E ⟨hh0, g, d, tk, os⟩ :=
      fun q => B.iter prog w _ _ ⟨hh0, g, d, tk, os⟩ _ hH q
    wp_walk using qq1
    refine wpAny_stack_any fun stt => wpAny_pure ?_
    split
    · rename_i c _ _ _ _ _
      cases (c == Value.type "enumerate")
      · wp_walk using qq1
        exact ⟨_, rfl, h⟩
      · wp_walk using qq1
        exact ⟨_, rfl, h⟩
    · wp_walk using qq1
      exact ⟨_, rfl, h⟩
section
variable {prog : Program} {w : World} {A : Around} {E : Value → Shared → Prop} {s : Shared}
theorem enum_begins1 {v : Value} {o : Obj} {H : Heap → Prop} {Q : Value → Shared → Prop} (B : Begins v o H) (hH : H s.heap)
    (h : ∀ h', IsEnum h' (s.heap.objs.size + 1) s.heap.objs.size 0 .none → h'.get? s.heap.objs.size = some o → h'.objs.size = s.heap.objs.size + 2 →
      (∀ b o, s.heap.get? b = some o → h'.get? b = some o) → Q (.ref (s.heap.objs.size + 1)) { s with heap := h' }) :
    wpAny (model prog w) A (call (.type "enumerate") [v]) Q E s := by
  refine callType_new F.called_enumerate (by decide) (F.typeCall_enumerate_1 _) (F.newCall_enumerate_1 _) (fun obj => F.args_object_init_2 obj _) F.entry_enumerate_new
    (meets_enumerate_new1 B) ⟨hH, ?_⟩
  have sz0 : (s.heap.push o).objs.size = s.heap.objs.size + 1 := Heap.size_push ..
  show _ ∧ _
  rw [sz0]
  have en : IsEnum ((s.heap.push o).push { cls := .type "enumerate", data := .fields #[.none, .bool false, .ref s.heap.objs.size, rawInt 0, .none, .none] }) (s.heap.objs.size + 1) s.heap.objs.size 0 .none := by
    have := Heap.get?_push_size (s.heap.push o) (o := { cls := .type "enumerate", data := .fields #[.none, .bool false, .ref s.heap.objs.size, rawInt 0, .none, .none] }) rfl
    rw [sz0] at this; exact this
  refine ⟨⟨_, en, rfl⟩, h _ en (Heap.get?_push_of_some _ (Heap.get?_push_size _ B.free)) (by rw [Heap.size_push, sz0]) fun b o x => Heap.get?_push_of_some _ (Heap.get?_push_of_some _ x)⟩
end
end PySem
namespace PL
open PySem PySem.Spec PyProof.Rows L2
/-! ### enumerate(tuple) -/
/-- the tuple at a, n items -/
def IteT (K : Fg) (a : Addr) (n : Nat) : It :=
  ⟨fun i H => i < n ∧ ∃ (xs : List V) (x : V), SqT K H a xs ∧ xs[i]? = some x ∧ xs.length = n, fun i H v H' => ∃ T x, v = .ref T ∧ H T = none ∧ H' = upd H T (.tup [.int (i : Nat), x]) ∧ ∀ xs, SqT K H a xs → xs[i]? = some x, fun i H => n ≤ i ∧ ∃ xs : List V, SqT K H a xs ∧ xs.length = n⟩
theorem tup_ne_it {h : Heap} {a it : Addr} {i : Nat} {items : Array Value} (p : h.IsTuple a items) (hti : h.IsTupleIter it a i) : a ≠ it := by
  rintro rfl
  obtain ⟨o, hout, hc, _⟩ := p
  obtain ⟨o', ho', hc', _⟩ := hti
  rw [hout] at ho'
  cases ho'
  rw [hc] at hc'
  injection hc' with e
  exact absurd e (by decide)
theorem tup_ne_en {h : Heap} {a e it : Addr} {i : Int} {o0 : Value} {items : Array Value} (p : h.IsTuple a items) (en : IsEnum h e it i o0) : e ≠ a := by
  rintro rfl
  obtain ⟨o, hout, hc, _⟩ := p
  have he' := en
  unfold IsEnum at he'
  rw [hout] at he'
  have e := Option.some.inj he'
  rw [e] at hc
  injection hc with e
  exact absurd e (by decide)
theorem turn_enumT {P : Program} {w : World} {K : Fg} {elts : List Expr} {kk : Nat} {tpos : Pos} (a e it : Addr) (n : Nat) :
    Turn P w K (.Tuple elts kk tpos) (IteT K a n) [e, it] e (fun i h => (∃ o0, IsEnum h e it ((i : Nat) : Int) o0) ∧ h.IsTupleIter it a i ∧ e ≠ it ∧ i ≤ n) where
  mem := by simp
  obj := fun i h stt b hb0 => by
    obtain ⟨⟨o0, en⟩, ⟨o, hout, hc, hd⟩, _⟩ := stt
    have e' : b = e ∨ b = it := by simpa using hb0
    rcases e' with z | z
    · rw [z]; exact ⟨_, en, fun v q => nomatch q⟩
    · rw [z]; exact ⟨o, hout, fun v q => by rw [hd] at q; cases q⟩
  keep := fun i h h' stt k => let ⟨⟨o0, en⟩, hi, hne, hn⟩ := stt; ⟨⟨o0, k e (by simp) _ en⟩, hi.at fun o q => k it (by simp) o q, hne, hn⟩
  item := by
    intro X hP hw hK hc i pins s σ H E I hfp stt hgl
    subst hP hw hK
    obtain ⟨⟨o0, en⟩, hti, hne, hle0⟩ := stt
    obtain ⟨hlt, xs, x, hq0, hxi, hxn⟩ := hgl
    obtain ⟨its, vs0, p, sz0⟩ := I.tuple hq0
    obtain ⟨u, hu0, ru0⟩ := vs0.get hxi
    have ptu : s.heap.IsTuple a its.toArray := p
    have le1 : e < s.heap.objs.size := Heap.lt_size en
    have le2 : it < s.heap.objs.size := by obtain ⟨_, q, _⟩ := hti; exact Heap.lt_size q
    have hea := tup_ne_en ptu en
    have DR : Draws X.prog X.w X.A.in1 it [it, a] its.toArray.size (fun i v => its.toArray[i]? = some v) (fun i h => h.IsTupleIter it a i ∧ h.IsTuple a its.toArray) := Draws.tuple (show X.A.in1.handled = none from I.ok.hd hc) it a (tup_ne_it ptu hti) its.toArray
    refine wpAny_pyNext_enum_itemD DR en ⟨hti, ptu⟩ (by have := (List.getElem?_eq_some_iff.mp hu0).1; simpa using this) hne (by simp [hne, hea]) fun x' h' tk hx' hout st' hTu hs0 kp => ?_
    have exx : x' = u := by
      have hx2 : its[i]? = some x' := by simpa using hx'
      rw [hu0] at hx2
      exact (Option.some.inj hx2).symm
    subst exx
    refine ⟨_, rfl, wpAny_letOwnedTupleGo_enum (s := { s with heap := h', toks := tk + 1 }) hout fun h'' he' sb => ?_⟩
    have hT2 : h''.get? s.heap.objs.size = some { cls := .type "tuple", data := .seq #[.int i tk, x'] } := (sb.2 _ (Nat.ne_of_gt le1)).trans hTu
    have new : ObjOk X.prog X.w (upd H s.heap.objs.size (.tup [.int (i : Nat), x])) h'' s.heap.objs.size (.tup [.int (i : Nat), x]) :=
      ⟨by show 2 ≤ sizeLine; decide, [.int i tk, x'], .cons ⟨_, rfl⟩ (.cons ru0 .nil), ⟨_, hT2, rfl, _, rfl⟩⟩
    have J1 : Inv X pins σ (upd H s.heap.objs.size (.tup [.int (i : Nat), x])) { s with heap := h'', toks := tk + 1 } :=
      I.turnedNew (ch := [e, it]) (fun b ob hb0 q => (sb.2 b (fun z => hb0 (by simp [z]))).trans (kp b ob (fun z => hb0 (by simp [z])) (fun z => hb0 (by simp [z])) q)) hfp (Nat.le_refl _) new
    refine ⟨.ref s.heap.objs.size, _, J1, rfl, ⟨_, x, rfl, I.hok.fresh (Nat.le_refl _), rfl, fun ys hy => by rw [I.tuple_inj hy hq0]; exact hxi⟩, ⟨⟨x', ?_⟩, st'.1.at fun o q => (sb.2 it (Ne.symm hne)).trans q, hne, hlt⟩, fun b hb0 => ?_⟩
    · have eq1 : ((i + 1 : Nat) : Int) = (i : Int) + 1 := by omega
      rw [eq1]; exact he'
    · have hb' : b < s.heap.objs.size := by
        have e' : b = e ∨ b = it := by simpa using hb0
        rcases e' with z | z
        · rw [z]; exact le1
        · rw [z]; exact le2
      rw [upd_ne (Nat.ne_of_lt hb')]
      exact (hfp b hb0).1
  done := by
    intro X hP hw hK hc i pins s σ H E I hfp stt hgl
    subst hP hw hK
    obtain ⟨⟨o0, en⟩, hti, hne, hle0⟩ := stt
    obtain ⟨hge, xs, hq0, hxi⟩ := hgl
    obtain ⟨its, vs0, p, sz0⟩ := I.tuple hq0
    have ptu : s.heap.IsTuple a its.toArray := p
    obtain ⟨f0, f1, f2, f3, f4, f5⟩ := hfp it (by simp)
    have hl := vs0.length
    have eq1 : i = its.toArray.size := by simp only [List.size_toArray]; omega
    subst eq1
    have DR : Draws X.prog X.w X.A.in1 it [it, a] its.toArray.size (fun i v => its.toArray[i]? = some v) (fun i h => h.IsTupleIter it a i ∧ h.IsTuple a its.toArray) := Draws.tuple (show X.A.in1.handled = none from I.ok.hd hc) it a (tup_ne_it ptu hti) its.toArray
    exact wpAny_pyNext_enum_endD DR en ⟨hti, ptu⟩ fun h' eb => ⟨rfl, I.turned (t' := s.toks) (fun b o hb0 q => eb b o hb0 q) f0 f1 f3 f4 f5⟩
  self := fun A i s Q E stt h => let ⟨⟨_, en⟩, _⟩ := stt; wpAny_pyIter_enum en h
/-- enumerate(list or tuple) -/
def iEnumX (K : Fg) (ta : TA) : TI := fun σ H R => ta σ H fun vl H1 => ∃ a, vl = [.ref a] ∧ (((∃ xs, SqL K H1 a xs) ∧ R (Ite K a) H1) ∨ (∃ xs : List V, SqT K H1 a xs ∧ R (IteT K a xs.length) H1))
theorem pi_enumX {X : Cx} {e : Expr} {ta : TA} {p pos tpos : Pos} {elts : List Expr} {kk : Nat} (hgl : Gl X "enumerate") (hm : X.mg "enumerate" = none) (ha : PA X [e] ta) (hs : starEach [e] X.env = [(false, eval e X.env)] := by rfl) :
    PI X (.Tuple elts kk tpos) (.Call (.Name "enumerate" p) [e] [] pos) (iEnumX X.K ta) := by
  refine ⟨fun pins s σ H R I h => ?_⟩
  refine Call_ (ld_blt I hgl hm boot_enumerate (PyProof.Rows.callWith_type1 (thn (ha.run pos pins s σ H _ I h) fun us s1 ⟨vl, H1, J1, rr1, qq1⟩ => ?_) hs rfl))
  obtain ⟨a, exx, qq1⟩ := qq1
  subst exx
  cases rr1 with
  | cons r rr =>
    cases rr
    cases r
    have fin : ∀ (J : It) (St : Nat → Heap → Prop) (h' : Heap), (∀ b o, s1.heap.get? b = some o → h'.get? b = some o) → IsEnum h' (s1.heap.objs.size + 1) s1.heap.objs.size 0 .none → R J H1 →
        Turn X.prog X.w X.K (.Tuple elts kk tpos) J [s1.heap.objs.size + 1, s1.heap.objs.size] (s1.heap.objs.size + 1) St → St 0 h' → wpAny (model X.prog X.w) X.A (pyIter (.ref (s1.heap.objs.size + 1))) (PIE X pins σ (.Tuple elts kk tpos) R) X.xe { s1 with heap := h' } := by
      intro J St h' kp en q T stt
      refine wpAny_pyIter_enum en ?_
      have J2 : Inv X pins σ H1 { s1 with heap := h' } := J1.kept (t' := s1.toks) kp
      refine ⟨s1.heap.objs.size + 1, [s1.heap.objs.size + 1, s1.heap.objs.size], _, _, H1, rfl, J2, T, stt, fun b hb0 => ?_, q⟩
      have e' : b = s1.heap.objs.size + 1 ∨ b = s1.heap.objs.size := by simpa using hb0
      have hle : s1.heap.objs.size ≤ b := by
        rcases e' with z | z
        · rw [z]; exact Nat.le_add_right _ _
        · rw [z]; exact Nat.le_refl _
      exact J1.fpOk hle (J1.hok.fresh hle)
    rcases qq1 with ⟨⟨xs, hq0⟩, q⟩ | ⟨xs, hq0, q⟩
    · obtain ⟨its, vs0, p', sz0⟩ := J1.list hq0
      exact call_enumerate_list p'.isList fun h' en hti hs0 kp => fin _ _ h' kp en q (turn_enum a (s1.heap.objs.size + 1) s1.heap.objs.size) ⟨⟨.none, en⟩, hti, Nat.succ_ne_self _⟩
    · obtain ⟨its, vs0, p', sz0⟩ := J1.tuple hq0
      exact enum_begins1 (begins_tuple a its.toArray) (show s1.heap.IsTuple a its.toArray from p') fun h' en hti hs0 kp => fin _ _ h' kp en q (turn_enumT a (s1.heap.objs.size + 1) s1.heap.objs.size xs.length) ⟨⟨.none, en⟩, ⟨_, hti, rfl, rfl⟩, Nat.succ_ne_self _, Nat.zero_le _⟩
/-- (0, x0), (1, x1), .. -/
def enumD : Nat → List D → List D
  | _, [] => []
  | k, d :: ds => .tup [.int (k : Nat), d] :: enumD (k + 1) ds
theorem enumD_len : ∀ (k : Nat) (ds : List D), (enumD k ds).length = ds.length
  | _, [] => rfl
  | k, d :: ds => by rw [enumD, List.length_cons, List.length_cons, enumD_len]
theorem enumD_get : ∀ {k : Nat} {ds : List D} {i : Nat} {d : D}, (enumD k ds)[i]? = some d → ∃ x, ds[i]? = some x ∧ d = .tup [.int ((k + i : Nat) : Int), x]
  | _, [], _, _, h => by simp [enumD] at h
  | k, c :: ds, 0, d, h => by simp [enumD] at h; exact ⟨c, rfl, by rw [← h]; simp⟩
  | k, c :: ds, i + 1, d, h => by
    obtain ⟨x, h1, h2⟩ := enumD_get (k := k + 1) (ds := ds) (i := i) (by simpa [enumD] using h)
    exact ⟨x, by simpa using h1, by rw [h2, show k + 1 + i = k + (i + 1) by omega]⟩
def iEnum1 (qr : QA) : QA := fun ρ M Q => qr ρ M fun ds ρ' M' => match ds with
  | [.lst xs] => Q (enumD 0 xs) ρ' M'
  | [.tup xs] => Q (enumD 0 xs) ρ' M'
  | _ => False
section
variable {X : Cx} {z : Z} {tg e : Expr} {pos p tpos : Pos} {qr : QA} {elts : List Expr} {kk : Nat}
theorem yld_new {S H : Hp} {T : Addr} {xs : List V} {ds : List D} (hT : H T = none) (sub : Same S H) (r : RpA z.K S xs ds) :
    ∃ S', Same S S' ∧ Same H (upd H T (.tup xs)) ∧ Same S' (upd H T (.tup xs)) ∧ (∀ b, S' b ≠ none → S b ≠ none ∨ H b = none) ∧ Rp z.K S' (.ref T) (.tup ds) := by
  have hs : S T = none := by
    cases q : S T with
    | none => rfl
    | some o => rw [sub _ _ q] at hT; cases hT
  refine ⟨upd S T (.tup xs), same_upd hs, same_upd hT, fun b u q => ?_, fun b q => ?_, .tup (.of upd_same) (RpA.ext (same_upd hs) _ _ r)⟩
  · by_cases hb : b = T
    · subst hb; rw [upd_same] at q ⊢; exact q
    · rw [upd_ne hb] at q ⊢; exact sub b u q
  · by_cases hb : b = T
    · subst hb; exact .inr hT
    · rw [upd_ne hb] at q; exact .inl q
theorem ylds_enumL {S1 : Hp} {a : Addr} {xs : List V} {ds : List D} (h : S1 a = some (.lst xs)) (r : RpA z.K S1 xs ds) : Ylds z (Ite z.K a) S1 (enumD 0 ds) := by
  have hl := r.length
  refine ⟨fun i H S e1 e2 hi => ?_, fun i H S e1 e2 hi => ⟨xs, .of ((e1.trans e2) _ _ h), by rw [enumD_len] at hi; omega⟩, fun i H S x H' d e1 e2 ed y => ?_⟩
  · rw [enumD_len] at hi
    exact ⟨xs, xs[i], .of ((e1.trans e2) _ _ h), List.getElem?_eq_getElem (by omega)⟩
  · obtain ⟨T, v, rfl, hT, rfl, y⟩ := y
    obtain ⟨c, ec, rfl⟩ := enumD_get ed
    have ex := y xs (.of ((e1.trans e2) _ _ h))
    obtain ⟨v', h1, h2⟩ := r.get ec
    rw [ex] at h1
    cases h1
    rw [show ((0 + i : Nat) : Int) = (i : Nat) by omega]
    exact yld_new hT e2 (.cons (.int _) (.one (Rp.ext e1 _ _ h2)))
theorem ylds_enumT {S1 : Hp} {a : Addr} {xs : List V} {ds : List D} (h : SqT z.K S1 a xs) (r : RpA z.K S1 xs ds) : Ylds z (IteT z.K a xs.length) S1 (enumD 0 ds) := by
  have hl := r.length
  refine ⟨fun i H S e1 e2 hi => ?_, fun i H S e1 e2 hi => ⟨by rw [enumD_len] at hi; omega, xs, same_seqT (e1.trans e2) h, rfl⟩, fun i H S x H' d e1 e2 ed y => ?_⟩
  · rw [enumD_len] at hi
    exact ⟨by omega, xs, xs[i], same_seqT (e1.trans e2) h, List.getElem?_eq_getElem (by omega), rfl⟩
  · obtain ⟨T, v, rfl, hT, rfl, y⟩ := y
    obtain ⟨c, ec, rfl⟩ := enumD_get ed
    have ex := y xs (same_seqT (e1.trans e2) h)
    obtain ⟨v', h1, h2⟩ := r.get ec
    rw [ex] at h1
    cases h1
    rw [show ((0 + i : Nat) : Int) = (i : Nat) by omega]
    exact yld_new hT e2 (.cons (.int _) (.one (Rp.ext e1 _ _ h2)))
theorem qi_enumerate (hg : Gl X "enumerate") (hm : X.mg "enumerate" = none) (ha : PA X [e] (liA z qr)) (hK : X.K = z.K := by first | assumption | rfl) (hs : starEach [e] X.env = [(false, eval e X.env)] := by rfl) :
    PI X (.Tuple elts kk tpos) (.Call (.Name "enumerate" p) [e] [] pos) (liI z (iEnum1 qr)) :=
  pi_w (pi_enumX hg hm ha hs) fun σ H R ⟨S, M, ρ, Q0, sim, h, post⟩ => ⟨S, M, ρ, _, sim, h, fun vs H1 ⟨ds, ρ1, M1, S1, q1, st1, sim1, rp⟩ => by
    dsimp only at q1
    split at q1
    · cases rp with
      | cons r1 rr =>
        cases rr
        cases r1 with
        | lst h1 h2 => exact ⟨_, rfl, .inl ⟨⟨_, .of (sim1.sub _ _ h1)⟩, by rw [hK]; exact post _ H1 ⟨_, ρ1, M1, S1, q1, st1, sim1, ylds_enumL h1 h2⟩⟩⟩
    · cases rp with
      | cons r1 rr =>
        cases rr
        cases r1 with
        | tup h1 h2 => exact ⟨_, rfl, .inr ⟨_, by rw [hK]; exact same_seqT sim1.sub h1, by rw [hK]; exact post _ H1 ⟨_, ρ1, M1, S1, q1, st1, sim1, ylds_enumT h1 h2⟩⟩⟩
    · exact q1.elim⟩
/-- reversed(list) -/
def iRev1 (qr : QA) : QA := fun ρ M Q => qr ρ M fun ds ρ' M' => match ds with
  | [.lst xs] => Q xs.reverse ρ' M'
  | _ => False
theorem ylds_rev {S1 : Hp} {a : Addr} {xs : List V} {ds : List D} (h : S1 a = some (.lst xs)) (r : RpA z.K S1 xs ds) : Ylds z (Itv z.K a xs.length) S1 ds.reverse := by
  have hl := r.length
  refine ⟨fun i H S e1 e2 hi => ?_, fun i H S e1 e2 hi => by rw [List.length_reverse] at hi; show xs.length ≤ i; omega, fun i H S x H' d e1 e2 ed y => ?_⟩
  · rw [List.length_reverse] at hi
    exact ⟨by omega, xs, xs[xs.length - 1 - i], .of ((e1.trans e2) _ _ h), List.getElem?_eq_getElem (by omega)⟩
  · obtain ⟨rfl, y⟩ := y
    have hi : i < ds.length := by
      have := (List.getElem?_eq_some_iff.mp ed).1
      rw [List.length_reverse] at this
      exact this
    rw [List.getElem?_reverse hi] at ed
    have ex := y xs (.of ((e1.trans e2) _ _ h))
    obtain ⟨v, h1, h2⟩ := r.get ed
    rw [hl, h1] at ex
    cases ex
    exact ⟨S, .refl _, .refl _, e2, fun b q => .inl q, Rp.ext e1 _ _ h2⟩
theorem qi_reversed (hg : Gl X "reversed") (hm : X.mg "reversed" = none) (ha : PA X [e] (liA z qr)) (hK : X.K = z.K := by first | assumption | rfl) (hs : starEach [e] X.env = [(false, eval e X.env)] := by rfl) :
    PI X tg (.Call (.Name "reversed" p) [e] [] pos) (liI z (iRev1 qr)) :=
  pi_w (pi_reversed hg hm ha hs) fun σ H R ⟨S, M, ρ, Q0, sim, h, post⟩ => ⟨S, M, ρ, _, sim, h, fun vs H1 ⟨ds, ρ1, M1, S1, q1, st1, sim1, rp⟩ => by
    dsimp only at q1
    split at q1
    · cases rp with
      | cons r1 rr =>
        cases rr
        cases r1 with
        | lst h1 h2 => exact ⟨_, _, rfl, .of (sim1.sub _ _ h1), by rw [hK]; exact post _ H1 ⟨_, ρ1, M1, S1, q1, st1, sim1, ylds_rev h1 h2⟩⟩
    · exact q1.elim⟩
end
end PL
namespace PL
open PySem PySem.Spec PyProof.Rows L2

/-! ### sorted(list of data) -/
abbrev leD : D → D → Bool := PySem.W.dataLe false toPy
abbrev leP : V × D → V × D → Bool := PySem.W.dataLe false fun p : V × D => toPy p.2
def SortOk (ds : List D) : Prop := isPureA ds = true ∧ PySem.W.AllAlike (ds.map toPy) ∧ PySem.W.Sortable (ds.map toPy) ∧ ∀ d ∈ ds, (toPy d).depth ≤ 60
section
variable {X : Cx} {z : Z}
theorem each_of {K : Fg} {ps : List (V × D)} : ∀ {us : List Value}, Vals (ps.map (·.1)) us → PySem.W.EachIs (fun u (p : V × D) => RelV p.1 u) us ps := by
  induction ps with
  | nil => intro us h; cases h; exact .nil
  | cons p ps ih => intro us h; cases h with | cons a b => exact .cons a (ih b)
theorem of_each {ps : List (V × D)} : ∀ {us : List Value}, PySem.W.EachIs (fun u (p : V × D) => RelV p.1 u) us ps → Vals (ps.map (·.1)) us := by
  induction ps with
  | nil => intro us h; cases h; exact .nil
  | cons p ps ih => intro us h; cases h with | cons a b => exact .cons a (ih b)
theorem each_imp {α β : Type} {R T : α → β → Prop} : ∀ {as : List α} {bs : List β}, (∀ a b, b ∈ bs → R a b → T a b) → PySem.W.EachIs R as bs → PySem.W.EachIs T as bs
  | _, _, _, .nil => .nil
  | _, _, f, .cons h t => .cons (f _ _ List.mem_cons_self h) (each_imp (fun a b hb => f a b (List.mem_cons_of_mem _ hb)) t)
def rSortD (K : Fg) : List V → Hp → VK → Prop := fun vs H Q => ∃ (a : Addr) (ps : List (V × D)), vs = [V.ref a] ∧ SqL K H a (ps.map (·.1)) ∧ (∀ p ∈ ps, Dp K H p.1 (toPy p.2)) ∧ SortOk (ps.map (·.2)) ∧
  ∀ p : Addr, H p = none → Q (.ref p) (upd H p (.lst ((ps.mergeSort leP).map (·.1))))
theorem cr_sortD (hu : X.A.units + 64 < cLine) : CallR X (.builtin "sorted") (rSortD X.K) := by
  intro pins s σ H vs us Q I r h
  obtain ⟨a, ps, rfl, hs, hd, ⟨h1, h2, h3, h4⟩, q⟩ := h
  obtain ⟨its, rv, hl, hz⟩ := I.list hs
  obtain ⟨u, rfl, ru⟩ := vals1 r
  obtain rfl : u = Value.ref a := ru
  have e := each_of (K := X.K) rv
  rw [List.map_map] at h2 h3
  rw [List.length_map] at hz
  refine PySem.W.sorted_data (enc := fun p : V × D => toPy p.2) hl.isList e (each_imp (fun u p hp hr => Dp.reads I _ _ _ (hd p hp) hr) e) h2 h3 hz (fun p hp => ?_) fun out ho hout => ?_
  · have := h4 p.2 (List.mem_map.mpr ⟨p, hp, rfl⟩)
    omega
  · obtain ⟨ep, he'⟩ := PyProof.Rows.sortedAll_at s.heap its out.toArray
    have hzz : ((ps.mergeSort leP).map (·.1)).length ≤ sizeLine := by
      rw [List.length_map, List.length_mergeSort]
      exact hz
    refine ⟨.ref _, upd H (s.heap.objs.size + 1) (.lst ((ps.mergeSort leP).map (·.1))), I.laid (t' := s.toks) (fun _ _ => PyProof.Rows.sortedAll_old) (Nat.le_succ _) ⟨hzz, out, ep, of_each hout, he'⟩, rfl, q _ (I.hok.fresh (Nat.le_succ _))⟩
def cSortD : CD := fun ds Q => match ds with
  | [.lst xs] => SortOk xs ∧ Q (.ow (.lst (xs.mergeSort leD)))
  | _ => False
theorem rpA_zip {K : Fg} {S : Hp} : ∀ {vs : List V} {ds : List D}, RpA K S vs ds → (vs.zip ds).map (·.1) = vs ∧ (vs.zip ds).map (·.2) = ds ∧ ∀ p ∈ vs.zip ds, Rp K S p.1 p.2
  | _, _, .nil => ⟨rfl, rfl, by simp⟩
  | _, _, .cons a b => by
    obtain ⟨h1, h2, h3⟩ := rpA_zip b
    refine ⟨by simp [h1], by simp [h2], fun p hp => ?_⟩
    rcases List.mem_cons.mp hp with rfl | w
    · exact a
    · exact h3 p w
theorem rpA_unzip {K : Fg} {S : Hp} : ∀ {ps : List (V × D)}, (∀ p ∈ ps, Rp K S p.1 p.2) → RpA K S (ps.map (·.1)) (ps.map (·.2))
  | [], _ => .nil
  | p :: ps, h => .cons (h p List.mem_cons_self) (rpA_unzip fun q hq => h q (List.mem_cons_of_mem _ hq))
theorem pureA_mem : ∀ {ds : List D}, isPureA ds = true → ∀ d ∈ ds, isPure d = true
  | d :: ds, h, e, he => by
    rw [isPureA, Bool.and_eq_true] at h
    rcases List.mem_cons.mp he with rfl | w
    · exact h.1
    · exact pureA_mem h.2 e w
theorem cb_sortD (hu : X.A.units + 64 < cLine) (hK : X.K = z.K := by first | assumption | rfl) : CallB X z (.builtin "sorted") cSortD := callB_of (cr_sortD hu) fun σ H S M ρ xs ds Q0 sim rb q => by
  unfold cSortD at q
  split at q
  · obtain ⟨ok, q⟩ := q
    cases rb with
    | cons r1 rr =>
      cases rr
      obtain ⟨a, ys, rfl, h1, k1⟩ := r1.lst sim.sub
      obtain ⟨e1, e2, e3⟩ := rpA_zip k1
      generalize ys.zip _ = ps at *
      subst e1
      subst e2
      refine ⟨a, ps, rfl, .of h1, fun p hp => by rw [hK]; exact Rp.dp sim.sub _ _ (pureA_mem ok.1 _ (List.mem_map.mpr ⟨p, hp, rfl⟩)) (e3 p hp), ok, fun p hp => poE_ow sim hp ?_ q⟩
      have e4 : (ps.mergeSort leP).map (·.2) = (ps.map (·.2)).mergeSort leD := List.map_mergeSort fun _ _ _ _ => rfl
      rw [← e4]
      exact rpA_unzip fun p hp => e3 p ((List.mergeSort_perm ps leP).mem_iff.mp hp)
  · exact q.elim
end
/-! rows of pairs of numbers -/
theorem sortOk_map {α : Type} {g : α → D} {xs : List α} (h1 : ∀ x, isPure (g x) = true) (h2 : ∀ x y, PySem.W.alike (toPy (g x)) (toPy (g y)) = true) (h3 : ∀ x, ∃ d r, toPy (g x) = .tuple (d :: r)) (h4 : ∀ x, (toPy (g x)).depth ≤ 60) : SortOk (xs.map g) := by
  refine ⟨?_, ?_, ?_, fun d hd => ?_⟩
  · induction xs with
    | nil => rfl
    | cons x xs ih => rw [List.map_cons, isPureA, h1, ih]; rfl
  · rw [List.map_map]; exact .of fun x y => h2 x y
  · rw [List.map_map]; exact .tuples fun x => h3 x
  · obtain ⟨x, _, rfl⟩ := List.mem_map.mp hd
    exact h4 x
theorem sort_map {α : Type} {g : α → D} {xs : List α} : (xs.map g).mergeSort leD = (xs.mergeSort (PySem.W.dataLe false fun x => toPy (g x))).map g := (List.map_mergeSort (f := g) (r := PySem.W.dataLe false fun x => toPy (g x)) (s := leD) fun _ _ _ _ => rfl).symm
def spD (p : Int × Int) : D := .tup [.int p.1, .int p.2]
theorem spD_eq {a b : Int} : spD (a, b) = .tup [.int a, .int b] := rfl
theorem sortOk_pr {ps : List (Int × Int)} : SortOk (ps.map spD) := sortOk_map (fun _ => rfl) (fun x y => by simp [spD, toPy, toPyA, PySem.W.alike, PySem.W.alikeAll]) (fun x => ⟨_, _, rfl⟩) fun x => by simp [spD, toPy, toPyA, PyData.depth, PyData.depthAll]
def lePr (p q : Int × Int) : Bool := decide (p.1 < q.1 ∨ (p.1 = q.1 ∧ p.2 ≤ q.2))
theorem sort_pr {ps : List (Int × Int)} : (ps.map spD).mergeSort leD = (ps.mergeSort lePr).map spD := by
  rw [sort_map]
  have e : (PySem.W.dataLe false fun x => toPy (spD x)) = lePr := PySem.W.dataLe_ii (fun p : Int × Int => p.1) (fun p => p.2)
  rw [e]
theorem sorted_pr {ps : List (Int × Int)} : (ps.mergeSort lePr).Perm ps ∧ (ps.mergeSort lePr).Pairwise fun p q => p.1 < q.1 ∨ (p.1 = q.1 ∧ p.2 ≤ q.2) := by
  refine ⟨List.mergeSort_perm _ _, ?_⟩
  have := List.pairwise_mergeSort (le := lePr) (fun a b c h1 h2 => by
    unfold lePr at *
    rw [decide_eq_true_iff] at *
    omega) (fun a b => by
    unfold lePr
    rw [Bool.or_eq_true, decide_eq_true_iff, decide_eq_true_iff]
    omega) ps
  exact this.imp fun {a b} h => by unfold lePr at h; exact of_decide_eq_true h
end PL
namespace PL
open PySem PySem.Spec PyProof.Rows L2

/-! ### x[e] += e2 over integers -/
theorem pget_list {X : Cx} : PGet X (rIxL X.K) := by
  intro pins s σ H x y v u Q I rx ry h
  obtain ⟨p, xs, i, z, rfl, rfl, hq, he, q⟩ := h
  cases rx
  obtain ⟨t, rfl⟩ := ry
  obtain ⟨its, r, pl, hz⟩ := I.list hq
  obtain ⟨j, h1, h2, h3, h4, h5⟩ := atI_get he
  obtain ⟨w, ew, rw'⟩ := r.get h2
  have hl := r.length
  have hn := line63
  have fin : EP X pins σ Q w s := ⟨z, H, I, rw', q⟩
  by_cases h0 : 0 ≤ i
  · have hj : i.toNat = j := by
      rw [seqIndex_of h0 h5] at h1
      exact Option.some.inj h1
    exact wpAny_getItem_list pl.isList h0 (by omega) (by rw [hj]; simpa using ew) fin
  · have hj : (i + (its.toArray.size : Int)).toNat = j := by
      rw [seqIndex_neg (by omega) h4] at h1
      rw [List.size_toArray, ← hl]
      exact Option.some.inj h1
    exact wpAny_getItem_list_neg pl.isList (by omega) (by rw [List.size_toArray] <;> omega) (by omega) (by rw [hj]; simpa using ew) fin
def sAugIt (f : Int → Int → Int) (i : Nat) (qk qb : QB) : QS := fun D ρ M => match ρ[i]? with
  | some (.ow (.lst _)) => qk ρ M fun k ρ1 M1 => (match ρ1[i]?, k with
    | some (.ow (.lst ds)), .int k => (match ixN ds.length k with
      | some j => (match ds[j]? with
        | some (.int a) => qb ρ1 M1 fun d ρ2 M2 => (match ρ2[i]?, d with
          | some (.ow (.lst es)), .int b => es.length = ds.length ∧ D.nx (ρ2.set i (.ow (.lst (es.set j (.int (f a b)))))) M2
          | _, _ => False)
        | _ => False)
      | none => False)
    | _, _ => False)
  | _ => False
theorem qs_augItem {X : Cx} {z : Z} {pos : Pos} {b e : Expr} {qk qb : QB} {op : Operator} {f : Int → Int → Int} {i : Nat} {y : Str} {p1 p2 : Pos} (hN : X.N[i]? = some y) (hvis : Vis X.env.scope y) (hk : PE X b (liB z qk)) (hb : PE X e (liB z qb)) (ho : PIp X op (ipI f)) (hK : X.K = z.K := by first | assumption | rfl)
    (hd : (y == ("__debug__" : Str)) = false := by decide) (hcd : (y == ("__classdict__" : Str)) = false := by decide)
    (ha : ∀ ov iv new, augStore b ov iv new = (do holding [new, ov, iv] (setItem ov iv new); release [new, ov, iv] []; pure .next) := by intros; rfl) :
    PS X (.AugAssign (.Subscript (.Name y p1) b p2) op e pos) (liS z (sAugIt f i qk qb)) :=
  ps_w (ps_augS (pe_var hN hvis hd hcd) hk pget_list hb ho set_list ha) fun D σ H ⟨S, M, ρ, D0, sim, h, nx, _⟩ => by
    unfold sAugIt at h
    split at h
    · rename_i ds0 e0
      obtain ⟨a, h1, _, _, ⟨xs0, h4, _⟩, _⟩ := sim.ow i _ e0
      refine ⟨_, h1, S, M, ρ, _, sim, h, fun kv H1 ⟨k, ρ1, M1, S1, q1, st1, sim1, rk⟩ => ?_⟩
      dsimp only at q1
      split at q1
      · rename_i ds k e1
        split at q1
        · rename_i j ej
          split at q1
          · rename_i av ea
            obtain ⟨a1, k1, _, _, ⟨xs, k4, k5⟩, _⟩ := sim1.ow i _ e1
            rw [h1] at k1
            cases k1
            obtain ⟨v, hv, rv⟩ := k5.get ea
            cases rv
            refine ⟨a, xs, k, .int av, rfl, rk.int, .of k4, ?_, S1, M1, ρ1, _, sim1, q1, fun dv H2 ⟨d, ρ2, M2, S2, q2, st2, sim2, rd⟩ => ?_⟩
            · unfold atI
              rw [k5.length, ej]
              exact hv
            · dsimp only at q2
              split at q2
              · rename_i es b e2
                obtain ⟨a2, j1, _, _, ⟨ys, j4, j5⟩, _⟩ := sim2.ow i _ e2
                rw [h1] at j1
                cases j1
                obtain ⟨ql, qn⟩ := q2
                exact ⟨av, b, rfl, rd.int, a, ys, k, j, rfl, rk.int, j4, by rw [j5.length, ql]; exact ej, nx _ M2 S2 σ _ qn (st1.trans st2).same (sim2.owSet e2 h1 (j5.set (.int _)))⟩
              · exact q2.elim
          · exact q1.elim
        · exact q1.elim
      · exact q1.elim
    · exact h.elim
theorem ipa_add {X : Cx} : PIp X .Add (ipI fun a b => a + b) := ip_add
theorem ipa_sub {X : Cx} : PIp X .Sub (ipI fun a b => a - b) := ip_sub
end PL
namespace PL
open PySem PySem.Spec PyProof.Rows L2

/-! ### min(list of pairs of numbers) -/
section
variable {X : Cx} {z : Z}
def prAt (ps : List (V × (Int × Int))) : List PyData := ps.map fun p => toPy (spD p.2)
theorem best_pr {ps : List (V × (Int × Int))} : ∀ k, k < ps.length → argBest (fun i j => PySem.W.dataLt ((prAt ps).getD i .none) ((prAt ps).getD j .none)) k ≤ k ∧
    ∀ j, j ≤ k → ∀ p q, ps[argBest (fun i j => PySem.W.dataLt ((prAt ps).getD i .none) ((prAt ps).getD j .none)) k]? = some p → ps[j]? = some q → lePr p.2 q.2 = true
  | 0, _ => ⟨Nat.le_refl _, fun j hj p q h1 h2 => by
    obtain rfl : j = 0 := by omega
    have h1 : ps[0]? = some p := h1
    rw [h1] at h2
    cases h2
    simp [lePr]⟩
  | k + 1, hk => by
    obtain ⟨i1, i2⟩ := best_pr (ps := ps) k (by omega)
    have at_ : ∀ i p, ps[i]? = some p → (prAt ps).getD i .none = toPy (spD p.2) := fun i p h => by
      rw [List.getD_eq_getElem?_getD, prAt, List.getElem?_map, h]
      rfl
    obtain ⟨b, hb⟩ : ∃ b, ps[argBest (fun i j => PySem.W.dataLt ((prAt ps).getD i .none) ((prAt ps).getD j .none)) k]? = some b := ⟨_, List.getElem?_eq_getElem (by omega)⟩
    obtain ⟨c, hc⟩ : ∃ c, ps[k + 1]? = some c := ⟨_, List.getElem?_eq_getElem hk⟩
    have lt_ : PySem.W.dataLt (toPy (spD c.2)) (toPy (spD b.2)) = decide (c.2.1 < b.2.1 ∨ (c.2.1 = b.2.1 ∧ c.2.2 < b.2.2)) := PySem.W.dataLt_ii _ _ _ _
    unfold argBest
    rw [at_ _ _ hb, at_ _ _ hc, lt_]
    by_cases hl : c.2.1 < b.2.1 ∨ (c.2.1 = b.2.1 ∧ c.2.2 < b.2.2)
    · rw [if_pos (by simpa using hl)]
      refine ⟨Nat.le_refl _, fun j hj p q h1 h2 => ?_⟩
      rw [hc] at h1
      cases h1
      rcases Nat.lt_or_ge j (k + 1) with w | w
      · have := i2 j (by omega) b q hb h2
        unfold lePr at *
        rw [decide_eq_true_iff] at *
        omega
      · obtain rfl : j = k + 1 := by omega
        rw [hc] at h2
        cases h2
        simp [lePr]
    · rw [if_neg (by simpa using hl)]
      refine ⟨by omega, fun j hj p q h1 h2 => ?_⟩
      rcases Nat.lt_or_ge j (k + 1) with w | w
      · exact i2 j (by omega) p q h1 h2
      · obtain rfl : j = k + 1 := by omega
        rw [hb] at h1
        rw [hc] at h2
        cases h1
        cases h2
        unfold lePr
        rw [decide_eq_true_iff]
        omega
theorem reads_pr {K : Fg} {H : Hp} {h : Heap} : ∀ {ps : List (V × (Int × Int))} {us : List Value}, Vals (ps.map (·.1)) us → (∀ p ∈ ps, ∀ u, RelV p.1 u → ∃ as, Reads h u (toPy (spD p.2)) as) → ∃ as, ReadsAll h us (prAt ps) as
  | [], _, .nil, _ => ⟨_, .nil⟩
  | p :: ps, _, .cons a b, f => by
    obtain ⟨as, r⟩ := f p List.mem_cons_self _ a
    obtain ⟨bs, rs⟩ := reads_pr (K := K) (H := H) b fun q hq => f q (List.mem_cons_of_mem _ hq)
    exact ⟨_, .cons r rs⟩
def rMinPr (K : Fg) : List V → Hp → VK → Prop := fun vs H Q => ∃ (a : Addr) (ps : List (V × (Int × Int))), vs = [V.ref a] ∧ SqL K H a (ps.map (·.1)) ∧ (∀ p ∈ ps, Dp K H p.1 (toPy (spD p.2))) ∧ ps ≠ [] ∧
  ∀ p ∈ ps, (∀ q ∈ ps, lePr p.2 q.2 = true) → Q p.1 H
theorem depth_pr {ps : List (V × (Int × Int))} : PyData.depthAll (prAt ps) ≤ 1 := by
  induction ps with
  | nil => simp [prAt, PyData.depthAll]
  | cons p ps ih =>
    have : PyData.depthAll (prAt (p :: ps)) = max (toPy (spD p.2)).depth (PyData.depthAll (prAt ps)) := rfl
    rw [this]
    have : (toPy (spD p.2)).depth ≤ 1 := by simp [spD, toPy, toPyA, PyData.depth, PyData.depthAll]
    omega
theorem cr_minPr (hc : X.calm = true) (hu : X.A.units + 64 < cLine) : CallR X (.builtin "min") (rMinPr X.K) := by
  intro pins s σ H vs us Q I r h
  obtain ⟨a, ps, rfl, hs, hd, hne, q⟩ := h
  obtain ⟨its, rv, hl, hz⟩ := I.list hs
  obtain ⟨u, rfl, ru⟩ := vals1 r
  obtain rfl : u = Value.ref a := ru
  obtain ⟨as, hr⟩ := reads_pr (K := X.K) (H := H) rv fun p hp u hr => Dp.reads I _ _ _ (hd p hp) hr
  have hlen := rv.length
  rw [List.length_map] at hlen
  have hpos : 0 < ps.length := List.length_pos_iff.mpr hne
  have hal : PySem.W.AlikeAll (prAt ps) := by
    refine ⟨fun x hx y hy => ?_, fun x hx => ?_⟩
    · obtain ⟨p, _, rfl⟩ := List.mem_map.mp hx
      obtain ⟨p', _, rfl⟩ := List.mem_map.mp hy
      simp [spD, toPy, toPyA, PySem.W.alike, PySem.W.alikeAll]
    · obtain ⟨p, _, rfl⟩ := List.mem_map.mp hx
      simp [spD, toPy]
  refine PySem.call_min_walkH (PySem.W.iter_listW (A := X.A.in1) (I.ok.hd hc) hl.isList fun s₂ e W st hfp hw hk => ?_)
  refine ⟨_, _, _, _, _, _, _, s.heap, _, rfl, W, st, hfp, ?_, hw, hk, PySem.W.cmpIn_lt (A := X.A.in1) (xs := prAt ps) hr hal (by
    have := depth_pr (ps := ps)
    show X.A.units + 1 + _ < _
    omega), fun v s' hP m => ?_⟩
  · show 0 < its.toArray.size
    rw [List.size_toArray]
    omega
  · obtain ⟨h', tk, rfl, hk'⟩ := PySem.W.moved_old e rfl m
    rw [List.size_toArray, ← hlen] at hP
    obtain ⟨b1, b2⟩ := best_pr (ps := ps) (ps.length - 1) (by omega)
    obtain ⟨p, hp⟩ : ∃ p, ps[argBest (fun i j => PySem.W.dataLt ((prAt ps).getD i .none) ((prAt ps).getD j .none)) (ps.length - 1)]? = some p := ⟨_, List.getElem?_eq_getElem (by omega)⟩
    have hv : (ps.map (·.1))[argBest (fun i j => PySem.W.dataLt ((prAt ps).getD i .none) ((prAt ps).getD j .none)) (ps.length - 1)]? = some p.1 := by rw [List.getElem?_map, hp]; rfl
    obtain ⟨w, e1, rw'⟩ := rv.get hv
    have e2 : its.toArray[argBest (fun i j => PySem.W.dataLt ((prAt ps).getD i .none) ((prAt ps).getD j .none)) (ps.length - 1)]? = some v := hP
    have e3 : some w = some v := by rw [← e1, ← e2]; simp
    cases e3
    refine ⟨p.1, H, I.kept (t' := tk) fun b o hb => hk' b o hb, rw', q p (List.mem_of_getElem? hp) fun q hq => ?_⟩
    obtain ⟨j, hj⟩ := List.getElem?_of_mem hq
    have := (List.getElem?_eq_some_iff.mp hj).1
    exact b2 j (by omega) p q hp hj
def cMinPr : CD := fun ds Q => match ds with
  | [.lst xs] => ∃ ps : List (Int × Int), xs = ps.map spD ∧ ps ≠ [] ∧ ∀ p ∈ ps, (∀ q ∈ ps, lePr p q = true) → Q (.va (spD p))
  | _ => False
theorem cb_minPr (hc : X.calm = true) (hu : X.A.units + 64 < cLine) (hK : X.K = z.K := by first | assumption | rfl) : CallB X z (.builtin "min") cMinPr := callB_of (cr_minPr hc hu) fun σ H S M ρ xs ds Q0 sim rb q => by
  unfold cMinPr at q
  split at q
  · obtain ⟨ps, rfl, hne, q⟩ := q
    cases rb with
    | cons r1 rr =>
      cases rr
      obtain ⟨a, ys, rfl, h1, k1⟩ := r1.lst sim.sub
      have hl := k1.length
      rw [List.length_map] at hl
      have e1 : (ys.zip ps).map (·.1) = ys := by rw [List.map_fst_zip]; omega
      have e2 : (ys.zip ps).map (·.2) = ps := by rw [List.map_snd_zip]; omega
      have e3 : ∀ p ∈ ys.zip ps, Rp z.K S p.1 (spD p.2) := fun p hp => by
        obtain ⟨j, hj⟩ := List.getElem?_of_mem hp
        rw [List.getElem?_zip_eq_some] at hj
        obtain ⟨w, h1, h2⟩ := k1.get (i := j) (d := spD p.2) (by rw [List.getElem?_map, hj.2]; rfl)
        rw [hj.1] at h1
        cases h1
        exact h2
      refine ⟨a, ys.zip ps, rfl, by rw [e1]; exact .of h1, fun p hp => by rw [hK]; exact Rp.dp sim.sub _ _ rfl (e3 p hp), fun w => hne (by rw [← e2, w]; rfl), fun p hp hle => ?_⟩
      refine poE_va sim (e3 p hp) (q p.2 (List.of_mem_zip hp).2 fun q hq => ?_)
      rw [← e2] at hq
      obtain ⟨q', hq', rfl⟩ := List.mem_map.mp hq
      exact hle q' hq'
  · exact q.elim
end
end PL
namespace Lw
open PySem PySem.Spec PyProof.Rows L2 PL
local macro_rules | `(tactic| walk_at "go") => `(tactic| repeat' (first | assumption | with_reducible apply And.intro | walk_at "cs"))
local macro_rules | `(tactic| walk_at "ex") => `(tactic| simp only [List.cons.injEq, Sl.va.injEq, Sl.ow.injEq, Ow.lst.injEq, D.int.injEq, D.bl.injEq, D.str.injEq, D.lst.injEq, D.tup.injEq, true_and, and_true])
local macro_rules | `(tactic| walk_at "gn") => `(tactic| simp only [↓gN, ↓gsNil, ↓gsCons, ↓gT, ↓gSq, List.length_cons, List.length_nil, Nat.reduceAdd, true_and, List.set_cons_zero, List.set_cons_succ])
local macro_rules | `(tactic| walk_at "sp") => `(tactic| repeat' (first | split | with_reducible apply And.intro))
local macro_rules | `(tactic| walk_at "cs") => `(tactic| first | (unfold CMulP; omega) | (unfold CPowP; omega) | (unfold CModP; omega) | (unfold CDivP; omega))
local macro_rules | `(tactic| walk_at "pl") => `(tactic| simp only [↓sSeq, ↓sAsg, ↓sRet, ↓sRetN, ↓sIf, ↓sDrop, ↓sPar, ↓sAug, ↓sNext, ↓sTgt, ↓sApp, ↓sExt, ↓sPop, ↓sSet, ↓sBreak, ↓sCont, ↓eVar, ↓bVar, ↓eMov, ↓bE, ↓eBin, ↓tE, ↓eChain_eq, chS_bl, chS_true, chS_false, wipeE_nil, wipeE_cons, ↓eUn, ↓qAnd, ↓qOr, ↓qNot, ↓eAnd_eq, ↓eOr_eq, ↓sNever, ↓eNot, ↓eIf, ↓aNil, ↓aCons, ↓aConsB, ↓eTup, ↓eLst, ↓iSeq, ↓iR1, ↓iR2, ↓iEnum1, ↓iRev1, ↓cSortD, ↓sAugIt, ↓cMinPr,  ↓gN, ↓gsNil, ↓gsCons, ↓gT, ↓eCall, ↓eCallX, ↓sRaise, ↓sTry, ↓dI2, ↓dAdd, ↓dEq, ↓dNe, ↓dIsN, ↓dNotN, ↓dIx, ↓oNone, ↓oSome, ↓eSl, ↓eB, ↓cLen, ↓cInt, ↓cAbs, ↓cMax2, ↓cMin2, ↓cDivmod, ↓cList, ↓cTuple, ↓cSum, ↓cMax, ↓cMin, ↓cAll, ↓cAny, ↓cSorted, ↓dIn, ↓dInX, ↓eM, ↓mIndex, ↓tyM, ↓gSq, ↓cSet, natc0, natc1, natc2, List.findIdx?_cons, List.findIdx?_nil, intsOf_ints, boolsOf_bls, plAnyI, plAnyR, ↓cGcd, ↓cLcm, ↓eRange, ↓eIsi, ↓Sl.val, ↓Ow.toD, ↓stE, ↓tYes', ↓eIxM, ↓sSetM, ↓PL.isNon, ↓eC, ↓bC, ↓dSub, ↓dMul, ↓dDiv, ↓dMod, ↓dPow, ↓dLt, ↓dLe, ↓dGt, ↓dGe, ↓dAddI, ↓dDivS, ↓dEqI, ↓dNeI,
  List.getElem?_cons_zero, List.getElem?_cons_succ, List.set_cons_zero, List.set_cons_succ, List.map_cons, List.map_nil, List.length_cons, List.length_nil, List.nil_append, List.cons_append, List.replicate_succ, List.replicate_zero, List.append_nil, atI0, atI1, atI2, atI3, atI4,
  cmpOk_int, cmpOk_bl, cmpOk_non, deq_int, deq_bl, true_and, and_true, Nat.reduceAdd, Nat.reduceSub, Nat.reduceLeDiff, Nat.reduceLT, Bool.not_eq_true', Bool.false_eq_true, if_false, if_true, decide_eq_true_eq, decide_eq_false_iff_not, Nat.zero_add, Nat.sub_zero, Nat.add_zero, Nat.sub_self, isi_non_bool, isi_non_int, isi_non_str, isi_non_list, isi_non_tuple, isi_bl_bool, isi_bl_int, isi_bl_str, isi_bl_list, isi_bl_tuple, isi_int_bool, isi_int_int, isi_int_str, isi_int_list, isi_int_tuple, isi_str_bool, isi_str_int, isi_str_str, isi_str_list, isi_str_tuple, isi_lst_bool, isi_lst_int, isi_lst_str, isi_lst_list, isi_lst_tuple, isi_tup_bool, isi_tup_int, isi_tup_str, isi_tup_list, isi_tup_tuple, ixN31, ixN32, List.length_map, List.length_set, Int.reduceToNat, Int.reducePow, Int.reduceNeg, Int.reduceAdd, Int.reduceSub, Int.reduceMul, Int.reduceLT, Int.reduceLE, Int.reduceEq, Nat.reduceEqDiff, reduceCtorEq, List.mem_singleton, eq_self, not_true_eq_false, not_false_eq_true, or_true, true_or, cmpOk_lstA, cmpOk_tupA, ckA_lst, ckA_tup, ckAl_nil, ckAl_cons, ckAl_ints, ckAl_rangeL, ck_int, ck_bl, ck_non, ck_strI, cmpOk_str, deq_str, deq_tup, deq_lst, deqA_nil, deqA_cons, deqA_ints, Bool.and_true, Bool.true_and, Bool.and_false, Bool.false_and, decide_true, decide_false, Bool.not_true, Bool.not_false])

theorem so0 : PyData.strOk (Str.ofString "ann") = true := by decide +kernel
theorem sn0_1 : (Str.ofString "ann" = Str.ofString "bob") = False := eq_false (by decide +kernel)
theorem sn0_2 : (Str.ofString "ann" = Str.ofString "cy") = False := eq_false (by decide +kernel)
theorem sn0_3 : (Str.ofString "ann" = Str.ofString "dee") = False := eq_false (by decide +kernel)
theorem so1 : PyData.strOk (Str.ofString "bob") = true := by decide +kernel
theorem sn1_0 : (Str.ofString "bob" = Str.ofString "ann") = False := eq_false (by decide +kernel)
theorem sn1_2 : (Str.ofString "bob" = Str.ofString "cy") = False := eq_false (by decide +kernel)
theorem sn1_3 : (Str.ofString "bob" = Str.ofString "dee") = False := eq_false (by decide +kernel)
theorem so2 : PyData.strOk (Str.ofString "cy") = true := by decide +kernel
theorem sn2_0 : (Str.ofString "cy" = Str.ofString "ann") = False := eq_false (by decide +kernel)
theorem sn2_1 : (Str.ofString "cy" = Str.ofString "bob") = False := eq_false (by decide +kernel)
theorem sn2_3 : (Str.ofString "cy" = Str.ofString "dee") = False := eq_false (by decide +kernel)
theorem so3 : PyData.strOk (Str.ofString "dee") = true := by decide +kernel
theorem sn3_0 : (Str.ofString "dee" = Str.ofString "ann") = False := eq_false (by decide +kernel)
theorem sn3_1 : (Str.ofString "dee" = Str.ofString "bob") = False := eq_false (by decide +kernel)
theorem sn3_2 : (Str.ofString "dee" = Str.ofString "cy") = False := eq_false (by decide +kernel)
def topS (i : Nat) : Stmt := PySem.Challenge.pw_everdays_k71_duties_dealt_out.main.body.getD i (.Pass ⟨0, 0, 0, 0⟩)
abbrev s_primes_of : Stmt := topS 4
abbrev N_primes_of : List Str := ["n", "found", "p"]
theorem sc_primes_of : FnScope N_primes_of ["n"] (defScope s_primes_of) := ⟨rfl, rfl, rfl, by decide +kernel, rfl, by decide +kernel, by decide +kernel⟩
abbrev s_place_in : Stmt := topS 6
abbrev N_place_in : List Str := ["residues", "r", "low", "high", "middle"]
theorem sc_place_in : FnScope N_place_in ["residues", "r"] (defScope s_place_in) := ⟨rfl, rfl, rfl, by decide +kernel, rfl, by decide +kernel, by decide +kernel⟩
abbrev s_shrunk : Stmt := topS 7
abbrev N_shrunk : List Str := ["period", "residues", "p", "r"]
theorem sc_shrunk : FnScope N_shrunk ["period", "residues"] (defScope s_shrunk) := ⟨rfl, rfl, rfl, by decide +kernel, rfl, by decide +kernel, by decide +kernel⟩
abbrev s_repeats : Stmt := topS 8
abbrev N_repeats : List Str := ["period", "residues", "step", "known", "r"]
theorem sc_repeats : FnScope N_repeats ["period", "residues", "step"] (defScope s_repeats) := ⟨rfl, rfl, rfl, by decide +kernel, rfl, by decide +kernel, by decide +kernel⟩
abbrev s_has : Stmt := topS 9
abbrev N_has : List Str := ["period", "residues", "d", "r", "place"]
theorem sc_has : FnScope N_has ["period", "residues", "d"] (defScope s_has) := ⟨rfl, rfl, rfl, by decide +kernel, rfl, by decide +kernel, by decide +kernel⟩
abbrev s_first_from : Stmt := topS 10
abbrev N_first_from : List Str := ["period", "residues", "d", "base", "place"]
theorem sc_first_from : FnScope N_first_from ["period", "residues", "d"] (defScope s_first_from) := ⟨rfl, rfl, rfl, by decide +kernel, rfl, by decide +kernel, by decide +kernel⟩
abbrev s_tidied : Stmt := topS 12
abbrev N_tidied : List Str := ["pieces", "found", "start", "period", "residues"]
theorem sc_tidied : FnScope N_tidied ["pieces"] (defScope s_tidied) := ⟨rfl, rfl, rfl, by decide +kernel, rfl, by decide +kernel, by decide +kernel⟩
abbrev s_windows : Stmt := topS 13
abbrev N_windows : List Str := ["pattern", "found", "k", "start", "period", "residues", "end"]
theorem sc_windows : FnScope N_windows ["pattern"] (defScope s_windows) := ⟨rfl, rfl, rfl, by decide +kernel, rfl, by decide +kernel, by decide +kernel⟩
abbrev s_belongs : Stmt := topS 14
abbrev N_belongs : List Str := ["pattern", "day", "place"]
theorem sc_belongs : FnScope N_belongs ["pattern", "day"] (defScope s_belongs) := ⟨rfl, rfl, rfl, by decide +kernel, rfl, by decide +kernel, by decide +kernel⟩
abbrev s_days_between : Stmt := topS 15
abbrev N_days_between : List Str := ["pattern", "first", "end", "found", "start", "stop", "kind", "upto", "day"]
theorem sc_days_between : FnScope N_days_between ["pattern", "first", "end"] (defScope s_days_between) := ⟨rfl, rfl, rfl, by decide +kernel, rfl, by decide +kernel, by decide +kernel⟩
abbrev s_dealt_out : Stmt := topS 17
abbrev N_dealt_out : List Str := ["days", "names", "away", "first", "end", "loads", "found", "day", "there", "k", "name"]
theorem sc_dealt_out : FnScope N_dealt_out ["days", "names", "away", "first", "end"] (defScope s_dealt_out) := ⟨rfl, rfl, rfl, by decide +kernel, rfl, by decide +kernel, by decide +kernel⟩
abbrev s_loads_of : Stmt := topS 18
abbrev N_loads_of : List Str := ["dealt", "names", "one", "day", "name"]
theorem sc_loads_of : FnScope N_loads_of ["dealt", "names"] (defScope s_loads_of) := ⟨rfl, rfl, rfl, by decide +kernel, rfl, by decide +kernel, by decide +kernel⟩
abbrev s_unmanned : Stmt := topS 19
abbrev N_unmanned : List Str := ["dealt", "day", "name"]
theorem sc_unmanned : FnScope N_unmanned ["dealt"] (defScope s_unmanned) := ⟨rfl, rfl, rfl, by decide +kernel, rfl, by decide +kernel, by decide +kernel⟩
abbrev s_spread_of : Stmt := topS 20
abbrev N_spread_of : List Str := ["dealt", "names", "loads"]
theorem sc_spread_of : FnScope N_spread_of ["dealt", "names"] (defScope s_spread_of) := ⟨rfl, rfl, rfl, by decide +kernel, rfl, by decide +kernel, by decide +kernel⟩
abbrev s_runs_of : Stmt := topS 21
abbrev N_runs_of : List Str := ["dealt", "name", "best", "now", "day", "other"]
theorem sc_runs_of : FnScope N_runs_of ["dealt", "name"] (defScope s_runs_of) := ⟨rfl, rfl, rfl, by decide +kernel, rfl, by decide +kernel, by decide +kernel⟩
abbrev s__law_draw : Stmt := topS 23
abbrev N__law_draw : List Str := ["tape", "many", "cells", "k", "cell", "digit"]
theorem sc__law_draw : FnScope N__law_draw ["tape", "many"] (defScope s__law_draw) := ⟨rfl, rfl, rfl, by decide +kernel, rfl, by decide +kernel, by decide +kernel⟩
abbrev s__law_tape : Stmt := topS 24
abbrev N__law_tape : List Str := ["script"]
theorem sc__law_tape : FnScope N__law_tape ["script"] (defScope s__law_tape) := ⟨rfl, rfl, rfl, by decide +kernel, rfl, by decide +kernel, by decide +kernel⟩
abbrev s__law_mod : Stmt := topS 25
abbrev N__law_mod : List Str := ["a", "n"]
theorem sc__law_mod : FnScope N__law_mod ["a", "n"] (defScope s__law_mod) := ⟨rfl, rfl, rfl, by decide +kernel, rfl, by decide +kernel, by decide +kernel⟩
abbrev s__law_subset : Stmt := topS 26
abbrev N__law_subset : List Str := ["tape", "size", "most", "found", "k", "r"]
theorem sc__law_subset : FnScope N__law_subset ["tape", "size", "most"] (defScope s__law_subset) := ⟨rfl, rfl, rfl, by decide +kernel, rfl, by decide +kernel, by decide +kernel⟩
abbrev s__law_pieces : Stmt := topS 27
abbrev N__law_pieces : List Str := ["tape", "start", "found", "k", "period"]
theorem sc__law_pieces : FnScope N__law_pieces ["tape"] (defScope s__law_pieces) := ⟨rfl, rfl, rfl, by decide +kernel, rfl, by decide +kernel, by decide +kernel⟩
abbrev s__law_in : Stmt := topS 28
abbrev N__law_in : List Str := ["pieces", "day", "found", "start", "period", "residues"]
theorem sc__law_in : FnScope N__law_in ["pieces", "day"] (defScope s__law_in) := ⟨rfl, rfl, rfl, by decide +kernel, rfl, by decide +kernel, by decide +kernel⟩
abbrev s__law_refused : Stmt := topS 29
abbrev N__law_refused : List Str := ["names", "away"]
theorem sc__law_refused : FnScope N__law_refused ["names", "away"] (defScope s__law_refused) := ⟨rfl, rfl, rfl, by decide +kernel, rfl, by decide +kernel, by decide +kernel⟩
abbrev s_law : Stmt := topS 30
abbrev N_law : List Str := ["script", "tape", "names", "rows", "duty", "first", "end", "loads", "due", "day", "best", "k", "told", "name", "n", "row", "other"]
theorem sc_law : FnScope N_law ["script"] (defScope s_law) := ⟨rfl, rfl, rfl, by decide +kernel, rfl, by decide +kernel, by decide +kernel⟩
abbrev FnP (K : Fg) (x : Str) (st : Stmt) (f : Addr) (fd : FuncData) : Prop := FunD K x x (defArgs st) (defBody st) (defScope st) [] [] f fd
/-- what the top leaves -/
structure TF (K : Fg) (mg : Str → Option Value) where
  a_primes_of : Addr
  x_primes_of : FuncData
  f_primes_of : FnP K "primes_of" s_primes_of a_primes_of x_primes_of
  g_primes_of : mg "primes_of" = some (.ref a_primes_of)
  b_primes_of : Binds K x_primes_of ["n"] []
  a_place_in : Addr
  x_place_in : FuncData
  f_place_in : FnP K "place_in" s_place_in a_place_in x_place_in
  g_place_in : mg "place_in" = some (.ref a_place_in)
  b_place_in : Binds K x_place_in ["residues", "r"] []
  a_shrunk : Addr
  x_shrunk : FuncData
  f_shrunk : FnP K "shrunk" s_shrunk a_shrunk x_shrunk
  g_shrunk : mg "shrunk" = some (.ref a_shrunk)
  b_shrunk : Binds K x_shrunk ["period", "residues"] []
  a_repeats : Addr
  x_repeats : FuncData
  f_repeats : FnP K "repeats" s_repeats a_repeats x_repeats
  g_repeats : mg "repeats" = some (.ref a_repeats)
  b_repeats : Binds K x_repeats ["period", "residues", "step"] []
  a_has : Addr
  x_has : FuncData
  f_has : FnP K "has" s_has a_has x_has
  g_has : mg "has" = some (.ref a_has)
  b_has : Binds K x_has ["period", "residues", "d"] []
  a_first_from : Addr
  x_first_from : FuncData
  f_first_from : FnP K "first_from" s_first_from a_first_from x_first_from
  g_first_from : mg "first_from" = some (.ref a_first_from)
  b_first_from : Binds K x_first_from ["period", "residues", "d"] []
  a_tidied : Addr
  x_tidied : FuncData
  f_tidied : FnP K "tidied" s_tidied a_tidied x_tidied
  g_tidied : mg "tidied" = some (.ref a_tidied)
  b_tidied : Binds K x_tidied ["pieces"] []
  a_windows : Addr
  x_windows : FuncData
  f_windows : FnP K "windows" s_windows a_windows x_windows
  g_windows : mg "windows" = some (.ref a_windows)
  b_windows : Binds K x_windows ["pattern"] []
  a_belongs : Addr
  x_belongs : FuncData
  f_belongs : FnP K "belongs" s_belongs a_belongs x_belongs
  g_belongs : mg "belongs" = some (.ref a_belongs)
  b_belongs : Binds K x_belongs ["pattern", "day"] []
  a_days_between : Addr
  x_days_between : FuncData
  f_days_between : FnP K "days_between" s_days_between a_days_between x_days_between
  g_days_between : mg "days_between" = some (.ref a_days_between)
  b_days_between : Binds K x_days_between ["pattern", "first", "end"] []
  a_dealt_out : Addr
  x_dealt_out : FuncData
  f_dealt_out : FnP K "dealt_out" s_dealt_out a_dealt_out x_dealt_out
  g_dealt_out : mg "dealt_out" = some (.ref a_dealt_out)
  b_dealt_out : Binds K x_dealt_out ["days", "names", "away", "first", "end"] []
  a_loads_of : Addr
  x_loads_of : FuncData
  f_loads_of : FnP K "loads_of" s_loads_of a_loads_of x_loads_of
  g_loads_of : mg "loads_of" = some (.ref a_loads_of)
  b_loads_of : Binds K x_loads_of ["dealt", "names"] []
  a_unmanned : Addr
  x_unmanned : FuncData
  f_unmanned : FnP K "unmanned" s_unmanned a_unmanned x_unmanned
  g_unmanned : mg "unmanned" = some (.ref a_unmanned)
  b_unmanned : Binds K x_unmanned ["dealt"] []
  a_spread_of : Addr
  x_spread_of : FuncData
  f_spread_of : FnP K "spread_of" s_spread_of a_spread_of x_spread_of
  g_spread_of : mg "spread_of" = some (.ref a_spread_of)
  b_spread_of : Binds K x_spread_of ["dealt", "names"] []
  a_runs_of : Addr
  x_runs_of : FuncData
  f_runs_of : FnP K "runs_of" s_runs_of a_runs_of x_runs_of
  g_runs_of : mg "runs_of" = some (.ref a_runs_of)
  b_runs_of : Binds K x_runs_of ["dealt", "name"] []
  a__law_draw : Addr
  x__law_draw : FuncData
  f__law_draw : FnP K "_law_draw" s__law_draw a__law_draw x__law_draw
  g__law_draw : mg "_law_draw" = some (.ref a__law_draw)
  b__law_draw : Binds K x__law_draw ["tape", "many"] []
  a__law_tape : Addr
  x__law_tape : FuncData
  f__law_tape : FnP K "_law_tape" s__law_tape a__law_tape x__law_tape
  g__law_tape : mg "_law_tape" = some (.ref a__law_tape)
  b__law_tape : Binds K x__law_tape ["script"] []
  a__law_mod : Addr
  x__law_mod : FuncData
  f__law_mod : FnP K "_law_mod" s__law_mod a__law_mod x__law_mod
  g__law_mod : mg "_law_mod" = some (.ref a__law_mod)
  b__law_mod : Binds K x__law_mod ["a", "n"] []
  a__law_subset : Addr
  x__law_subset : FuncData
  f__law_subset : FnP K "_law_subset" s__law_subset a__law_subset x__law_subset
  g__law_subset : mg "_law_subset" = some (.ref a__law_subset)
  b__law_subset : Binds K x__law_subset ["tape", "size", "most"] []
  a__law_pieces : Addr
  x__law_pieces : FuncData
  f__law_pieces : FnP K "_law_pieces" s__law_pieces a__law_pieces x__law_pieces
  g__law_pieces : mg "_law_pieces" = some (.ref a__law_pieces)
  b__law_pieces : Binds K x__law_pieces ["tape"] []
  a__law_in : Addr
  x__law_in : FuncData
  f__law_in : FnP K "_law_in" s__law_in a__law_in x__law_in
  g__law_in : mg "_law_in" = some (.ref a__law_in)
  b__law_in : Binds K x__law_in ["pieces", "day"] []
  a__law_refused : Addr
  x__law_refused : FuncData
  f__law_refused : FnP K "_law_refused" s__law_refused a__law_refused x__law_refused
  g__law_refused : mg "_law_refused" = some (.ref a__law_refused)
  b__law_refused : Binds K x__law_refused ["names", "away"] []
  a_law : Addr
  x_law : FuncData
  f_law : FnP K "law" s_law a_law x_law
  g_law : mg "law" = some (.ref a_law)
  b_law : Binds K x_law ["script"] []
  g_BadSeries : mg "BadSeries" = some (.ref (He.ga K "BadSeries"))
  q_BadSeries : PySem.W.excIn K (He.ga K "BadSeries") [.type "ValueError", .type "Exception", .type "BaseException", .type "object"] "ValueError.__new__" = true
  k_BadSeries : PySem.W.keepIn K (.ref (He.ga K "BadSeries")) = true
  b_BadSeries : PySem.W.subIn K (.ref (He.ga K "BadSeries")) (.type "BaseException") = some true
  t_BadSeries : PySem.W.typeIn K (.ref (He.ga K "BadSeries")) = some (.type "type")
  e_BadSeries_BadSeries : PySem.W.exmOne K (clsV K "BadSeries") (clsV K "BadSeries") = some true
  m_all : mg "all" = none
  m_enumerate : mg "enumerate" = none
  m_int : mg "int" = none
  m_len : mg "len" = none
  m_list : mg "list" = none
  m_max : mg "max" = none
  m_min : mg "min" = none
  m_range : mg "range" = none
  m_set : mg "set" = none
  m_sorted : mg "sorted" = none
  m_tuple : mg "tuple" = none
section
variable {P : Program} {w : World} {K : Fg} {mg : Str → Option Value} {base : Heap}
def cat_BadSeries : Str → Option Bool := fun c => if c = "BadSeries" then some true else none
theorem TF.ct_BadSeries (T : TF K mg) : ∀ (c : Str) (b : Bool), cat_BadSeries c = some b → PySem.W.exmOne K (clsV K c) (clsV K "BadSeries") = some b := by
  intro c b h
  unfold cat_BadSeries at h
  split at h
  · rename_i e; subst e; cases h; exact T.e_BadSeries_BadSeries
  cases h
theorem hu64 {k : Nat} {A : Around} (hr : Room k A) : A.units + 64 < cLine := hr.units
theorem hu65 {k : Nat} {A : Around} (hr : Room k A) : A.units + 65 < cLine := by have := hr.un; omega
theorem asc_ext : ∀ {as bs : List Int}, Asc as → Asc bs → (∀ k, k ∈ as ↔ k ∈ bs) → as = bs
  | [], [], _, _, _ => rfl
  | [], b :: bs, _, _, h => absurd ((h b).mpr List.mem_cons_self) (by simp)
  | a :: as, [], _, _, h => absurd ((h a).mp List.mem_cons_self) (by simp)
  | a :: as, b :: bs, ha, hb, h => by
    have ha1 := (List.pairwise_cons.mp ha).1
    have hb1 := (List.pairwise_cons.mp hb).1
    have e : a = b := by
      have h1 := (h a).mp List.mem_cons_self
      have h2 := (h b).mpr List.mem_cons_self
      rcases List.mem_cons.mp h1 with e | h1
      · exact e
      · rcases List.mem_cons.mp h2 with e | h2
        · exact e.symm
        · have := ha1 b h2
          have := hb1 a h1
          omega
    subst e
    congr 1
    refine asc_ext (List.pairwise_cons.mp ha).2 (List.pairwise_cons.mp hb).2 fun k => ?_
    constructor
    · intro hk
      rcases List.mem_cons.mp ((h k).mp (List.mem_cons_of_mem _ hk)) with e | w
      · have := ha1 k hk
        omega
      · exact w
    · intro hk
      rcases List.mem_cons.mp ((h k).mpr (List.mem_cons_of_mem _ hk)) with e | w
      · have := hb1 k hk
        omega
      · exact w
theorem asc_snoc {as : List Int} {a : Int} (h : Asc as) (k : ∀ b ∈ as, b < a) : Asc (as ++ [a]) := by
  refine List.pairwise_append.mpr ⟨h, by simp, fun b hb c hc => ?_⟩
  rw [List.mem_singleton.mp hc]
  exact k b hb
theorem asc_len : ∀ {as : List Int} {a b : Int}, Asc as → (∀ k ∈ as, a ≤ k ∧ k < b) → a ≤ b → (as.length : Int) ≤ b - a
  | [], a, b, _, _, h => by simp; omega
  | c :: as, a, b, hA, hm, h => by
    have h1 := hm c List.mem_cons_self
    have := asc_len (a := c + 1) (b := b) (List.pairwise_cons.mp hA).2 (fun k hk => ⟨by have := (List.pairwise_cons.mp hA).1 k hk; omega, (hm k (List.mem_cons_of_mem _ hk)).2⟩) (by omega)
    rw [List.length_cons]
    omega
theorem perm_asc {as bs : List Int} (h : as.Perm bs) (ha : as.Pairwise (· ≤ ·)) (hb : Asc bs) : as = bs :=
  asc_ext (asc_of ha (h.nodup_iff.mpr (hb.imp fun {a b} h => by omega))) hb fun k => h.mem_iff
theorem asc_filter {p : Int → Bool} {ns : List Int} (h : Asc ns) : Asc (ns.filter p) := h.sublist List.filter_sublist
def IsPr (q : Int) : Prop := 2 ≤ q ∧ ∀ d, 2 ≤ d → d < q → ¬ d ∣ q
theorem pr_euclid {q a b : Int} (h : IsPr q) (hd : q ∣ a * b) (ha : ¬ q ∣ a) : q ∣ b := by
  have hg : Nat.gcd q.natAbs a.natAbs = 1 := by
    have h1 : (Nat.gcd q.natAbs a.natAbs) ∣ q.natAbs := Nat.gcd_dvd_left _ _
    have h2 : (Nat.gcd q.natAbs a.natAbs) ∣ a.natAbs := Nat.gcd_dvd_right _ _
    have hq := h.1
    have h3 := Nat.le_of_dvd (by omega) h1
    generalize Nat.gcd q.natAbs a.natAbs = g at *
    have h4 : (g : Int) ∣ q := Int.ofNat_dvd_left.mpr h1
    have h5 : (g : Int) ∣ a := Int.ofNat_dvd_left.mpr h2
    have g0 : g ≠ 0 := by
      rintro rfl
      have := Nat.eq_zero_of_zero_dvd h1
      omega
    rcases (by omega : g = 1 ∨ (2 ≤ g ∧ (g : Int) < q) ∨ (g : Int) = q) with e | e | e
    · exact e
    · exact absurd h4 (h.2 g (by omega) e.2)
    · exact absurd (e ▸ h5) ha
  have h6 : q.natAbs ∣ a.natAbs * b.natAbs := by
    rw [← Int.natAbs_mul]
    exact Int.natAbs_dvd_natAbs.mpr hd
  exact Int.natAbs_dvd_natAbs.mp (Nat.Coprime.dvd_of_dvd_mul_left hg h6)
theorem pr_ne {p q : Int} (hp : IsPr p) (hq : IsPr q) (h : q ≠ p) : ¬ q ∣ p := by
  intro hd
  have h1 := Int.le_of_dvd (by have := hp.1; omega) hd
  exact hp.2 q hq.1 (by omega) hd
/-- the primes below p are found and divided out -/
structure PrInv (n0 n p : Int) (ps : List Int) : Prop where
  asc : Asc ps
  mem : ∀ q, q ∈ ps ↔ IsPr q ∧ q ∣ n0 ∧ q < p
  nod : ∀ d, 2 ≤ d → d < p → ¬ d ∣ n
  big : ∀ q, IsPr q → p ≤ q → (q ∣ n0 ↔ q ∣ n)
  pos : 1 ≤ n
  dv : n ∣ n0
/-- p is found, and is being divided out -/
structure PrMid (n0 n p : Int) (ps : List Int) : Prop where
  asc : Asc ps
  mem : ∀ q, q ∈ ps ↔ IsPr q ∧ q ∣ n0 ∧ q < p + 1
  nod : ∀ d, 2 ≤ d → d < p → ¬ d ∣ n
  big : ∀ q, IsPr q → p + 1 ≤ q → (q ∣ n0 ↔ q ∣ n)
  pos : 1 ≤ n
  pr : IsPr p
  dv : n ∣ n0
theorem PrInv.start {n : Int} (h : 1 ≤ n) : PrInv n n 2 [] :=
  ⟨by simp, fun q => by simp only [List.not_mem_nil, false_iff]; rintro ⟨h1, _, h2⟩; have := h1.1; omega, fun d h1 h2 => by omega, fun q _ _ => Iff.rfl, h, Int.dvd_refl n⟩
theorem PrInv.skip {n0 n p : Int} {ps : List Int} (h : PrInv n0 n p ps) (hp : 2 ≤ p) (hd : ¬ p ∣ n) : PrInv n0 n (p + 1) ps := by
  refine ⟨h.asc, fun q => ?_, fun d h1 h2 => ?_, fun q h1 h2 => h.big q h1 (by omega), h.pos, h.dv⟩
  · rw [h.mem q]
    constructor
    · rintro ⟨a, b, c⟩; exact ⟨a, b, by omega⟩
    · rintro ⟨a, b, c⟩
      refine ⟨a, b, ?_⟩
      rcases (by omega : q < p ∨ q = p) with e | e
      · exact e
      · subst e
        exact absurd ((h.big q a (Int.le_refl _)).mp b) hd
  · rcases (by omega : d < p ∨ d = p) with e | e
    · exact h.nod d h1 e
    · rw [e]; exact hd
theorem PrInv.found {n0 n p : Int} {ps : List Int} (h : PrInv n0 n p ps) (hp : 2 ≤ p) (hd : p ∣ n) : PrMid n0 n p (ps ++ [p]) := by
  have pp : IsPr p := ⟨hp, fun d h1 h2 h3 => h.nod d h1 h2 (Int.dvd_trans h3 hd)⟩
  refine ⟨asc_snoc h.asc fun b hb => ((h.mem b).mp hb).2.2, fun q => ?_, h.nod, fun q h1 h2 => h.big q h1 (by omega), h.pos, pp, h.dv⟩
  rw [List.mem_append, h.mem q, List.mem_singleton]
  constructor
  · rintro (⟨a, b, c⟩ | rfl)
    · exact ⟨a, b, by omega⟩
    · exact ⟨pp, (h.big q pp (Int.le_refl _)).mpr hd, by omega⟩
  · rintro ⟨a, b, c⟩
    rcases (by omega : q < p ∨ q = p) with e | e
    · exact .inl ⟨a, b, e⟩
    · exact .inr e
theorem PrMid.div {n0 n p : Int} {ps : List Int} (h : PrMid n0 n p ps) (hd : p ∣ n) : PrMid n0 (n / p) p ps := by
  have hp := h.pr.1
  obtain ⟨k, rfl⟩ := hd
  have e : p * k / p = k := Int.mul_ediv_cancel_left k (by omega)
  rw [e]
  have hk : 1 ≤ k := by
    have := h.pos
    rcases Int.lt_or_le 0 k with w | w
    · omega
    · have : p * k ≤ 0 := Int.mul_nonpos_of_nonneg_of_nonpos (by omega) w
      omega
  refine ⟨h.asc, h.mem, fun d h1 h2 h3 => h.nod d h1 h2 (Int.dvd_mul_of_dvd_right h3), fun q h1 h2 => ?_, hk, h.pr, Int.dvd_trans (Int.dvd_mul_left p k) h.dv⟩
  rw [h.big q h1 h2]
  exact ⟨fun w => pr_euclid h1 w (pr_ne h.pr h1 (by omega)), fun w => Int.dvd_mul_of_dvd_right w⟩
theorem PrMid.fin {n0 n p : Int} {ps : List Int} (h : PrMid n0 n p ps) (hd : ¬ p ∣ n) : PrInv n0 n (p + 1) ps := by
  refine ⟨h.asc, h.mem, fun d h1 h2 => ?_, h.big, h.pos, h.dv⟩
  rcases (by omega : d < p ∨ d = p) with e | e
  · exact h.nod d h1 e
  · rw [e]; exact hd
/-- the prime divisors -/
def PrimesOf (n : Int) (ps : List Int) : Prop := Asc ps ∧ ∀ q, q ∈ ps ↔ IsPr q ∧ q ∣ n
theorem PrimesOf.uniq {n : Int} {ps qs : List Int} (h : PrimesOf n ps) (k : PrimesOf n qs) : ps = qs := asc_ext h.1 k.1 fun q => by rw [h.2 q, k.2 q]
theorem PrInv.one {n0 p : Int} {ps : List Int} (h : PrInv n0 1 p ps) (hp : 2 ≤ p) : PrimesOf n0 ps := by
  refine ⟨h.asc, fun q => ?_⟩
  rw [h.mem q]
  constructor
  · rintro ⟨a, b, _⟩; exact ⟨a, b⟩
  · rintro ⟨a, b⟩
    refine ⟨a, b, ?_⟩
    rcases Int.lt_or_le q p with e | e
    · exact e
    · have := Int.le_of_dvd (by omega) ((h.big q a e).mp b)
      have := a.1
      omega
theorem PrInv.last {n0 n p : Int} {ps : List Int} (h : PrInv n0 n p ps) (hp : 2 ≤ p) (hn : n < p * p) (h1 : 1 < n) : PrimesOf n0 (ps ++ [n]) := by
  have pn : IsPr n := by
    refine ⟨by omega, fun d h2 h3 h4 => ?_⟩
    obtain ⟨k, hk⟩ := h4
    have k2 : 2 ≤ k := by
      rcases (by omega : k ≤ 0 ∨ k = 1 ∨ 2 ≤ k) with w | w | w
      · have : d * k ≤ 0 := Int.mul_nonpos_of_nonneg_of_nonpos (by omega) w
        omega
      · rw [w] at hk; omega
      · exact w
    have d1 : p ≤ d := by
      rcases Int.lt_or_le d p with w | w
      · exact absurd ⟨k, hk⟩ (h.nod d h2 w)
      · exact w
    have d2 : p ≤ k := by
      rcases Int.lt_or_le k p with w | w
      · exact absurd (⟨d, by rw [hk, Int.mul_comm]⟩ : k ∣ n) (h.nod k k2 w)
      · exact w
    have := Int.mul_le_mul d1 d2 (by omega) (by omega)
    omega
  have hle : p ≤ n := by
    rcases Int.lt_or_le n p with w | w
    · exact absurd (Int.dvd_refl n) (h.nod n (by omega) w)
    · exact w
  refine ⟨asc_snoc h.asc fun b hb => by have := ((h.mem b).mp hb).2.2; omega, fun q => ?_⟩
  rw [List.mem_append, h.mem q, List.mem_singleton]
  constructor
  · rintro (⟨a, b, c⟩ | rfl)
    · exact ⟨a, b⟩
    · exact ⟨pn, h.dv⟩
  · rintro ⟨a, b⟩
    rcases Int.lt_or_le q p with e | e
    · exact .inl ⟨a, b, e⟩
    · have hq := (h.big q a e).mp b
      refine .inr ?_
      rcases (by have := Int.le_of_dvd (by omega) hq; omega : q < n ∨ q = n) with w | w
      · exact absurd hq (pn.2 q a.1 w)
      · exact w
/-- a number above 1 has a prime divisor -/
theorem pr_ex : ∀ (k : Nat) {n : Int}, 2 ≤ n → n.toNat ≤ k → ∃ q, IsPr q ∧ q ∣ n
  | 0, n, h, hk => by omega
  | k + 1, n, h, hk => by
    by_cases e : IsPr n
    · exact ⟨n, e, Int.dvd_refl n⟩
    · have : ∃ d, 2 ≤ d ∧ d < n ∧ d ∣ n := by
        refine Classical.byContradiction fun w => e ⟨h, fun d h1 h2 h3 => w ⟨d, h1, h2, h3⟩⟩
      obtain ⟨d, h1, h2, h3⟩ := this
      obtain ⟨q, a, b⟩ := pr_ex k h1 (by omega)
      exact ⟨q, a, Int.dvd_trans b h3⟩

def p_primes_of : PSp := fun ds M Q _ => match ds with
  | [.int n] => (1 ≤ n ∧ n < 1000000000000) ∧ ∀ ps : List Int, PrimesOf n ps → Q (.ow (.lst (ps.map D.int))) M
  | _ => False

def p_place_in : PSp := fun ds M Q _ => match ds with
  | [.tup xs, .int r] => ∃ ns : List Int, xs = ns.map D.int ∧ Asc ns ∧ Q (.va (.int (cntL ns r))) M
  | _ => False

theorem imul1 (a b : Int) : a * (b + 1) = a * b + a := by rw [Int.mul_add, Int.mul_one]
theorem cntL_mem {ns : List Int} (h : Asc ns) {r : Int} : r ∈ ns ↔ ∃ k : Nat, (k : Int) = cntL ns r ∧ ns[k]? = some r := by
  constructor
  · intro hm
    obtain ⟨i, hi, e⟩ := List.mem_iff_getElem.mp hm
    have e1 : ns[i]? = some r := by rw [List.getElem?_eq_getElem hi, e]
    refine ⟨i, ?_, e1⟩
    have h1 := not_congr (cntL_lt h (r := r) e1)
    have hb := cntL_le (ns := ns) (r := r)
    rcases (by omega : (i : Int) = cntL ns r ∨ cntL ns r < i) with c | c
    · exact c
    · have hk : (cntL ns r).toNat < ns.length := by omega
      have e2 : ns[(cntL ns r).toNat]? = some ns[(cntL ns r).toNat] := List.getElem?_eq_getElem hk
      have h3 := not_congr (cntL_lt h (r := r) e2)
      have h4 := h.get (by omega) e2 e1
      omega
  · rintro ⟨k, _, e⟩
    exact List.mem_of_getElem? e
/-- the first one from d on, of residues that come again -/
def nextR (p : Int) (ns : List Int) (d : Int) : Int := if cntL ns (d % p) < ns.length then d - d % p + ns.getD (cntL ns (d % p)).toNat 0 else d - d % p + p + ns.getD 0 0
/-- the last one under d -/
def prevR (p : Int) (ns : List Int) (d : Int) : Int := if 0 < cntL ns (d % p) then d - d % p + ns.getD ((cntL ns (d % p)).toNat - 1) 0 else d - d % p - p + ns.getD (ns.length - 1) 0
/-- the residues of so many periods -/
def spreadL (p : Int) (ns : List Int) (t : Nat) : List Int := (List.range t).flatMap fun (k : Nat) => ns.map fun r => (k : Int) * p + r
theorem spreadL_succ {p : Int} {ns : List Int} {t : Nat} : spreadL p ns (t + 1) = spreadL p ns t ++ ns.map fun r => (t : Int) * p + r := by
  unfold spreadL
  rw [List.range_succ, List.flatMap_append]
  simp
theorem spreadL_len {p : Int} {ns : List Int} : ∀ {t : Nat}, (spreadL p ns t).length = t * ns.length
  | 0 => by simp [spreadL]
  | t + 1 => by rw [spreadL_succ, List.length_append, spreadL_len, List.length_map, Nat.succ_mul]
theorem asc_rgI {a b : Int} : Asc (rgI a b) := by
  generalize hk : (b - a).toNat = k
  induction k generalizing a with
  | zero => rw [rgI_nil (by omega)]; exact List.Pairwise.nil
  | succ k ih =>
    rw [rgI_cons (by omega)]
    refine List.pairwise_cons.mpr ⟨fun v hv => ?_, ih (by omega)⟩
    have := rgI_mem.mp hv
    omega
theorem Asc.filter {ns : List Int} (h : Asc ns) (p : Int → Bool) : Asc (ns.filter p) := List.Pairwise.filter _ h
/-- residues of the period p -/
def Res (p : Int) (ns : List Int) : Prop := 0 < p ∧ Asc ns ∧ ∀ r ∈ ns, 0 ≤ r ∧ r < p
theorem nextR_spec {p : Int} {ns : List Int} (h : Res p ns) (hl : 0 < ns.length) (d : Int) : d ≤ nextR p ns d ∧ nextR p ns d % p ∈ ns ∧ nextR p ns d < d + p ∧ ∀ x, d ≤ x → x % p ∈ ns → nextR p ns d ≤ x := by
  obtain ⟨hp, ha, hr⟩ := h
  have hb := cntL_le (ns := ns) (r := d % p)
  have e0 := Int.emod_nonneg d (show p ≠ 0 by omega)
  have e1 := Int.emod_lt_of_pos d hp
  have ed := Int.mul_ediv_add_emod d p
  unfold nextR
  by_cases c : cntL ns (d % p) < ns.length
  · rw [if_pos c]
    obtain ⟨v, hv, _⟩ := at_ints (ns := ns) (i := cntL ns (d % p)) (by omega) c
    rw [List.getD_eq_getElem?_getD, hv, Option.getD_some]
    have hm := List.mem_of_getElem? hv
    have hv2 := hr v hm
    have h3 := not_congr (cntL_lt ha (r := d % p) hv)
    have em : (d - d % p + v) % p = v := by
      rw [show d - d % p + v = v + p * (d / p) by omega, Int.add_mul_emod_self_left, Int.emod_eq_of_lt hv2.1 hv2.2]
    refine ⟨by omega, by rw [em]; exact hm, ?_, fun x hx hxm => ?_⟩
    · rcases (by omega : v < p + d % p ∨ p + d % p ≤ v) with w | w <;> omega
    · have x0 := Int.emod_nonneg x (show p ≠ 0 by omega)
      have x1 := Int.emod_lt_of_pos x hp
      have xd := Int.mul_ediv_add_emod x p
      rcases Int.lt_trichotomy (x / p) (d / p) with w | w | w
      · have : p * (x / p) + p ≤ p * (d / p) := by rw [← imul1]; exact Int.mul_le_mul_of_nonneg_left (by omega) (by omega)
        omega
      · rw [w] at xd
        obtain ⟨i, hi, e⟩ := List.mem_iff_getElem.mp hxm
        have e3 : ns[i]? = some (x % p) := by rw [List.getElem?_eq_getElem hi, e]
        have h5 := not_congr (cntL_lt ha (r := d % p) e3)
        rcases (by omega : (i : Int) = cntL ns (d % p) ∨ cntL ns (d % p) < i) with q | q
        · rw [← q, Int.toNat_natCast, e3] at hv
          have := Option.some.inj hv
          omega
        · have := ha.get (by omega) hv e3
          omega
      · have : p * (d / p) + p ≤ p * (x / p) := by rw [← imul1]; exact Int.mul_le_mul_of_nonneg_left (by omega) (by omega)
        omega
  · rw [if_neg c]
    obtain ⟨v, hv, _⟩ := at_ints (ns := ns) (i := 0) (by omega) (by omega)
    have hv : ns[0]? = some v := hv
    rw [List.getD_eq_getElem?_getD, hv, Option.getD_some]
    have hm := List.mem_of_getElem? hv
    have hv2 := hr v hm
    have h3 := cntL_lt ha (r := d % p) hv
    have em : (d - d % p + p + v) % p = v := by
      rw [show d - d % p + p + v = v + p * (d / p + 1) by rw [imul1]; omega, Int.add_mul_emod_self_left, Int.emod_eq_of_lt hv2.1 hv2.2]
    refine ⟨by omega, by rw [em]; exact hm, by omega, fun x hx hxm => ?_⟩
    have x0 := Int.emod_nonneg x (show p ≠ 0 by omega)
    have x1 := Int.emod_lt_of_pos x hp
    have xd := Int.mul_ediv_add_emod x p
    obtain ⟨i, hi, e⟩ := List.mem_iff_getElem.mp hxm
    have e3 : ns[i]? = some (x % p) := by rw [List.getElem?_eq_getElem hi, e]
    have h5 := cntL_lt ha (r := d % p) e3
    have h6 : v ≤ x % p := by
      rcases (by omega : i = 0 ∨ 0 < i) with q | q
      · subst q
        rw [hv] at e3
        have := Option.some.inj e3
        omega
      · have := ha.get q hv e3
        omega
    rcases (by omega : x / p ≤ d / p ∨ d / p + 1 ≤ x / p) with w | w
    · have : p * (x / p) ≤ p * (d / p) := Int.mul_le_mul_of_nonneg_left w (by omega)
      omega
    · have : p * (d / p) + p ≤ p * (x / p) := by rw [← imul1]; exact Int.mul_le_mul_of_nonneg_left w (by omega)
      omega
theorem prevR_spec {p : Int} {ns : List Int} (h : Res p ns) (hl : 0 < ns.length) (d : Int) : prevR p ns d < d ∧ prevR p ns d % p ∈ ns ∧ d - p ≤ prevR p ns d ∧ ∀ x, x < d → x % p ∈ ns → x ≤ prevR p ns d := by
  obtain ⟨hp, ha, hr⟩ := h
  have hb := cntL_le (ns := ns) (r := d % p)
  have e0 := Int.emod_nonneg d (show p ≠ 0 by omega)
  have e1 := Int.emod_lt_of_pos d hp
  have ed := Int.mul_ediv_add_emod d p
  unfold prevR
  by_cases c : 0 < cntL ns (d % p)
  · rw [if_pos c]
    obtain ⟨v, hv, _⟩ := at_ints (ns := ns) (i := cntL ns (d % p) - 1) (by omega) (by omega)
    rw [List.getD_eq_getElem?_getD, show (cntL ns (d % p)).toNat - 1 = (cntL ns (d % p) - 1).toNat by omega, hv, Option.getD_some]
    have hm := List.mem_of_getElem? hv
    have hv2 := hr v hm
    have h3 := cntL_lt ha (r := d % p) hv
    have em : (d - d % p + v) % p = v := by
      rw [show d - d % p + v = v + p * (d / p) by omega, Int.add_mul_emod_self_left, Int.emod_eq_of_lt hv2.1 hv2.2]
    refine ⟨by omega, by rw [em]; exact hm, by omega, fun x hx hxm => ?_⟩
    have x0 := Int.emod_nonneg x (show p ≠ 0 by omega)
    have x1 := Int.emod_lt_of_pos x hp
    have xd := Int.mul_ediv_add_emod x p
    rcases Int.lt_trichotomy (x / p) (d / p) with w | w | w
    · have : p * (x / p) + p ≤ p * (d / p) := by rw [← imul1]; exact Int.mul_le_mul_of_nonneg_left (by omega) (by omega)
      omega
    · rw [w] at xd
      obtain ⟨i, hi, e⟩ := List.mem_iff_getElem.mp hxm
      have e3 : ns[i]? = some (x % p) := by rw [List.getElem?_eq_getElem hi, e]
      have h5 := cntL_lt ha (r := d % p) e3
      rcases (by omega : (i : Int) = cntL ns (d % p) - 1 ∨ (i : Int) < cntL ns (d % p) - 1) with q | q
      · rw [← q, Int.toNat_natCast, e3] at hv
        have := Option.some.inj hv
        omega
      · have := ha.get (by omega) e3 hv
        omega
    · have : p * (d / p) + p ≤ p * (x / p) := by rw [← imul1]; exact Int.mul_le_mul_of_nonneg_left (by omega) (by omega)
      omega
  · rw [if_neg c]
    have hv : ns[ns.length - 1]? = some (ns.getD (ns.length - 1) 0) := by
      rw [List.getD_eq_getElem?_getD, List.getElem?_eq_getElem (by omega)]
      rfl
    generalize ns.getD (ns.length - 1) 0 = v at *
    have hm := List.mem_of_getElem? hv
    have hv2 := hr v hm
    have h3 := cntL_lt ha (r := d % p) hv
    have em : (d - d % p - p + v) % p = v := by
      rw [show d - d % p - p + v = v + p * (d / p - 1) by rw [Int.mul_sub, Int.mul_one]; omega, Int.add_mul_emod_self_left, Int.emod_eq_of_lt hv2.1 hv2.2]
    refine ⟨by omega, by rw [em]; exact hm, by omega, fun x hx hxm => ?_⟩
    have x0 := Int.emod_nonneg x (show p ≠ 0 by omega)
    have x1 := Int.emod_lt_of_pos x hp
    have xd := Int.mul_ediv_add_emod x p
    obtain ⟨i, hi, e⟩ := List.mem_iff_getElem.mp hxm
    have e3 : ns[i]? = some (x % p) := by rw [List.getElem?_eq_getElem hi, e]
    have h5 := cntL_lt ha (r := d % p) e3
    have h6 : x % p ≤ v := by
      rcases (by omega : i = ns.length - 1 ∨ i < ns.length - 1) with q | q
      · subst q
        rw [hv] at e3
        have := Option.some.inj e3
        omega
      · have := ha.get q e3 hv
        omega
    rcases (by omega : x / p ≤ d / p - 1 ∨ d / p ≤ x / p) with w | w
    · have : p * (x / p) ≤ p * (d / p - 1) := Int.mul_le_mul_of_nonneg_left w (by omega)
      rw [Int.mul_sub, Int.mul_one] at this
      omega
    · have : p * (d / p) ≤ p * (x / p) := Int.mul_le_mul_of_nonneg_left w (by omega)
      omega
theorem emod_far {d c p : Int} : (d + c * p) % p = d % p := Int.add_mul_emod_self_right ..
theorem ediv_far {d c p : Int} (h : 0 < p) : (d + c * p) / p = d / p + c := Int.add_mul_ediv_right _ _ (by omega)
theorem nextR_far {p d c : Int} {ns : List Int} : nextR p ns (d + c * p) = nextR p ns d + c * p := by
  unfold nextR
  rw [emod_far]
  split <;> omega
theorem prevR_far {p d c : Int} {ns : List Int} : prevR p ns (d + c * p) = prevR p ns d + c * p := by
  unfold prevR
  rw [emod_far]
  split <;> omega
theorem spreadL_mem {p : Int} {ns : List Int} (h : Res p ns) : ∀ {t : Nat} {x : Int}, x ∈ spreadL p ns t ↔ 0 ≤ x ∧ x < p * t ∧ x % p ∈ ns
  | 0, x => by simp [spreadL]; omega
  | t + 1, x => by
    have hp := h.1
    rw [spreadL_succ, List.mem_append, spreadL_mem h, List.mem_map]
    have x0 := Int.emod_nonneg x (show p ≠ 0 by omega)
    have x1 := Int.emod_lt_of_pos x hp
    have xd := Int.mul_ediv_add_emod x p
    have et : p * ((t + 1 : Nat) : Int) = p * t + p := by push_cast; rw [imul1]
    have t0 : 0 ≤ p * (t : Int) := Int.mul_nonneg (by omega) (by omega)
    rw [et]
    constructor
    · rintro (⟨a, b, c⟩ | ⟨r, hr, rfl⟩)
      · exact ⟨a, by omega, c⟩
      · have hb := h.2.2 r hr
        rw [Int.mul_comm (t : Int) p] at *
        refine ⟨by omega, by omega, ?_⟩
        rw [Int.add_comm, Int.add_mul_emod_self_left, Int.emod_eq_of_lt hb.1 hb.2]
        exact hr
    · rintro ⟨a, b, c⟩
      rcases (by omega : x < p * t ∨ p * t ≤ x) with w | w
      · exact .inl ⟨a, w, c⟩
      · refine .inr ⟨x % p, c, ?_⟩
        have e : x / p = t := by
          rcases Int.lt_trichotomy (x / p) t with q | q | q
          · have : p * (x / p) + p ≤ p * t := by rw [← imul1]; exact Int.mul_le_mul_of_nonneg_left (by omega) (by omega)
            omega
          · exact q
          · have : p * t + p ≤ p * (x / p) := by rw [← imul1]; exact Int.mul_le_mul_of_nonneg_left (by omega) (by omega)
            omega
        rw [e] at xd
        rw [Int.mul_comm]
        exact xd
theorem spreadL_asc {p : Int} {ns : List Int} (h : Res p ns) : ∀ {t : Nat}, Asc (spreadL p ns t)
  | 0 => by simp [spreadL]
  | t + 1 => by
    rw [spreadL_succ]
    refine List.pairwise_append.mpr ⟨spreadL_asc h, ?_, ?_⟩
    · refine List.pairwise_map.mpr (h.2.1.imp fun {a b} q => by omega)
    · intro a ha b hb
      have h1 := (spreadL_mem h).mp ha
      obtain ⟨r, hr, rfl⟩ := List.mem_map.mp hb
      have := h.2.2 r hr
      rw [Int.mul_comm (t : Int) p]
      omega
theorem spreadL_filter {p : Int} {ns : List Int} (h : Res p ns) {t : Nat} : (rgI 0 (p * t)).filter (fun n => decide (n % p ∈ ns)) = spreadL p ns t := by
  refine asc_ext (asc_rgI.filter _) (spreadL_asc h) fun n => ?_
  rw [List.mem_filter, rgI_mem, spreadL_mem h, decide_eq_true_eq]
  constructor
  · rintro ⟨⟨a, b⟩, c⟩; exact ⟨a, b, c⟩
  · rintro ⟨a, b, c⟩; exact ⟨⟨a, b⟩, c⟩
/-- shifted by t the same numbers are told -/
def Closed (P : Int) (ns : List Int) (t : Int) : Prop := ∀ r ∈ ns, (r + t) % P ∈ ns
instance {P : Int} {ns : List Int} {t : Int} : Decidable (Closed P ns t) := by unfold Closed; infer_instance
/-- there is no lesser period -/
def Mini (P : Int) (ns : List Int) : Prop := ∀ t, 1 ≤ t → t < P → t ∣ P → ¬ Closed P ns t
theorem closed_iff {P t : Int} {ns : List Int} (h : Res P ns) : Closed P ns t ↔ ∀ x, x % P ∈ ns → (x + t) % P ∈ ns := by
  constructor
  · intro c x hx
    have := c _ hx
    rwa [Int.emod_add_emod] at this
  · intro c r hr
    have := h.2.2 r hr
    exact c r (by rw [Int.emod_eq_of_lt this.1 this.2]; exact hr)
theorem closed_mul {P t : Int} {ns : List Int} (h : Res P ns) (c : Closed P ns t) : ∀ (j : Nat) {x : Int}, x % P ∈ ns → (x + j * t) % P ∈ ns
  | 0, x, hx => by simpa using hx
  | j + 1, x, hx => by
    have h1 := closed_mul h c j hx
    have h2 := (closed_iff h).mp c _ h1
    rw [show x + ((j + 1 : Nat) : Int) * t = x + j * t + t by rw [Int.natCast_add, Int.add_mul]; omega]
    exact h2
/-- the residues by the lesser period -/
theorem closed_red {P t : Int} {ns : List Int} (h : Res P ns) (ht : 1 ≤ t) (hd : t ∣ P) (c : Closed P ns t) :
    Res t (ns.filter fun r => decide (r < t)) ∧ ∀ x, x % t ∈ (ns.filter fun r => decide (r < t)) ↔ x % P ∈ ns := by
  refine ⟨⟨by omega, h.2.1.filter _, fun r hr => ?_⟩, fun x => ?_⟩
  · obtain ⟨h1, h2⟩ := List.mem_filter.mp hr
    exact ⟨(h.2.2 r h1).1, by simpa using h2⟩
  · obtain ⟨k, hk⟩ := hd
    have hP := h.1
    have kpos : 0 < k := by
      rcases Int.lt_or_le 0 k with w | w
      · exact w
      · have : t * k ≤ 0 := Int.mul_nonpos_of_nonneg_of_nonpos (by omega) w
        omega
    have e1 : x % P % t = x % t := Int.emod_emod_of_dvd x ⟨k, hk⟩
    have y0 := Int.emod_nonneg x (show P ≠ 0 by omega)
    have y1 := Int.emod_lt_of_pos x hP
    generalize x % P = y at *
    have q0 : 0 ≤ y / t := Int.ediv_nonneg y0 (by omega)
    have q1 : y / t < k := by
      refine Int.ediv_lt_of_lt_mul (by omega) ?_
      rw [Int.mul_comm k t, ← hk]; exact y1
    have ed := Int.mul_ediv_add_emod y t
    have m0 := Int.emod_nonneg y (show t ≠ 0 by omega)
    have m1 := Int.emod_lt_of_pos y (show 0 < t by omega)
    have le : t ≤ P := by
      have := Int.mul_le_mul_of_nonneg_left (show 1 ≤ k by omega) (show 0 ≤ t by omega)
      omega
    rw [← e1, List.mem_filter]
    have z0 : y % t % P = y % t := Int.emod_eq_of_lt m0 (by omega)
    constructor
    · rintro ⟨a, _⟩
      have := closed_mul h c (y / t).toNat (x := y % t) (by rw [z0]; exact a)
      rw [Int.toNat_of_nonneg q0, show y % t + y / t * t = y by rw [Int.mul_comm]; omega, Int.emod_eq_of_lt y0 y1] at this
      exact this
    · intro a
      refine ⟨?_, by simpa using m1⟩
      have := closed_mul h c (k - y / t).toNat (x := y) (by rw [Int.emod_eq_of_lt y0 y1]; exact a)
      rw [Int.toNat_of_nonneg (by omega), show y + (k - y / t) * t = y % t + P * 1 by rw [Int.sub_mul, Int.mul_comm k t, Int.mul_comm (y / t) t]; omega, Int.add_mul_emod_self_left, z0] at this
      exact this
theorem closed_len {P t : Int} {ns : List Int} (h : Res P ns) (ht : 1 ≤ t) (hd : t ∣ P) (c : Closed P ns t) : (ns.length : Int) % (P / t) = 0 := by
  obtain ⟨h1, h2⟩ := closed_red h ht hd c
  have hP := h.1
  have e : P = t * ((P / t).toNat : Nat) := by
    have h0 : 0 ≤ P / t := Int.ediv_nonneg (by omega) (by omega)
    rw [Int.toNat_of_nonneg h0]
    exact (Int.mul_ediv_cancel' hd).symm
  have : ns = spreadL t (ns.filter fun r => decide (r < t)) (P / t).toNat := by
    refine asc_ext h.2.1 (spreadL_asc h1) fun x => ?_
    rw [spreadL_mem h1, ← e]
    constructor
    · intro hx
      have hb := h.2.2 x hx
      exact ⟨hb.1, hb.2, (h2 x).mpr (by rw [Int.emod_eq_of_lt hb.1 hb.2]; exact hx)⟩
    · rintro ⟨a, b, d⟩
      have := (h2 x).mp d
      rwa [Int.emod_eq_of_lt a b] at this
  have hl := congrArg List.length this
  rw [spreadL_len] at hl
  rw [hl]
  have h0 : 0 ≤ P / t := Int.ediv_nonneg (by omega) (by omega)
  rw [show (((P / t).toNat * (ns.filter fun r => decide (r < t)).length : Nat) : Int) = P / t * ((ns.filter fun r => decide (r < t)).length : Nat) by rw [Int.natCast_mul]; congr 1; omega]
  exact Int.mul_emod_right _ _
/-- what stands while the period is made less -/
structure Shr (P0 : Int) (ns0 : List Int) (done : List Int) (P : Int) (ns : List Int) : Prop where
  res : Res P ns
  dvd : P ∣ P0
  same : ∀ x, x % P ∈ ns ↔ x % P0 ∈ ns0
  len : ns.length ≤ ns0.length
  done : ∀ q ∈ done, ¬ (q ∣ P ∧ Closed P ns (P / q))
theorem Shr.start {P : Int} {ns : List Int} (h : Res P ns) : Shr P ns [] P ns := ⟨h, Int.dvd_refl P, fun _ => Iff.rfl, Nat.le_refl _, by simp⟩
theorem Shr.next {P0 P p : Int} {ns0 ns done : List Int} (h : Shr P0 ns0 done P ns) (k : ¬ (p ∣ P ∧ Closed P ns (P / p))) : Shr P0 ns0 (done ++ [p]) P ns := by
  refine ⟨h.res, h.dvd, h.same, h.len, fun q hq => ?_⟩
  rcases List.mem_append.mp hq with w | w
  · exact h.done q w
  · rw [List.mem_singleton.mp w]; exact k
theorem Shr.cut {P0 P p : Int} {ns0 ns done : List Int} (h : Shr P0 ns0 done P ns) (hp : 2 ≤ p) (hd : p ∣ P) (c : Closed P ns (P / p)) (hq : ∀ q ∈ done, 2 ≤ q) :
    1 ≤ P / p ∧ P / p < P ∧ Shr P0 ns0 done (P / p) (ns.filter fun r => decide (r < P / p)) := by
  have hP := h.res.1
  obtain ⟨k, hk⟩ := id hd
  have e : P / p = k := by rw [hk]; exact Int.mul_ediv_cancel_left k (by omega)
  rw [e] at c ⊢
  have kpos : 0 < k := by
    rcases Int.lt_or_le 0 k with w | w
    · exact w
    · have : p * k ≤ 0 := Int.mul_nonpos_of_nonneg_of_nonpos (by omega) w
      omega
  have k2 : k < P := by
    have := Int.mul_le_mul_of_nonneg_right hp (show 0 ≤ k by omega)
    omega
  have kd : k ∣ P := ⟨p, by rw [hk, Int.mul_comm]⟩
  obtain ⟨r1, r2⟩ := closed_red h.res (by omega) kd c
  refine ⟨by omega, k2, r1, Int.dvd_trans kd h.dvd, fun x => (r2 x).trans (h.same x), Nat.le_trans (List.length_filter_le _ _) h.len, fun q hm hc => h.done q hm ?_⟩
  obtain ⟨⟨j, hj⟩, c2⟩ := hc
  have q2 := hq q hm
  have ej : k / q = j := by rw [hj]; exact Int.mul_ediv_cancel_left j (by omega)
  rw [ej] at c2
  have hPj : P = q * (p * j) := by rw [hk, hj, ← Int.mul_assoc, Int.mul_comm p q, Int.mul_assoc]
  refine ⟨⟨p * j, hPj⟩, ?_⟩
  rw [show P / q = p * j by rw [hPj]; exact Int.mul_ediv_cancel_left _ (by omega)]
  refine (closed_iff h.res).mpr fun x hx => ?_
  have := closed_mul r1 c2 p.toNat ((r2 x).mpr hx)
  rw [Int.toNat_of_nonneg (by omega)] at this
  exact (r2 _).mp this
theorem Shr.mini {P0 P : Int} {ns0 ns ps : List Int} (h : Shr P0 ns0 ps P ns) (hp : PrimesOf P0 ps) : Mini P ns := by
  intro t t1 t2 td c
  obtain ⟨k, hk⟩ := id td
  have hP := h.res.1
  have k2 : 2 ≤ k := by
    rcases (by omega : k ≤ 0 ∨ k = 1 ∨ 2 ≤ k) with w | w | w
    · have : t * k ≤ 0 := Int.mul_nonpos_of_nonneg_of_nonpos (by omega) w
      omega
    · rw [w] at hk; omega
    · exact w
  obtain ⟨q, hq, j, hj⟩ := pr_ex k.toNat k2 (Nat.le_refl _)
  have q2 := hq.1
  have hPj : P = q * (t * j) := by rw [hk, hj, ← Int.mul_assoc, Int.mul_comm t q, Int.mul_assoc]
  have j1 : 0 ≤ j := by
    rcases Int.lt_or_le j 0 with w | w
    · have : q * j ≤ 0 := Int.mul_nonpos_of_nonneg_of_nonpos (by omega) (by omega)
      omega
    · exact w
  refine h.done q ((hp.2 q).mpr ⟨hq, Int.dvd_trans ⟨t * j, hPj⟩ h.dvd⟩) ⟨⟨t * j, hPj⟩, ?_⟩
  rw [show P / q = t * j by rw [hPj]; exact Int.mul_ediv_cancel_left _ (by omega)]
  refine (closed_iff h.res).mpr fun x hx => ?_
  have := closed_mul h.res c j.toNat hx
  rw [Int.toNat_of_nonneg j1, Int.mul_comm] at this
  exact this
def mapB (f : Int → Bool) : D → Option D
  | .int n => some (.bl (f n))
  | _ => none
theorem mapB_map (f : Int → Bool) : ∀ ns : List Int, (ns.map D.int).filterMap (mapB f) = (ns.map f).map D.bl
  | [] => rfl
  | n :: ns => by
    rw [List.map_cons, List.filterMap_cons, List.map_cons, mapB_map f ns]
    rfl
/-- what a comprehension over rows of data makes -/
def mapD (f : D → D) : D → Option D := fun d => some (f d)
theorem mapD_map {α : Type} {g : α → D} {f : D → D} : ∀ xs : List α, (xs.map g).filterMap (mapD f) = xs.map fun x => f (g x)
  | [] => rfl
  | x :: xs => by
    rw [List.map_cons, List.filterMap_cons, List.map_cons, mapD_map xs]
    rfl
theorem plAnyBl {a : Bool} : ∀ bs : List Bool, ((bs.map D.bl).any fun x => deq x (.bl a)) = decide (a ∈ bs)
  | [] => by simp
  | b :: bs => by
    rw [List.map_cons, List.any_cons, plAnyBl bs, deq_bl, Bool.eq_iff_iff]
    simp only [Bool.or_eq_true, decide_eq_true_eq, List.mem_cons]
    rw [show (b = a) = (a = b) from propext ⟨Eq.symm, Eq.symm⟩]
theorem ckAl_bls {n : Nat} {bs : List Bool} : CkAl n (bs.map D.bl) := fun d h => by
  obtain ⟨b, _, rfl⟩ := List.mem_map.mp h
  exact ck_bl
theorem cmpOk_bls {bs : List Bool} : cmpOk (.lst (bs.map D.bl)) = true := cmpOk_lstA.mpr ckAl_bls
theorem cutL1 {d : D} {ds : List D} : cutL (d :: ds) (some 1) none = ds := by
  have e1 : HT.sIx (d :: ds).length 0 (some 1) = 1 := by
    unfold HT.sIx
    simp
  have e2 : HT.sIx (d :: ds).length (d :: ds).length none = (d :: ds).length := rfl
  unfold cutL
  rw [e1, e2]
  simp
theorem atI_snoc {ds : List D} {d : D} : atI (ds ++ [d]) (-1) = some d := by
  unfold atI ixN
  rw [List.length_append, List.length_singleton]
  simp only [show ¬ (0 : Int) ≤ -1 by omega, if_false]
  rw [if_pos (by omega), show (-1 + ((ds.length + 1 : Nat) : Int)).toNat = ds.length by omega]
  simp
/-- an item of a row -/
theorem at_map {α : Type} {g : α → D} {xs : List α} {i : Int} {x : α} (h0 : 0 ≤ i) (h : xs[i.toNat]? = some x) : atI (xs.map g) i = some (g x) := atI_nn h0 (by rw [List.getElem?_map, h]; rfl)
theorem map_get {α : Type} {g : α → D} {xs : List α} {i : Nat} {d : D} (h : (xs.map g)[i]? = some d) : ∃ x, xs[i]? = some x ∧ d = g x := by
  rw [List.getElem?_map] at h
  cases e : xs[i]? with
  | none => rw [e] at h; cases h
  | some x => rw [e] at h; exact ⟨x, rfl, (Option.some.inj h).symm⟩
/-- a comprehension of unknown whole numbers -/
theorem eLc_any (P : Int → Prop) {qi : QA} {g : QG} {qe : QE} {vs : List Nat} {ρ0 : Ev} {M0 : Mu} {Q : Sl → Ev → Mu → Prop} (ds : List D) (ρ : Ev) (M : Mu)
    (hq : ∀ Q : List D → Ev → Mu → Prop, Q ds ρ M → qi ρ0 M0 Q) (hv : notOw ρ vs = true) (hl : ds.length < 16777216)
    (hs : ∀ (i : Nat) (d : D) (acc : List D) (J : List D → Mu → Prop), ds[i]? = some d → acc.length < 16777216 → (∀ v, P v → J (acc ++ [.int v]) M) → g d (wipeE ρ vs) fun ρ2 => wipeE ρ2 vs = wipeE ρ vs ∧ tYes' ρ2 M fun b ρ3 M3 => ρ3 = ρ2 ∧
      (if b = true then qe ρ3 M3 fun r ρ4 M4 => ρ4 = ρ3 ∧ acc.length < 16777216 ∧ J (acc ++ [r.val]) M4 else J acc M3))
    (hk : ∀ ns : List Int, ns.length = ds.length → (∀ n ∈ ns, P n) → Q (.ow (.lst (ns.map D.int))) ρ M) : eLc qi g tYes' qe vs ρ0 M0 Q := by
  refine hq _ ⟨hv, fun i acc M' => M' = M ∧ i ≤ ds.length ∧ ∃ ns : List Int, acc = ns.map D.int ∧ ns.length = i ∧ ∀ n ∈ ns, P n, ⟨rfl, Nat.zero_le _, [], rfl, rfl, by simp⟩, ?_, ?_⟩
  · rintro i d acc M' hd ⟨rfl, hi, ns, rfl, hn, hP⟩
    have hlt : i < ds.length := (List.getElem?_eq_some_iff.mp hd).1
    refine hs i d _ (fun acc M2 => M2 = M' ∧ i + 1 ≤ ds.length ∧ ∃ ns : List Int, acc = ns.map D.int ∧ ns.length = i + 1 ∧ ∀ n ∈ ns, P n) hd (by rw [List.length_map]; omega) fun v hv => ⟨rfl, hlt, ns ++ [v], by simp, by simp [hn], fun n hm => ?_⟩
    rcases List.mem_append.mp hm with w | w
    · exact hP n w
    · rw [List.mem_singleton.mp w]; exact hv
  · rintro acc M' ⟨rfl, _, ns, rfl, hn, hP⟩
    exact hk ns hn hP
/-- what a comprehension over range(n) makes -/
def rngF (f : Nat → D) : D → Option D
  | .int k => some (f k.toNat)
  | _ => none
theorem rngF_map {f : Nat → D} {n : Int} : (rangeL 0 n).filterMap (rngF f) = (List.range n.toNat).map f := by
  unfold rangeL
  rw [List.filterMap_map, Int.sub_zero]
  rw [← List.filterMap_eq_map]
  congr 1
  funext k
  simp [rngF]
/-- the rows that a comprehension goes through, apart -/
theorem eLc_k {qi : QA} {g : QG} {qt : QT} {qe : QE} {vs : List Nat} {ρ : Ev} {M : Mu} {Q : Sl → Ev → Mu → Prop}
    (h : ∀ N : List D → Ev → Mu → Prop, (∀ ds ρ1 M1, eLc (fun ρ M Q => Q ds ρ M) g qt qe vs ρ1 M1 Q → N ds ρ1 M1) → qi ρ M N) : eLc qi g qt qe vs ρ M Q :=
  h _ fun _ _ _ w => w
/-- a test's answer, apart -/
theorem sIf_k {c : QT} {t u : QS} {D' : QK} {ρ : Ev} {M : Mu} (h : ∀ N : Bool → Ev → Mu → Prop, (∀ b ρ M, (if b = true then t D' ρ M else u D' ρ M) → N b ρ M) → c ρ M N) : sIf c t u D' ρ M := h _ fun _ _ _ w => w
theorem pickI_J2 {P R : Int → Prop} [DecidablePred P] [DecidablePred R] {n : Int} {acc : List D} {J : List D → Mu → Prop} {M : Mu} (hl : acc.length < 16777216) (h : J (acc ++ (pickI (fun x => P x ∧ R x) (.int n)).toList) M) :
    if P n then if R n then acc.length < 16777216 ∧ J (acc ++ [D.int n]) M else J acc M else J acc M := by
  have h := pickI_J hl h
  by_cases c : P n
  · rw [if_pos c]
    by_cases c2 : R n
    · rw [if_pos c2]; rw [if_pos ⟨c, c2⟩] at h; exact h
    · rw [if_neg c2]; rw [if_neg fun w => c2 w.2] at h; exact h
  · rw [if_neg c]; rw [if_neg fun w => c w.1] at h; exact h
theorem at_snocG {α : Type} {g : α → D} {qs : List α} {p : α} : atI ((qs ++ [p]).map g) (((qs ++ [p]).length : Int) - 1) = some (g p) := by
  refine at_map (by rw [List.length_append, List.length_singleton]; omega) ?_
  rw [List.length_append, List.length_singleton, show (((qs.length + 1 : Nat) : Int) - 1).toNat = qs.length by omega]
  simp
theorem snoc_of {α : Type} {xs : List α} (h : 0 < xs.length) : ∃ ys y, xs = ys ++ [y] := by
  rcases List.eq_nil_or_concat xs with rfl | ⟨ys, y, e⟩
  · simp at h
  · exact ⟨ys, y, by rw [e, List.concat_eq_append]⟩
/-- a chain's answer is kept -/
theorem J_chain {p q : Prop} [Decidable p] [Decidable q] {acc : List D} {J : List D → Mu → Prop} {M : Mu} (hl : acc.length < 16777216) (h : J (acc ++ [.bl (decide (p ∧ q))]) M) :
    if p then acc.length < 16777216 ∧ J (acc ++ [.bl (decide q)]) M else acc.length < 16777216 ∧ J (acc ++ [.bl false]) M := by
  by_cases c : p
  · rw [if_pos c]
    rw [decide_eq_decide.mpr (show (p ∧ q) ↔ q from ⟨fun w => w.2, fun w => ⟨c, w⟩⟩)] at h
    exact ⟨hl, h⟩
  · rw [if_neg c]
    rw [decide_eq_false fun w => c w.1] at h
    exact ⟨hl, h⟩
/-- a loop's turn, its test apart -/
theorem sWhile_k {c : QT} {tb : QS} {D' : QK} {ρ : Ev} {M : Mu} (I : Nat → Ev → Mu → Prop) (m0 : Nat) (h0 : I m0 ρ M)
    (hs : ∀ (m : Nat) (J : Ev → Mu → Prop), (∀ m' ρ M, m' < m → I m' ρ M → J ρ M) → ∀ ρ M, I m ρ M → ∀ N : Bool → Ev → Mu → Prop, (∀ b ρ1 M1, (if b = true then tb { nx := J, ct := J, bk := D'.nx, rt := D'.rt } ρ1 M1 else D'.nx ρ1 M1) → N b ρ1 M1) → c ρ M N) : sWhile c tb D' ρ M :=
  sWhile_i I m0 h0 fun m J hJ ρ M hI => hs m J hJ ρ M hI _ fun _ _ _ w => w
theorem dec_t {p : Prop} [Decidable p] {b : Bool} (h : p ↔ b = true) : decide p = b := by
  cases b with
  | true => exact decide_eq_true (h.mpr rfl)
  | false => exact decide_eq_false fun w => by cases h.mp w
theorem dec_f {p : Prop} [Decidable p] [Decidable ¬ p] {b : Bool} (h : p ↔ b = true) : decide (¬ p) = !b := by
  cases b with
  | true => exact decide_eq_false fun w => w (h.mpr rfl)
  | false => exact decide_eq_true fun w => by cases h.mp w
/-- a comprehension whose items are told by a property, place by place -/
theorem eLc_rel {β : Type} (g' : β → D) (P : Nat → β → Prop) {qi : QA} {g : QG} {qe : QE} {vs : List Nat} {ρ0 : Ev} {M0 : Mu} {Q : Sl → Ev → Mu → Prop} (ds : List D) (ρ : Ev) (M : Mu)
    (hq : ∀ Q : List D → Ev → Mu → Prop, Q ds ρ M → qi ρ0 M0 Q) (hv : notOw ρ vs = true) (hl : ds.length < 16777216)
    (hs : ∀ (i : Nat) (d : D) (acc : List D) (J : List D → Mu → Prop), ds[i]? = some d → acc.length < 16777216 → (∀ b, P i b → J (acc ++ [g' b]) M) → g d (wipeE ρ vs) fun ρ2 => wipeE ρ2 vs = wipeE ρ vs ∧ tYes' ρ2 M fun b ρ3 M3 => ρ3 = ρ2 ∧
      (if b = true then qe ρ3 M3 fun r ρ4 M4 => ρ4 = ρ3 ∧ acc.length < 16777216 ∧ J (acc ++ [r.val]) M4 else J acc M3))
    (hk : ∀ bs : List β, bs.length = ds.length → (∀ i b, bs[i]? = some b → P i b) → Q (.ow (.lst (bs.map g'))) ρ M) : eLc qi g tYes' qe vs ρ0 M0 Q := by
  refine hq _ ⟨hv, fun i acc M' => M' = M ∧ i ≤ ds.length ∧ ∃ bs : List β, acc = bs.map g' ∧ bs.length = i ∧ ∀ i b, bs[i]? = some b → P i b, ⟨rfl, Nat.zero_le _, [], rfl, rfl, by simp⟩, ?_, ?_⟩
  · rintro i d acc M' hd ⟨rfl, hi, bs, rfl, hn, hP⟩
    have hlt : i < ds.length := (List.getElem?_eq_some_iff.mp hd).1
    refine hs i d _ (fun acc M2 => M2 = M' ∧ i + 1 ≤ ds.length ∧ ∃ bs : List β, acc = bs.map g' ∧ bs.length = i + 1 ∧ ∀ i b, bs[i]? = some b → P i b) hd (by rw [List.length_map]; omega) fun b hb => ⟨rfl, hlt, bs ++ [b], by simp, by simp [hn], fun j c hj => ?_⟩
    rcases Nat.lt_or_ge j bs.length with w | w
    · rw [List.getElem?_append_left w] at hj
      exact hP j c hj
    · rw [List.getElem?_append_right w] at hj
      have : j - bs.length = 0 := by
        have := (List.getElem?_eq_some_iff.mp hj).1
        simp at this
        omega
      rw [this] at hj
      obtain rfl : j = i := by omega
      cases hj
      exact hb
  · rintro acc M' ⟨rfl, _, bs, rfl, hn, hP⟩
    exact hk bs hn hP

def p_repeats : PSp := fun ds M Q _ => match ds with
  | [.int P, .tup xs, .int t] => ∃ ns : List Int, xs = ns.map D.int ∧ (Res P ns ∧ 1 ≤ t ∧ t ∣ P ∧ P < 1267650600228229401496703205376 ∧ ns.length < 4000) ∧ Q (.va (.bl (decide (Closed P ns t)))) M
  | _ => False

/-- a piece of a pattern: its start, its period, its residues -/
abbrev Pc := Int × Int × List Int
def kdD (k : Int × List Int) : D := .tup [.int k.1, .tup (k.2.map D.int)]
def pcD (p : Pc) : D := .tup [.int p.1, .int p.2.1, .tup (p.2.2.map D.int)]
abbrev KdOk (k : Int × List Int) : Prop := Res k.1 k.2 ∧ k.1 < 1000000000 ∧ k.2.length < 4000
def inPc (p : Pc) (d : Int) : Bool := decide (d % p.2.1 ∈ p.2.2)
/-- the days of a row of pieces: what the last piece that has begun tells -/
def patB (ps : List Pc) (d : Int) : Bool := ps.foldl (fun f p => if p.1 ≤ d then inPc p d else f) false
theorem patB_nil {d : Int} : patB [] d = false := rfl
theorem patB_snoc {ps : List Pc} {p : Pc} {d : Int} : patB (ps ++ [p]) d = if p.1 ≤ d then inPc p d else patB ps d := by
  unfold patB
  rw [List.foldl_append]
  rfl
/-- ascending from 0 on -/
structure PatOk (ps : List Pc) : Prop where
  hd : ∃ k r, ps = (0, k) :: r
  asc : ps.Pairwise fun a b => a.1 < b.1
  ok : ∀ p ∈ ps, KdOk p.2
structure Tidy (ps : List Pc) : Prop extends PatOk ps where
  mini : ∀ p ∈ ps, Mini p.2.1 p.2.2
  adj : ∀ (k : Nat) a b, ps[k]? = some a → ps[k + 1]? = some b → a.2 ≠ b.2
/-- each piece begins as one of the others, and is no longer -/
def TdSub (ps fs : List Pc) : Prop := ∀ f ∈ fs, ∃ p ∈ ps, f.1 = p.1 ∧ f.2.1 ≤ p.2.1 ∧ f.2.2.length ≤ p.2.2.length
/-- some of the pieces are tidied -/
structure TdInv (ps fs : List Pc) : Prop where
  ne : ps ≠ [] → fs ≠ []
  hd : ∀ k r, ps = (0, k) :: r → ∃ k' r', fs = (0, k') :: r'
  asc : fs.Pairwise fun a b => a.1 < b.1
  below : TdSub ps fs
  ok : ∀ p ∈ fs, KdOk p.2
  mini : ∀ p ∈ fs, Mini p.2.1 p.2.2
  adj : ∀ (k : Nat) a b, fs[k]? = some a → fs[k + 1]? = some b → a.2 ≠ b.2
  same : ∀ d, patB fs d = patB ps d
  len : fs.length ≤ ps.length
theorem TdInv.start : TdInv [] [] := ⟨fun h => h, fun _ _ h => (by cases h), by simp, by simp [TdSub], by simp, by simp, by simp, fun _ => rfl, Nat.le_refl _⟩
theorem TdInv.add {ps fs : List Pc} {s P P' : Int} {ns ns' : List Int} (h : TdInv ps fs) (hs : ∀ p ∈ ps, p.1 < s) (hk : KdOk (P', ns')) (hm : Mini P' ns') (e : ∀ x, x % P' ∈ ns' ↔ x % P ∈ ns)
    (hl : ∀ gs l, fs = gs ++ [l] → l.2 ≠ (P', ns')) (hle : P' ≤ P) (hll : ns'.length ≤ ns.length) : TdInv (ps ++ [(s, P, ns)]) (fs ++ [(s, P', ns')]) := by
  refine ⟨by simp, fun k r hr => ?_, ?_, fun f hf => ?_, fun p hp => ?_, fun p hp => ?_, fun k a b ha hb => ?_, fun d => ?_, by simp [h.len]⟩
  · cases ps with
    | nil =>
      cases fs with
      | nil =>
        simp only [List.nil_append, List.cons.injEq, Prod.mk.injEq] at hr
        exact ⟨(P', ns'), [], by simp [hr.1.1]⟩
      | cons f fs => exact absurd h.len (by simp)
    | cons p ps =>
      simp only [List.cons_append, List.cons.injEq] at hr
      obtain ⟨k', r', e'⟩ := h.hd k ps (by rw [hr.1])
      exact ⟨k', r' ++ [(s, P', ns')], by rw [e']; rfl⟩
  · refine List.pairwise_append.mpr ⟨h.asc, by simp, fun a ha b hb => ?_⟩
    rw [List.mem_singleton.mp hb]
    obtain ⟨p, hp, e⟩ := h.below a ha
    have := hs p hp
    show a.1 < s
    omega
  · rcases List.mem_append.mp hf with w | w
    · obtain ⟨p, hp, e⟩ := h.below f w
      exact ⟨p, List.mem_append_left _ hp, e⟩
    · rw [List.mem_singleton.mp w]
      exact ⟨(s, P, ns), List.mem_append_right _ (by simp), rfl, hle, hll⟩
  · rcases List.mem_append.mp hp with w | w
    · exact h.ok p w
    · rw [List.mem_singleton.mp w]; exact hk
  · rcases List.mem_append.mp hp with w | w
    · exact h.mini p w
    · rw [List.mem_singleton.mp w]; exact hm
  · by_cases c : k + 1 < fs.length
    · rw [List.getElem?_append_left (by omega)] at ha
      rw [List.getElem?_append_left c] at hb
      exact h.adj k a b ha hb
    · by_cases c2 : k + 1 = fs.length
      · rw [List.getElem?_append_left (by omega)] at ha
        rw [List.getElem?_append_right (by omega), c2, Nat.sub_self] at hb
        cases hb
        have hne : fs ≠ [] := by rintro rfl; simp at c2
        have e1 := List.dropLast_concat_getLast hne
        have e2 : fs.getLast hne = a := by
          rw [List.getLast_eq_getElem hne]
          obtain ⟨q1, q2⟩ := List.getElem?_eq_some_iff.mp ha
          rw [← q2]
          congr 1
          omega
        rw [e2] at e1
        exact hl _ _ e1.symm
      · rw [List.getElem?_append_right (by omega)] at hb
        have : k + 1 - fs.length ≥ 1 := by omega
        rw [List.getElem?_eq_none (by simpa using this)] at hb
        cases hb
  · rw [patB_snoc, patB_snoc, h.same d]
    show (if s ≤ d then decide (d % P' ∈ ns') else _) = if s ≤ d then decide (d % P ∈ ns) else _
    rw [decide_eq_decide.mpr (e d)]
theorem TdInv.skip {ps gs : List Pc} {l : Pc} {s P : Int} {ns : List Int} (h : TdInv ps (gs ++ [l])) (hs : ∀ p ∈ ps, p.1 < s) (e : ∀ x, x % l.2.1 ∈ l.2.2 ↔ x % P ∈ ns) : TdInv (ps ++ [(s, P, ns)]) (gs ++ [l]) := by
  refine ⟨by simp, fun k r hr => ?_, h.asc, fun f hf => ?_, h.ok, h.mini, h.adj, fun d => ?_, by have := h.len; simp at this ⊢; omega⟩
  · cases ps with
    | nil => exact absurd h.len (by simp)
    | cons p ps =>
      simp only [List.cons_append, List.cons.injEq] at hr
      exact h.hd k ps (by rw [hr.1])
  · obtain ⟨p, hp, e⟩ := h.below f hf
    exact ⟨p, List.mem_append_left _ hp, e⟩
  · rw [patB_snoc (ps := ps), ← h.same d, patB_snoc (ps := gs)]
    obtain ⟨p, hp, e2⟩ := h.below l (by simp)
    have := hs p hp
    show _ = if s ≤ d then decide (d % P ∈ ns) else _
    by_cases c : s ≤ d
    · rw [if_pos c, if_pos (by omega)]
      exact decide_eq_decide.mpr (e d)
    · rw [if_neg c]
theorem TdInv.tidy {ps fs : List Pc} (h : TdInv ps fs) (hp : ∃ k r, ps = (0, k) :: r) : Tidy fs :=
  { hd := let ⟨k, r, e⟩ := hp; h.hd k r e, asc := h.asc, ok := h.ok, mini := h.mini, adj := h.adj }
theorem asc_take {ps : List Pc} (h : ps.Pairwise fun a b => a.1 < b.1) {i : Nat} {p : Pc} (e : ps[i]? = some p) : ∀ q ∈ ps.take i, q.1 < p.1 := by
  intro q hq
  obtain ⟨j, hj, rfl⟩ := List.mem_iff_getElem.mp hq
  obtain ⟨hi, rfl⟩ := List.getElem?_eq_some_iff.mp e
  rw [List.getElem_take]
  rw [List.length_take] at hj
  exact List.pairwise_iff_getElem.mp h j i (by omega) hi (by omega)
/-- from a day on, behind the start of the last piece that has begun -/
theorem patB_at : ∀ {ps : List Pc} {k : Nat} {p : Pc} {d : Int}, ps.Pairwise (fun a b => a.1 < b.1) → ps[k]? = some p → p.1 ≤ d → (∀ q, ps[k + 1]? = some q → d < q.1) → patB ps d = inPc p d := by
  intro ps k p d hA hk h1 h2
  have hlt := (List.getElem?_eq_some_iff.mp hk).1
  have e : ps = ps.take (k + 1) ++ ps.drop (k + 1) := (List.take_append_drop _ _).symm
  have hdrop : ∀ q ∈ ps.drop (k + 1), d < q.1 := by
    intro q hq
    obtain ⟨j, hj, rfl⟩ := List.mem_iff_getElem.mp hq
    rw [List.length_drop] at hj
    rw [List.getElem_drop]
    have h3 := h2 ps[k + 1] (List.getElem?_eq_getElem (by omega))
    rcases Nat.eq_zero_or_pos j with z | z
    · subst z; exact h3
    · have := List.pairwise_iff_getElem.mp hA (k + 1) (k + 1 + j) (by omega) (by omega) (by omega)
      omega
  have skip : ∀ (qs : List Pc) (b : Bool), (∀ q ∈ qs, d < q.1) → qs.foldl (fun f p => if p.1 ≤ d then inPc p d else f) b = b := by
    intro qs
    induction qs with
    | nil => intro b _; rfl
    | cons q qs ih =>
      intro b hq
      have := hq q List.mem_cons_self
      rw [List.foldl_cons, if_neg (by omega)]
      exact ih b fun r hr => hq r (List.mem_cons_of_mem _ hr)
  unfold patB
  rw [e, List.foldl_append, skip _ _ hdrop, List.take_add_one, hk, Option.toList_some, List.foldl_append]
  show (if p.1 ≤ d then inPc p d else _) = _
  rw [if_pos h1]
/-- before the first start there is no day -/
theorem patB_neg {ps : List Pc} (h : PatOk ps) {d : Int} (hd : d < 0) : patB ps d = false := by
  have h0 : ∀ p ∈ ps, 0 ≤ p.1 := by
    obtain ⟨k, r, rfl⟩ := h.hd
    intro p hp
    rcases List.mem_cons.mp hp with rfl | w
    · exact Int.le_refl _
    · have : (0 : Int) < p.1 := (List.pairwise_cons.mp h.asc).1 p w
      omega
  have : ∀ (qs : List Pc), (∀ q ∈ qs, 0 ≤ q.1) → qs.foldl (fun f p => if p.1 ≤ d then inPc p d else f) false = false := by
    intro qs
    induction qs with
    | nil => intro _; rfl
    | cons q qs ih =>
      intro hq
      have := hq q List.mem_cons_self
      rw [List.foldl_cons, if_neg (by omega)]
      exact ih fun r hr => hq r (List.mem_cons_of_mem _ hr)
  exact this ps h0
theorem pcD_eq {s P : Int} {ns : List Int} : pcD (s, P, ns) = .tup [.int s, .int P, .tup (ns.map D.int)] := rfl
/-- pieces told one behind the other, the next one from s on -/
def PcInv (ps : List Pc) (s : Int) : Prop := (ps = [] ∧ s = 0) ∨ (PatOk ps ∧ ∀ p ∈ ps, p.1 < s)
theorem PcInv.add {ps : List Pc} {s t u : Int} {k : Int × List Int} (h : PcInv ps s) (hk : KdOk k) (h1 : s ≤ t) (h2 : t < u) (h3 : ps = [] → t = 0) : PatOk (ps ++ [(t, k)]) ∧ PcInv (ps ++ [(t, k)]) u := by
  have a : PatOk (ps ++ [(t, k)]) := by
    rcases h with ⟨rfl, rfl⟩ | ⟨h, hb⟩
    · have := h3 rfl
      subst this
      exact ⟨⟨_, _, rfl⟩, by simp, by simpa using hk⟩
    · refine ⟨?_, List.pairwise_append.mpr ⟨h.asc, by simp, fun a ha b hb2 => ?_⟩, fun p hp => ?_⟩
      · obtain ⟨k', r, rfl⟩ := h.hd
        exact ⟨k', r ++ [(t, k)], rfl⟩
      · rw [List.mem_singleton.mp hb2]
        have := hb a ha
        show a.1 < t
        omega
      · rcases List.mem_append.mp hp with w | w
        · exact h.ok p w
        · rw [List.mem_singleton.mp w]; exact hk
  refine ⟨a, .inr ⟨a, fun p hp => ?_⟩⟩
  rcases List.mem_append.mp hp with w | w
  · rcases h with ⟨rfl, rfl⟩ | ⟨h, hb⟩
    · cases w
    · have := hb p w
      omega
  · rw [List.mem_singleton.mp w]; exact h2
/-- what the law draws: short periods, perhaps a great one -/
def PiecesOf (ps : List Pc) : Prop := PatOk ps ∧ ps.length ≤ 4 ∧ ∃ qs ls, ps = qs ++ ls ∧ PatOk qs ∧ (∀ q ∈ qs, q.2.1 ≤ 12 ∧ q.1 ≤ 93) ∧ (∀ l ∈ ls, 12 < l.2.1 ∧ l.1 ≤ 1000100) ∧ ls.length ≤ 1
theorem PatOk.pos {ps : List Pc} (h : PatOk ps) : ∀ p ∈ ps, 0 < p.2.1 ∧ p.2.1 < 1000000000 := fun p hp => ⟨(h.ok p hp).1.1, (h.ok p hp).2.1⟩
/-- what windows tells of a pattern -/
def endI (ps : List Pc) (k : Nat) : D := match ps[k + 1]? with | some q => .int q.1 | none => .non
def winI (ps : List Pc) (k : Nat) : D := .tup [.int (ps.getD k (0, 1, [])).1, endI ps k, kdD (ps.getD k (0, 1, [])).2]
def winD (ps : List Pc) : List D := (List.range ps.length).map (winI ps)
theorem ckAl_winD {ps : List Pc} : CkAl 63 (winD ps) := by
  intro d hd
  obtain ⟨k, _, rfl⟩ := List.mem_map.mp hd
  unfold winI endI kdD
  refine ckA_tup.mpr ?_
  simp only [ckAl_cons, ckAl_nil, and_true]
  refine ⟨ck_int, ?_, ?_⟩
  · split
    · exact ck_int
    · exact ck_non
  · refine ckA_tup.mpr ?_
    simp only [ckAl_cons, ckAl_nil, and_true]
    exact ⟨ck_int, ckA_tup.mpr ckAl_ints⟩
theorem winD_get {ps : List Pc} {i : Nat} {d : D} (h : (winD ps)[i]? = some d) : ∃ s P ns, ps[i]? = some (s, P, ns) ∧
    ((∃ q, ps[i + 1]? = some q ∧ d = .tup [.int s, .int q.1, .tup [.int P, .tup (ns.map D.int)]]) ∨ (i + 1 = ps.length ∧ ps[i + 1]? = none ∧ d = .tup [.int s, .non, .tup [.int P, .tup (ns.map D.int)]])) := by
  obtain ⟨h1, h2⟩ := List.getElem?_eq_some_iff.mp h
  have hlt : i < ps.length := by simpa [winD] using h1
  obtain ⟨p, hp⟩ : ∃ p, ps[i]? = some p := ⟨_, List.getElem?_eq_getElem hlt⟩
  obtain ⟨s, P, ns⟩ := p
  have e : winI ps i = d := by
    unfold winD at h
    rw [List.getElem?_map, List.getElem?_range hlt] at h
    exact Option.some.inj h
  refine ⟨s, P, ns, hp, ?_⟩
  by_cases c : i + 1 < ps.length
  · obtain ⟨q, hq⟩ : ∃ q, ps[i + 1]? = some q := ⟨_, List.getElem?_eq_getElem c⟩
    refine .inl ⟨q, hq, ?_⟩
    rw [← e]
    simp [winI, endI, hq, List.getD, hp, kdD]
  · have hn : ps[i + 1]? = none := List.getElem?_eq_none (by omega)
    refine .inr ⟨by omega, hn, ?_⟩
    rw [← e]
    simp [winI, endI, hn, List.getD, hp, kdD]
theorem winD_len {ps : List Pc} : (winD ps).length = ps.length := by simp [winD]

def p_windows : PSp := fun ds M Q _ => match ds with
  | [.tup xs] => ∃ ps : List Pc, xs = ps.map pcD ∧ ps.length < 1000000 ∧ Q (.ow (.lst (winD ps))) M
  | _ => False

/-! duties dealt out -/
def oS : Option Str → D
  | none => .non
  | some s => .str s
def duD (p : Int × Option Str) : D := .tup [.int p.1, oS p.2]
def NamesOk (rows : List (Int × Option Str)) : Prop := ∀ r ∈ rows, ∀ s, r.2 = some s → PyData.strOk s = true
theorem max_if {a b : Int} : (if b > a then b else a) = max a b := by
  rcases Int.lt_or_le a b with h | h
  · rw [if_pos h, Int.max_eq_right (Int.le_of_lt h)]
  · rw [if_neg (by omega), Int.max_eq_left h]
/-- the person there with the fewest so far -/
def bestK (loads : List Int) (aw : Nat → Bool) : Nat → Option Nat
  | 0 => none
  | n + 1 => match bestK loads aw n with
    | none => if aw n = true then none else some n
    | some b => if aw n = false ∧ loads.getD n 0 < loads.getD b 0 then some n else some b
def IsBestK (loads : List Int) (aw : Nat → Bool) (n : Nat) : Option Nat → Prop
  | none => ∀ k, k < n → aw k = true
  | some b => b < n ∧ aw b = false ∧ ∀ k, k < n → aw k = false → loads.getD b 0 < loads.getD k 0 ∨ (loads.getD b 0 = loads.getD k 0 ∧ b ≤ k)
theorem bestK_is {loads : List Int} {aw : Nat → Bool} : ∀ n, IsBestK loads aw n (bestK loads aw n)
  | 0 => fun k hk => absurd hk (Nat.not_lt_zero _)
  | n + 1 => by
    have ih := bestK_is (loads := loads) (aw := aw) n
    unfold bestK
    cases e : bestK loads aw n with
    | none =>
      rw [e] at ih
      simp only []
      by_cases c : aw n = true
      · rw [if_pos c]
        intro k hk
        rcases Nat.lt_or_ge k n with w | w
        · exact ih k w
        · rw [show k = n by omega]; exact c
      · rw [if_neg c]
        refine ⟨by omega, by simpa using c, fun k hk ha => ?_⟩
        rcases Nat.lt_or_ge k n with w | w
        · rw [ih k w] at ha; cases ha
        · exact .inr ⟨by rw [show k = n by omega], by omega⟩
    | some b =>
      rw [e] at ih
      obtain ⟨i1, i2, i3⟩ := ih
      simp only []
      split
      · rename_i c
        refine ⟨by omega, c.1, fun k hk ha => ?_⟩
        rcases Nat.lt_or_ge k n with w | w
        · have := i3 k w ha
          exact .inl (by omega)
        · exact .inr ⟨by rw [show k = n by omega], by omega⟩
      · rename_i c
        refine ⟨by omega, i2, fun k hk ha => ?_⟩
        rcases Nat.lt_or_ge k n with w | w
        · exact i3 k w ha
        · obtain rfl : k = n := by omega
          have : ¬ loads.getD k 0 < loads.getD b 0 := fun w => c ⟨ha, w⟩
          omega
theorem IsBestK.uniq {loads : List Int} {aw : Nat → Bool} {n : Nat} : ∀ {r r2 : Option Nat}, IsBestK loads aw n r → IsBestK loads aw n r2 → r = r2
  | none, none, _, _ => rfl
  | none, some b, h, ⟨h1, h2, _⟩ => by rw [h b h1] at h2; cases h2
  | some b, none, ⟨h1, h2, _⟩, h => by rw [h b h1] at h2; cases h2
  | some b, some c, ⟨h1, h2, h3⟩, ⟨k1, k2, k3⟩ => by
    have a1 := h3 c k1 k2
    have a2 := k3 b h1 h2
    rw [show b = c by omega]
theorem bestK_lt {loads : List Int} {aw : Nat → Bool} {n k : Nat} (h : bestK loads aw n = some k) : k < n := by
  have := bestK_is (loads := loads) (aw := aw) n
  rw [h] at this
  exact this.1
def stepD (ss : List Str) (aw : Int → Nat → Bool) (st : List (Int × Option Str) × List Int) (d : Int) : List (Int × Option Str) × List Int :=
  match bestK st.2 (aw d) ss.length with
  | none => (st.1 ++ [(d, none)], st.2)
  | some k => (st.1 ++ [(d, ss[k]?)], st.2.set k (st.2.getD k 0 + 1))
def dealF (ss : List Str) (aw : Int → Nat → Bool) (ds : List Int) : List (Int × Option Str) × List Int := ds.foldl (stepD ss aw) ([], ss.map fun _ => 0)
theorem dealF_snoc {ss : List Str} {aw : Int → Nat → Bool} {ds : List Int} {d : Int} : dealF ss aw (ds ++ [d]) = stepD ss aw (dealF ss aw ds) d := by
  unfold dealF
  rw [List.foldl_append]
  rfl
def numR (rows : List (Int × Option Str)) (s : Str) : Int := ((rows.filter fun r => decide (r.2 = some s)).length : Nat)
structure DealOk (ss : List Str) (n : Nat) (st : List (Int × Option Str) × List Int) : Prop where
  rl : st.1.length = n
  ll : st.2.length = ss.length
  nm : ∀ (k : Nat) (s : Str), ss[k]? = some s → st.2.getD k 0 = numR st.1 s
theorem numR_snoc {rows : List (Int × Option Str)} {d : Int} {o : Option Str} {s : Str} : numR (rows ++ [(d, o)]) s = numR rows s + if o = some s then 1 else 0 := by
  unfold numR
  rw [List.filter_append, List.length_append]
  by_cases c : o = some s
  · rw [if_pos c]; simp [c]
  · rw [if_neg c]; simp [c]
theorem DealOk.step {ss : List Str} {aw : Int → Nat → Bool} {n : Nat} {st : List (Int × Option Str) × List Int} {d : Int} (nd : ss.Nodup) (h : DealOk ss n st) : DealOk ss (n + 1) (stepD ss aw st d) := by
  obtain ⟨h1, h2, h3⟩ := h
  unfold stepD
  cases e : bestK st.2 (aw d) ss.length with
  | none =>
    refine ⟨by simp [h1], h2, fun k s hs => ?_⟩
    simp only []
    rw [numR_snoc, if_neg (by simp), h3 k s hs]
    omega
  | some k =>
    have hk := bestK_lt e
    refine ⟨by simp [h1], by simp [h2], fun j s hs => ?_⟩
    simp only []
    rw [numR_snoc]
    have hk2 : k < st.2.length := by rw [h2]; exact hk
    by_cases c : j = k
    · subst c
      rw [if_pos hs, ← h3 j s hs, List.getD_eq_getElem?_getD, List.getElem?_set_self hk2]
      rfl
    · rw [if_neg, List.getD_eq_getElem?_getD, List.getElem?_set_ne (by omega), ← List.getD_eq_getElem?_getD, h3 j s hs]
      · omega
      · intro w
        have h4 := (List.getElem?_eq_some_iff.mp hs).1
        exact c ((List.getElem?_inj h4 nd).mp (hs.trans w.symm))
theorem dealF_ok {ss : List Str} {aw : Int → Nat → Bool} (nd : ss.Nodup) (ds : List Int) : DealOk ss ds.length (dealF ss aw ds) := by
  generalize hn : ds.length = n
  induction n generalizing ds with
  | zero =>
    rw [List.eq_nil_of_length_eq_zero hn]
    exact ⟨rfl, by show (ss.map fun _ => (0 : Int)).length = _; rw [List.length_map], fun k s hs => by
      show (ss.map fun _ => (0 : Int)).getD k 0 = 0
      rw [List.getD_eq_getElem?_getD, List.getElem?_map, hs]
      rfl⟩
  | succ n ih =>
    obtain ⟨ys, y, rfl⟩ : ∃ ys y, ds = ys ++ [y] := by
      rcases List.eq_nil_or_concat ds with rfl | ⟨ys, y, e⟩
      · simp at hn
      · exact ⟨ys, y, by rw [e, List.concat_eq_append]⟩
    rw [dealF_snoc]
    exact (ih ys (by simpa using hn)).step nd
theorem deal_loads {ss : List Str} {aw : Int → Nat → Bool} (nd : ss.Nodup) (ds : List Int) : (dealF ss aw ds).2 = ss.map (numR (dealF ss aw ds).1) := by
  obtain ⟨_, h2, h3⟩ := dealF_ok (aw := aw) nd ds
  refine List.ext_getElem? fun k => ?_
  rw [List.getElem?_map]
  rcases Nat.lt_or_ge k ss.length with w | w
  · have e := List.getElem?_eq_getElem w
    have := h3 k _ e
    rw [List.getD_eq_getElem?_getD, List.getElem?_eq_getElem (show k < (dealF ss aw ds).2.length by omega)] at this
    rw [e, List.getElem?_eq_getElem (show k < (dealF ss aw ds).2.length by omega)]
    exact congrArg some this
  · rw [List.getElem?_eq_none w, List.getElem?_eq_none (by omega)]
    rfl
/-- the longest run -/
def runF (s : Str) (rows : List (Int × Option Str)) : Int × Int := rows.foldl (fun a r => (max a.1 (if r.2 = some s then a.2 + 1 else 0), if r.2 = some s then a.2 + 1 else 0)) (0, 0)
def WinOk (s : Str) (rows : List (Int × Option Str)) (k n : Nat) : Prop := n ≤ rows.length ∧ ∀ j, k ≤ j → j < n → ∀ r, rows[j]? = some r → r.2 = some s
structure IsRunB (s : Str) (rows : List (Int × Option Str)) (b : Int) : Prop where
  nn : 0 ≤ b
  is : b = 0 ∨ ∃ k n : Nat, k < n ∧ WinOk s rows k n ∧ (n : Int) - k = b
  top : ∀ k n : Nat, k < n → WinOk s rows k n → (n : Int) - k ≤ b
theorem IsRunB.uniq {s : Str} {rows : List (Int × Option Str)} {b c : Int} (h : IsRunB s rows b) (h2 : IsRunB s rows c) : b = c := by
  have a1 : b ≤ c := by
    rcases h.is with w | ⟨k, n, h1, h3, e⟩
    · have := h2.nn; omega
    · have := h2.top k n h1 h3; omega
  have a2 : c ≤ b := by
    rcases h2.is with w | ⟨k, n, h1, h3, e⟩
    · have := h.nn; omega
    · have := h.top k n h1 h3; omega
  omega
theorem runF_snoc {s : Str} {rows : List (Int × Option Str)} {r : Int × Option Str} : runF s (rows ++ [r]) = (max (runF s rows).1 (if r.2 = some s then (runF s rows).2 + 1 else 0), if r.2 = some s then (runF s rows).2 + 1 else 0) := by
  unfold runF
  rw [List.foldl_append]
  rfl
theorem WinOk.snoc {s : Str} {rows : List (Int × Option Str)} {r : Int × Option Str} {k n : Nat} (h : n ≤ rows.length) : WinOk s (rows ++ [r]) k n ↔ WinOk s rows k n := by
  unfold WinOk
  rw [List.length_append, List.length_singleton]
  constructor
  · rintro ⟨h1, h2⟩
    exact ⟨h, fun j hj hn q hq => h2 j hj hn q (by rw [List.getElem?_append_left (by omega)]; exact hq)⟩
  · rintro ⟨h1, h2⟩
    exact ⟨by omega, fun j hj hn q hq => h2 j hj hn q (by rw [List.getElem?_append_left (by omega)] at hq; exact hq)⟩
theorem runF_ok {s : Str} (rows : List (Int × Option Str)) : IsRunB s rows (runF s rows).1 ∧ 0 ≤ (runF s rows).2 ∧ (runF s rows).2 ≤ rows.length ∧ WinOk s rows (rows.length - (runF s rows).2.toNat) rows.length ∧
    ∀ k, k < rows.length → WinOk s rows k rows.length → (rows.length : Int) - k ≤ (runF s rows).2 := by
  generalize hn : rows.length = n
  induction n generalizing rows with
  | zero =>
    rw [List.eq_nil_of_length_eq_zero hn]
    exact ⟨⟨Int.le_refl _, .inl rfl, fun k n h1 ⟨h2, _⟩ => by simp at h2; omega⟩, Int.le_refl _, Int.le_refl _, ⟨Nat.le_refl _, fun j h1 h2 => by omega⟩, fun k hk => by omega⟩
  | succ n ih =>
    obtain ⟨ys, r, rfl⟩ : ∃ ys y, rows = ys ++ [y] := by
      rcases List.eq_nil_or_concat rows with rfl | ⟨ys, y, e⟩
      · simp at hn
      · exact ⟨ys, y, by rw [e, List.concat_eq_append]⟩
    have hl : ys.length = n := by simpa using hn
    obtain ⟨b1, b2, b3, b4, b5⟩ := ih ys hl
    rw [runF_snoc]
    generalize (runF s ys).1 = b at *
    generalize (runF s ys).2 = c at *
    have hr : (ys ++ [r])[n]? = some r := by rw [List.getElem?_append_right (by omega), hl]; simp
    have hlen : (ys ++ [r]).length = n + 1 := by simp [hl]
    by_cases e : r.2 = some s
    · rw [if_pos e]
      have w1 : WinOk s (ys ++ [r]) (n + 1 - (c + 1).toNat) (n + 1) := by
        refine ⟨by omega, fun j h1 h2 q hq => ?_⟩
        rcases Nat.lt_or_ge j n with w | w
        · rw [List.getElem?_append_left (by omega)] at hq
          exact b4.2 j (by omega) w q hq
        · rw [show j = n by omega, hr] at hq
          cases hq
          exact e
      have w2 : ∀ k, k < n + 1 → WinOk s (ys ++ [r]) k (n + 1) → ((n + 1 : Nat) : Int) - k ≤ c + 1 := fun k hk ⟨_, hw⟩ => by
        rcases Nat.lt_or_ge k n with w | w
        · have := b5 k w ⟨by omega, fun j h1 h2 q hq => hw j h1 (by omega) q (by rw [List.getElem?_append_left (by omega)]; exact hq)⟩
          omega
        · omega
      refine ⟨⟨by omega, ?_, fun k m hk hw => ?_⟩, by omega, by omega, w1, w2⟩
      · rcases Int.le_total b (c + 1) with u | u
        · rw [Int.max_eq_right u]
          exact .inr ⟨n + 1 - (c + 1).toNat, n + 1, by omega, w1, by omega⟩
        · rw [Int.max_eq_left u]
          rcases b1.is with q | ⟨k, m, h1, h2, h3⟩
          · exact .inl q
          · exact .inr ⟨k, m, h1, (WinOk.snoc h2.1).mpr h2, h3⟩
      · have := hw.1
        rcases Nat.lt_or_ge m (n + 1) with w | w
        · have := b1.top k m hk ((WinOk.snoc (by omega)).mp hw)
          omega
        · obtain rfl : m = n + 1 := by omega
          have := w2 k hk hw
          omega
    · rw [if_neg e, Int.max_eq_left b1.nn]
      have no : ∀ k, k < n + 1 → ¬ WinOk s (ys ++ [r]) k (n + 1) := fun k hk hw => e (hw.2 n (by omega) (by omega) r hr)
      refine ⟨⟨b1.nn, ?_, fun k m hk hw => ?_⟩, Int.le_refl _, by omega, ⟨by omega, fun j h1 h2 => by omega⟩, fun k hk hw => absurd hw (no k hk)⟩
      · rcases b1.is with q | ⟨k, m, h1, h2, h3⟩
        · exact .inl q
        · exact .inr ⟨k, m, h1, (WinOk.snoc h2.1).mpr h2, h3⟩
      · have := hw.1
        rcases Nat.lt_or_ge m (n + 1) with w | w
        · exact b1.top k m hk ((WinOk.snoc (by omega)).mp hw)
        · obtain rfl : m = n + 1 := by omega
          exact absurd hw (no k hk)
def unmD : D → Option D
  | .tup [.int d, .non] => some (.int d)
  | _ => none
theorem unmD_map : ∀ rows : List (Int × Option Str), (rows.map duD).filterMap unmD = ((rows.filter fun r => r.2 = none).map (·.1)).map D.int
  | [] => rfl
  | (d, none) :: rows => by
    rw [List.map_cons, List.filterMap_cons, List.filter_cons_of_pos (by simp), List.map_cons, List.map_cons, ← unmD_map rows]
    rfl
  | (d, some s) :: rows => by
    rw [List.map_cons, List.filterMap_cons, List.filter_cons_of_neg (by simp), ← unmD_map rows]
    rfl
def oneD (s : Str) : D → Option D
  | .tup [.int d, .str t] => if t = s then some (.int d) else none
  | _ => none
theorem oneD_map {s : Str} : ∀ rows : List (Int × Option Str), (rows.map duD).filterMap (oneD s) = ((rows.filter fun r => decide (r.2 = some s)).map (·.1)).map D.int
  | [] => rfl
  | (d, none) :: rows => by
    rw [List.map_cons, List.filterMap_cons, List.filter_cons_of_neg (by simp), ← oneD_map rows]
    rfl
  | (d, some t) :: rows => by
    rw [List.map_cons, List.filterMap_cons, oneD_map rows]
    have e : oneD s (duD (d, some t)) = if t = s then some (.int d) else none := rfl
    rw [e]
    by_cases c : t = s
    · rw [if_pos c, List.filter_cons_of_pos (by simp [c])]; rfl
    · rw [if_neg c, List.filter_cons_of_neg (by simp [c])]
def loadD (rows : List (Int × Option Str)) : D → Option D
  | .str s => some (.int (numR rows s))
  | _ => none
theorem loadD_map {rows : List (Int × Option Str)} : ∀ ss : List Str, (ss.map D.str).filterMap (loadD rows) = (ss.map (numR rows)).map D.int
  | [] => rfl
  | s :: ss => by
    rw [List.map_cons, List.filterMap_cons, loadD_map ss]
    rfl
def thD (loads : List Int) (aw : Nat → Bool) : D → Option D
  | .int k => if aw k.toNat = true then none else some (spD (loads.getD k.toNat 0, k))
  | _ => none
theorem thD_map {loads : List Int} {aw : Nat → Bool} {n : Nat} : (rangeL 0 n).filterMap (thD loads aw) = (((List.range n).filter fun k => !aw k).map fun k => (loads.getD k 0, (k : Int))).map spD := by
  unfold rangeL
  rw [List.filterMap_map, List.map_map, ← List.filterMap_eq_map, List.filterMap_filter]
  rw [show ((n : Int) - 0).toNat = n by omega]
  congr 1
  funext k
  simp only [Function.comp, Int.zero_add, thD, Int.toNat_natCast]
  cases aw k <;> simp
theorem dealF_len {ss : List Str} {aw : Int → Nat → Bool} (ds : List Int) : (dealF ss aw ds).1.length = ds.length ∧ (dealF ss aw ds).2.length = ss.length := by
  generalize hn : ds.length = n
  induction n generalizing ds with
  | zero =>
    rw [List.eq_nil_of_length_eq_zero hn]
    exact ⟨rfl, by show (ss.map fun _ => (0 : Int)).length = _; rw [List.length_map]⟩
  | succ n ih =>
    obtain ⟨ys, y, rfl⟩ : ∃ ys y, ds = ys ++ [y] := by
      rcases List.eq_nil_or_concat ds with rfl | ⟨ys, y, e⟩
      · simp at hn
      · exact ⟨ys, y, by rw [e, List.concat_eq_append]⟩
    obtain ⟨h1, h2⟩ := ih ys (by simpa using hn)
    rw [dealF_snoc]
    unfold stepD
    split
    · exact ⟨by simp [h1], h2⟩
    · exact ⟨by simp [h1], by simp [h2]⟩
def kD : Option Nat → D
  | none => .non
  | some k => .int k
theorem dealF_names {ss : List Str} {aw : Int → Nat → Bool} (hs : ∀ s ∈ ss, PyData.strOk s = true) (ds : List Int) : NamesOk (dealF ss aw ds).1 := by
  generalize hn : ds.length = n
  induction n generalizing ds with
  | zero =>
    rw [List.eq_nil_of_length_eq_zero hn]
    intro r hr
    cases hr
  | succ n ih =>
    obtain ⟨ys, y, rfl⟩ : ∃ ys y, ds = ys ++ [y] := by
      rcases List.eq_nil_or_concat ds with rfl | ⟨ys, y, e⟩
      · simp at hn
      · exact ⟨ys, y, by rw [e, List.concat_eq_append]⟩
    have h1 := ih ys (by simpa using hn)
    rw [dealF_snoc]
    unfold stepD
    intro r hr s hrs
    split at hr
    · rcases List.mem_append.mp hr with w | w
      · exact h1 r w s hrs
      · rw [List.mem_singleton.mp w] at hrs
        cases hrs
    · rcases List.mem_append.mp hr with w | w
      · exact h1 r w s hrs
      · rw [List.mem_singleton.mp w] at hrs
        exact hs s (List.mem_of_getElem? hrs)
theorem ckAl_duD {n : Nat} {rows : List (Int × Option Str)} (h : NamesOk rows) : CkAl (n + 1) (rows.map duD) := fun d hd => by
  obtain ⟨⟨v, o⟩, hr, rfl⟩ := List.mem_map.mp hd
  refine ck_tup.mpr fun d hd => ?_
  rcases List.mem_cons.mp hd with rfl | hd
  · exact ck_int
  · rw [List.mem_singleton.mp hd]
    cases o with
    | none => exact ck_non
    | some s => exact ck_str (h _ hr s rfl)
theorem deqA_self {ds : List D} (h : CkAl 63 ds) : deqA ds ds = true := by
  exact deq_lst.symm.trans (deq_refl (cmpOk_lstA.mpr h))
/-- the best of the windows before (k, n) -/
structure WB (s : Str) (rows : List (Int × Option Str)) (k n : Nat) (b : Int) : Prop where
  nn : 0 ≤ b
  is : b = 0 ∨ ∃ k n : Nat, k < n ∧ WinOk s rows k n ∧ (n : Int) - k = b
  top : ∀ k' n' : Nat, k' < n' → WinOk s rows k' n' → (k' < k ∨ (k' = k ∧ n' < n)) → (n' : Int) - k' ≤ b
theorem WB0 {s : Str} {rows : List (Int × Option Str)} : WB s rows 0 0 0 := ⟨Int.le_refl _, .inl rfl, fun k' n' h1 h2 h3 => by omega⟩
theorem WB.up {s : Str} {rows : List (Int × Option Str)} {k n : Nat} {b : Int} (h : WB s rows k 0 b) (hn : n ≤ k + 1) : WB s rows k n b := ⟨h.nn, h.is, fun k' n' h1 h2 h3 => h.top k' n' h1 h2 (by omega)⟩
theorem WB.nextRow {s : Str} {rows : List (Int × Option Str)} {k n : Nat} {b : Int} (h : WB s rows k n b) (hn : rows.length < n) : WB s rows (k + 1) 0 b := ⟨h.nn, h.is, fun k' n' h1 h2 h3 => h.top k' n' h1 h2 (by have := h2.1; omega)⟩
theorem WB.yes {s : Str} {rows : List (Int × Option Str)} {k n : Nat} {b : Int} (h : WB s rows k n b) (hk : k < n) (hw : WinOk s rows k n) : WB s rows k (n + 1) (max b ((n : Int) - k)) := by
  have := h.nn
  refine ⟨by omega, ?_, fun k' n' h1 h2 h3 => ?_⟩
  · rcases Int.le_total b ((n : Int) - k) with u | u
    · rw [Int.max_eq_right u]; exact .inr ⟨k, n, hk, hw, rfl⟩
    · rw [Int.max_eq_left u]; exact h.is
  · rcases Nat.lt_or_ge n' n with w | w
    · have := h.top k' n' h1 h2 (by omega); omega
    · by_cases c : k' < k
      · have := h.top k' n' h1 h2 (.inl c); omega
      · omega
theorem WB.no {s : Str} {rows : List (Int × Option Str)} {k n : Nat} {b : Int} (h : WB s rows k n b) (hw : ¬ WinOk s rows k n) : WB s rows k (n + 1) b :=
  ⟨h.nn, h.is, fun k' n' h1 h2 h3 => h.top k' n' h1 h2 (by
    by_cases c : k' = k ∧ n' = n
    · rw [c.1, c.2] at h2; exact absurd h2 hw
    · omega)⟩
theorem WB.run {s : Str} {rows : List (Int × Option Str)} {b : Int} (h : WB s rows rows.length 0 b) : IsRunB s rows b := ⟨h.nn, h.is, fun k n h1 h2 => h.top k n h1 h2 (by have := h2.1; omega)⟩
theorem cutL_kn {α : Type} {xs : List α} {k n : Nat} (h1 : k ≤ n) (h2 : n ≤ xs.length) : cutL xs (some (k : Int)) (some (n : Int)) = (xs.drop k).take (n - k) := by
  unfold cutL
  rw [HT.sIx_nat, HT.sIx_nat, Nat.min_eq_left (by omega), Nat.min_eq_left (by omega)]
def othD (s : Str) : D → Option D
  | .tup [_, x] => some (.bl (deq x (.str s)))
  | _ => none
theorem othD_map {s : Str} : ∀ rows : List (Int × Option Str), (rows.map duD).filterMap (othD s) = (rows.map fun r => decide (r.2 = some s)).map D.bl
  | [] => rfl
  | (d, none) :: rows => by
    rw [List.map_cons, List.filterMap_cons, othD_map rows]
    rfl
  | (d, some t) :: rows => by
    rw [List.map_cons, List.filterMap_cons, othD_map rows]
    have e : othD s (duD (d, some t)) = some (.bl (deq (.str t) (.str s))) := rfl
    rw [e, deq_str, List.map_cons, List.map_cons]
    simp
theorem winOk_iff {s : Str} {rows : List (Int × Option Str)} {k n : Nat} (h1 : k ≤ n) (h2 : n ≤ rows.length) : WinOk s rows k n ↔ false ∉ ((rows.drop k).take (n - k)).map fun r => decide (r.2 = some s) := by
  unfold WinOk
  constructor
  · rintro ⟨_, h⟩ hm
    obtain ⟨r, hr, e⟩ := List.mem_map.mp hm
    obtain ⟨j, hj⟩ := List.getElem?_of_mem hr
    rw [List.getElem?_take] at hj
    split at hj
    · rw [List.getElem?_drop] at hj
      have := h (k + j) (by omega) (by omega) r hj
      simp [this] at e
    · cases hj
  · intro h
    refine ⟨h2, fun j hj hn r hr => ?_⟩
    by_cases c : r.2 = some s
    · exact c
    · exact absurd (List.mem_map.mpr ⟨r, List.mem_of_getElem? (i := j - k) (by rw [List.getElem?_take, if_pos (by omega), List.getElem?_drop, show k + (j - k) = j by omega]; exact hr), by simp [c]⟩) h

def p_loads_of : PSp := fun ds M Q _ => match ds with
  | [.lst rr, .lst nn] => ∃ (rows : List (Int × Option Str)) (ss : List Str), rr = rows.map duD ∧ nn = ss.map D.str ∧ (rows.length < 1000000 ∧ ss.length < 1000000 ∧ NamesOk rows ∧ ∀ s ∈ ss, PyData.strOk s = true) ∧ Q (.ow (.lst ((ss.map (numR rows)).map D.int))) M
  | _ => False


def p_unmanned : PSp := fun ds M Q _ => match ds with
  | [.lst rr] => ∃ rows : List (Int × Option Str), rr = rows.map duD ∧ rows.length < 1000000 ∧ Q (.ow (.lst (((rows.filter fun r => r.2 = none).map (·.1)).map D.int))) M
  | _ => False


def p_runs_of : PSp := fun ds M Q _ => match ds with
  | [.lst rr, .str s] => ∃ rows : List (Int × Option Str), rr = rows.map duD ∧ (rows.length < 1000000 ∧ NamesOk rows ∧ PyData.strOk s = true) ∧ Q (.va (.int (runF s rows).1)) M
  | _ => False

theorem em0 {a n : Int} (h : 1 ≤ n) : 0 ≤ a % n := Int.emod_nonneg _ (by omega)
theorem em1 {a n : Int} (h : 1 ≤ n) : a % n < n := Int.emod_lt_of_pos _ (by omega)
theorem ed0 {a n : Int} (h : 1 ≤ n) (ha : 0 ≤ a) : 0 ≤ a / n := Int.ediv_nonneg ha (by omega)

def p__law_mod : PSp := fun ds M Q _ => match ds with
  | [.int a, .int n] => (0 < n ∧ n < 18446744073709551616) ∧ Q (.va (.int (a % n))) M
  | _ => False


def p_shrunk : PSp := fun ds M Q _ => match ds with
  | [.int P, .tup xs] => ∃ ns : List Int, xs = ns.map D.int ∧ KdOk (P, ns) ∧ ∀ (P' : Int) (ns' : List Int), Res P' ns' → P' ≤ P → (∀ x, x % P' ∈ ns' ↔ x % P ∈ ns) → ns'.length ≤ ns.length → Mini P' ns' → Q (.va (.tup [.int P', .tup (ns'.map D.int)])) M
  | _ => False


def p_has : PSp := fun ds M Q _ => match ds with
  | [.int p, .tup xs, .int d] => ∃ ns : List Int, xs = ns.map D.int ∧ Asc ns ∧ 0 < p ∧ Q (.va (.bl (decide (d % p ∈ ns)))) M
  | _ => False


def p_first_from : PSp := fun ds M Q _ => match ds with
  | [.int p, .tup xs, .int d] => ∃ ns : List Int, xs = ns.map D.int ∧ Asc ns ∧ (0 < p ∧ 0 < ns.length) ∧ Q (.va (.int (nextR p ns d))) M
  | _ => False


def p_spread_of : PSp := fun ds M Q _ => match ds with
  | [.lst rr, .lst nn] => ∃ (rows : List (Int × Option Str)) (ss : List Str), rr = rows.map duD ∧ nn = ss.map D.str ∧ (rows.length < 1000000 ∧ ss.length < 1000000 ∧ NamesOk rows ∧ ∀ s ∈ ss, PyData.strOk s = true) ∧ ss ≠ [] ∧ ∀ mx mn, mx ∈ ss.map (numR rows) → (∀ y ∈ ss.map (numR rows), y ≤ mx) → mn ∈ ss.map (numR rows) → (∀ y ∈ ss.map (numR rows), mn ≤ y) → Q (.va (.int (mx - mn))) M
  | _ => False

def p__law_subset : PSp := fun ds M Q _ => match ds with
  | [.ref T, .int size, .int most] => ((T, MO.tape) ∈ M ∧ 1 ≤ size ∧ size < 1000000000000 ∧ 0 ≤ most ∧ most < 1000000) ∧ ∀ ns : List Int, Asc ns → (∀ r ∈ ns, 0 ≤ r ∧ r < size) → (ns.length : Int) ≤ most → Q (.va (.tup (ns.map D.int))) M
  | _ => False


def p__law_in : PSp := fun ds M Q _ => match ds with
  | [.lst xs, .int d] => ∃ ps : List Pc, xs = ps.map pcD ∧ (∀ p ∈ ps, 0 < p.2.1 ∧ p.2.1 < 1000000000000) ∧ Q (.va (.bl (patB ps d))) M
  | _ => False


def p_tidied : PSp := fun ds M Q _ => match ds with
  | [.lst xs] => ∃ ps : List Pc, xs = ps.map pcD ∧ (PatOk ps ∧ ps.length < 100000) ∧ ∀ fs, Tidy fs → (∀ d, patB fs d = patB ps d) → fs.length ≤ ps.length → TdSub ps fs → Q (.va (.tup (fs.map pcD))) M
  | _ => False


def p_belongs : PSp := fun ds M Q _ => match ds with
  | [.tup xs, .int d] => ∃ ps : List Pc, xs = ps.map pcD ∧ PatOk ps ∧ Q (.va (.bl (patB ps d))) M
  | _ => False

theorem rgI_split {a b c : Int} (h1 : a ≤ b) (h2 : b ≤ c) : rgI a c = rgI a b ++ rgI b c := by
  refine asc_ext asc_rgI ?_ fun k => ?_
  · refine List.pairwise_append.mpr ⟨asc_rgI, asc_rgI, fun x hx y hy => ?_⟩
    have := rgI_mem.mp hx
    have := rgI_mem.mp hy
    omega
  · rw [List.mem_append, rgI_mem, rgI_mem, rgI_mem]
    omega
/-- how many numbers from a on, below b -/
def cntF (f : Int → Bool) (a b : Int) : Int := (((rgI a b).filter f).length : Nat)
theorem cntF_nil {f : Int → Bool} {a b : Int} (h : b ≤ a) : cntF f a b = 0 := by unfold cntF; rw [rgI_nil h]; rfl
theorem cntF_split {f : Int → Bool} {a b c : Int} (h1 : a ≤ b) (h2 : b ≤ c) : cntF f a c = cntF f a b + cntF f b c := by
  unfold cntF
  rw [rgI_split h1 h2, List.filter_append, List.length_append]
  omega
theorem cntF_congr {f g : Int → Bool} {a b : Int} (h : ∀ x, a ≤ x → x < b → f x = g x) : cntF f a b = cntF g a b := by
  unfold cntF
  rw [List.filter_congr fun x hx => h x (rgI_mem.mp hx).1 (rgI_mem.mp hx).2]
theorem cntF_nn {f : Int → Bool} {a b : Int} : 0 ≤ cntF f a b := Int.natCast_nonneg _
theorem cntF_one {f : Int → Bool} {a : Int} : cntF f a (a + 1) = if f a = true then 1 else 0 := by
  unfold cntF
  rw [rgI_cons (by omega), rgI_nil (by omega), List.filter_cons]
  split <;> simp
theorem cntF_step {f : Int → Bool} {a b : Int} (h : a ≤ b) : cntF f a (b + 1) = cntF f a b + if f b = true then 1 else 0 := by
  rw [cntF_split h (by omega : b ≤ b + 1), cntF_one]
theorem cntF_zero {f : Int → Bool} {a b : Int} (h : ∀ x, a ≤ x → x < b → f x = false) : cntF f a b = 0 := by
  unfold cntF
  rw [List.filter_eq_nil_iff.mpr fun x hx => by rw [h x (rgI_mem.mp hx).1 (rgI_mem.mp hx).2]; simp]
  rfl
theorem cntF_le {f : Int → Bool} {a b c : Int} (h : b ≤ c) : cntF f a b ≤ cntF f a c := by
  by_cases c1 : a ≤ b
  · rw [cntF_split c1 h]
    have := cntF_nn (f := f) (a := b) (b := c)
    omega
  · rw [cntF_nil (by omega)]
    exact cntF_nn
/-- a day counts -/
theorem cntF_lt {f : Int → Bool} {a b d : Int} (h0 : a ≤ d) (h : f d = true) (h1 : d < b) : cntF f a d + 1 ≤ cntF f a b := by
  have := cntF_le (f := f) (a := a) (show d + 1 ≤ b by omega)
  rw [cntF_step h0, if_pos h] at this
  exact this
theorem cntF_inj {f : Int → Bool} {a d e : Int} (h0 : a ≤ d) (h1 : a ≤ e) (hd : f d = true) (he : f e = true) (h : cntF f a d = cntF f a e) : d = e := by
  rcases Int.lt_trichotomy d e with c | c | c
  · have := cntF_lt h0 hd c; omega
  · exact c
  · have := cntF_lt h1 he c; omega
/-- what many_below tells -/
def mbL (P : Int) (ns : List Int) (d : Int) : Int := d / P * ns.length + cntL ns (d % P)
abbrev inP (P : Int) (ns : List Int) : Int → Bool := fun x => decide (x % P ∈ ns)
theorem cntL_step {ns : List Int} (h : Asc ns) {r : Int} : cntL ns (r + 1) = cntL ns r + if r ∈ ns then 1 else 0 := by
  unfold cntL
  induction ns with
  | nil => simp
  | cons n ns ih =>
    have h1 := (List.pairwise_cons.mp h).1
    have ih := ih (List.pairwise_cons.mp h).2
    rw [List.filter_cons, List.filter_cons]
    by_cases c1 : n < r
    · rw [if_pos (by simpa using (show n < r + 1 by omega)), if_pos (by simpa using c1), List.length_cons, List.length_cons]
      have e : (r ∈ n :: ns) ↔ r ∈ ns := by simp; omega
      simp only [e]
      omega
    · by_cases c2 : n = r
      · subst c2
        rw [if_pos (by simp; omega), if_neg (by simp), if_pos List.mem_cons_self, List.length_cons]
        have hn : n ∉ ns := fun w => by have := h1 n w; omega
        rw [if_neg hn] at ih
        omega
      · rw [if_neg (by simpa using (show r + 1 ≤ n by omega)), if_neg (by simpa using c1)]
        have e : (r ∈ n :: ns) ↔ r ∈ ns := by simp; omega
        simp only [e]
        exact ih
theorem cntL_zero {ns : List Int} {r : Int} (h : ∀ n ∈ ns, r ≤ n) : cntL ns r = 0 := by
  unfold cntL
  rw [List.filter_eq_nil_iff.mpr fun n hn => by have := h n hn; simp; omega]
  rfl
theorem cntL_all {ns : List Int} {r : Int} (h : ∀ n ∈ ns, n < r) : cntL ns r = ns.length := by
  unfold cntL
  rw [List.filter_eq_self.mpr fun n hn => by simpa using h n hn]
theorem mbL_step {P : Int} {ns : List Int} (h : Res P ns) {d : Int} : mbL P ns (d + 1) = mbL P ns d + if d % P ∈ ns then 1 else 0 := by
  have hP := h.1
  have e0 := Int.emod_nonneg d (show P ≠ 0 by omega)
  have e1 := Int.emod_lt_of_pos d hP
  have ed := Int.mul_ediv_add_emod d P
  unfold mbL
  by_cases c : d % P + 1 < P
  · have h1 : (d + 1) % P = d % P + 1 := by
      have : (d + 1) = (d % P + 1) + P * (d / P) := by omega
      rw [this, Int.add_mul_emod_self_left, Int.emod_eq_of_lt (by omega) c]
    have h2 : (d + 1) / P = d / P := by
      have : (d + 1) = (d % P + 1) + P * (d / P) := by omega
      rw [this, Int.add_mul_ediv_left _ _ (by omega), Int.ediv_eq_zero_of_lt (by omega) c, Int.zero_add]
    rw [h1, h2, cntL_step h.2.1]
    omega
  · have h1 : (d + 1) % P = 0 := by
      have : (d + 1) = 0 + P * (d / P + 1) := by rw [Int.mul_add]; omega
      rw [this, Int.add_mul_emod_self_left]; rfl
    have h2 : (d + 1) / P = d / P + 1 := by
      have : (d + 1) = 0 + P * (d / P + 1) := by rw [Int.mul_add]; omega
      rw [this, Int.add_mul_ediv_left _ _ (by omega), Int.zero_ediv, Int.zero_add]
    have h3 : cntL ns (d % P + 1) = ns.length := cntL_all fun n hn => by have := h.2.2 n hn; omega
    rw [cntL_step h.2.1] at h3
    rw [h1, h2, cntL_zero fun n hn => (h.2.2 n hn).1, Int.add_mul]
    omega
theorem mbL_cnt {P : Int} {ns : List Int} (h : Res P ns) {a : Int} : ∀ {b : Int}, a ≤ b → mbL P ns b - mbL P ns a = cntF (inP P ns) a b := by
  intro b hb
  obtain ⟨k, rfl⟩ : ∃ k : Nat, b = a + k := ⟨(b - a).toNat, by omega⟩
  clear hb
  induction k with
  | zero => rw [cntF_nil (by omega)]; simp
  | succ k ih =>
    rw [show a + ((k + 1 : Nat) : Int) = a + k + 1 by omega, cntF_step (by omega), mbL_step h]
    have : (inP P ns (a + k) = true) ↔ (a + k) % P ∈ ns := by simp
    simp only [this]
    omega
/-- the residue at a place -/
theorem nth_res {P : Int} {ns : List Int} (h : Res P ns) (hl : 0 < ns.length) (k : Int) : ∃ r, ns[(k % ns.length).toNat]? = some r ∧ (k / ns.length * P + r) % P ∈ ns ∧ mbL P ns (k / ns.length * P + r) = k := by
  have hP := h.1
  have e0 := Int.emod_nonneg k (show (ns.length : Int) ≠ 0 by omega)
  have e1 := Int.emod_lt_of_pos k (show (0 : Int) < ns.length by omega)
  have ed := Int.mul_ediv_add_emod k ns.length
  have hi : (k % ns.length).toNat < ns.length := by omega
  refine ⟨ns[(k % ns.length).toNat], List.getElem?_eq_getElem hi, ?_⟩
  have hm := List.getElem_mem hi
  generalize hr : ns[(k % ns.length).toNat] = r at *
  have hr2 := h.2.2 r hm
  have h1 : (k / ns.length * P + r) % P = r := by rw [Int.add_comm, Int.add_mul_emod_self_right, Int.emod_eq_of_lt hr2.1 hr2.2]
  have h2 : (k / ns.length * P + r) / P = k / ns.length := by rw [Int.add_comm, Int.add_mul_ediv_right _ _ (by omega), Int.ediv_eq_zero_of_lt hr2.1 hr2.2]; omega
  rw [h1]
  refine ⟨hm, ?_⟩
  unfold mbL
  rw [h1, h2]
  have h3 : cntL ns r = ((k % ns.length).toNat : Int) := cntL_at h.2.1 (by omega) (fun i v hi2 hv => Asc.get h.2.1 hi2 hv (by rw [← hr]; exact List.getElem?_eq_getElem hi)) (fun i v hi2 hv => by
    rcases Nat.eq_or_lt_of_le hi2 with e | e
    · subst e
      rw [List.getElem?_eq_getElem hi, hr] at hv
      cases hv
      exact Int.le_refl _
    · have := Asc.get h.2.1 e (show ns[(k % ns.length).toNat]? = some r by rw [← hr]; exact List.getElem?_eq_getElem hi) hv
      omega)
  rw [h3]
  rw [Int.mul_comm] at ed
  omega
/-- the first one from a day on -/
def IsNext (f : Int → Bool) (day : Int) (r : Option Int) : Prop := match r with
  | some d => day ≤ d ∧ f d = true ∧ ∀ x, day ≤ x → x < d → f x = false
  | none => ∀ x, day ≤ x → f x = false
/-- the last one before a day -/
def IsPrev (f : Int → Bool) (day : Int) (r : Option Int) : Prop := match r with
  | some d => d < day ∧ f d = true ∧ ∀ x, d < x → x < day → f x = false
  | none => ∀ x, x < day → f x = false
/-- the one with so many before -/
def IsNth (f : Int → Bool) (k : Int) (r : Option Int) : Prop := match r with
  | some d => 0 ≤ d ∧ f d = true ∧ cntF f 0 d = k
  | none => ∀ d, cntF f 0 d ≤ k
def optD : Option Int → D
  | some d => .int d
  | none => .non
theorem IsNext.uniq {f : Int → Bool} {day : Int} : ∀ {r r' : Option Int}, IsNext f day r → IsNext f day r' → r = r'
  | none, none, _, _ => rfl
  | some d, none, h, k => by have := k d h.1; rw [h.2.1] at this; cases this
  | none, some d, h, k => by have := h d k.1; rw [k.2.1] at this; cases this
  | some d, some e, h, k => by
    rcases Int.lt_trichotomy d e with c | c | c
    · have := k.2.2 d h.1 c; rw [h.2.1] at this; cases this
    · rw [c]
    · have := h.2.2 e k.1 c; rw [k.2.1] at this; cases this
theorem IsPrev.uniq {f : Int → Bool} {day : Int} : ∀ {r r' : Option Int}, IsPrev f day r → IsPrev f day r' → r = r'
  | none, none, _, _ => rfl
  | some d, none, h, k => by have := k d h.1; rw [h.2.1] at this; cases this
  | none, some d, h, k => by have := h d k.1; rw [k.2.1] at this; cases this
  | some d, some e, h, k => by
    rcases Int.lt_trichotomy d e with c | c | c
    · have := h.2.2 e c k.1; rw [k.2.1] at this; cases this
    · rw [c]
    · have := k.2.2 d c h.1; rw [h.2.1] at this; cases this
theorem IsNth.uniq {f : Int → Bool} {k : Int} : ∀ {r r' : Option Int}, IsNth f k r → IsNth f k r' → r = r'
  | none, none, _, _ => rfl
  | some d, none, h, k => by have := k (d + 1); rw [cntF_step h.1, if_pos h.2.1, h.2.2] at this; omega
  | none, some d, h, k => by have := h (d + 1); rw [cntF_step k.1, if_pos k.2.1, k.2.2] at this; omega
  | some d, some e, h, k => by rw [cntF_inj h.1 k.1 h.2.1 k.2.1 (h.2.2.trans k.2.2.symm)]
/-! a pattern's windows -/
theorem PatOk.nn {ps : List Pc} (h : PatOk ps) : ∀ p ∈ ps, 0 ≤ p.1 := by
  obtain ⟨k, r, rfl⟩ := h.hd
  intro p hp
  rcases List.mem_cons.mp hp with rfl | w
  · exact Int.le_refl _
  · have : (0 : Int) < p.1 := (List.pairwise_cons.mp h.asc).1 p w
    omega
theorem PatOk.next {ps : List Pc} (h : PatOk ps) {i : Nat} {p q : Pc} (hp : ps[i]? = some p) (hq : ps[i + 1]? = some q) : p.1 < q.1 := by
  obtain ⟨h1, rfl⟩ := List.getElem?_eq_some_iff.mp hp
  obtain ⟨h2, rfl⟩ := List.getElem?_eq_some_iff.mp hq
  exact List.pairwise_iff_getElem.mp h.asc i (i + 1) h1 h2 (by omega)
theorem PatOk.win {ps : List Pc} (h : PatOk ps) {i : Nat} {s P : Int} {ns : List Int} (hp : ps[i]? = some (s, P, ns)) {d : Int} (h1 : s ≤ d) (h2 : ∀ q, ps[i + 1]? = some q → d < q.1) : patB ps d = inP P ns d := patB_at h.asc hp h1 h2
theorem PatOk.pos0 {ps : List Pc} (h : PatOk ps) : 0 < ps.length := by obtain ⟨k, r, rfl⟩ := h.hd; simp
/-- where the i-th piece begins, at most day -/
def stD (ps : List Pc) (i : Nat) (day : Int) : Int := match ps[i]? with
  | some p => min p.1 day
  | none => day
theorem win_cnt {f : Int → Bool} {P : Int} {ns : List Int} {s u : Int} (h : Res P ns) (hs : s ≤ u) (hw : ∀ x, s ≤ x → x < u → f x = inP P ns x) :
    (u / P * ns.length + cntL ns (u % P)) - (s / P * ns.length + cntL ns (s % P)) = cntF f s u := by
  rw [cntF_congr hw]
  exact mbL_cnt h hs
theorem filt_ext {f : Int → Bool} {a b c : Int} (h : ∀ x, a ≤ x → f x = true → (x < b ↔ x < c)) : (rgI a b).filter f = (rgI a c).filter f := by
  refine asc_ext (asc_rgI.filter _) (asc_rgI.filter _) fun k => ?_
  rw [List.mem_filter, List.mem_filter, rgI_mem, rgI_mem]
  constructor
  · exact fun w => ⟨⟨w.1.1, (h k w.1.1 w.2).mp w.1.2⟩, w.2⟩
  · exact fun w => ⟨⟨w.1.1, (h k w.1.1 w.2).mpr w.1.2⟩, w.2⟩
theorem filt_snoc {f : Int → Bool} {a b : Int} (h : a ≤ b) (hf : f b = true) : (rgI a b).filter f ++ [b] = (rgI a (b + 1)).filter f := by
  rw [rgI_split h (by omega : b ≤ b + 1), List.filter_append, rgI_cons (by omega : b < b + 1), rgI_nil (by omega : b + 1 ≤ b + 1), List.filter_cons, if_pos hf]
  rfl
theorem filt_len {f : Int → Bool} {a b : Int} : ((((rgI a b).filter f).length : Nat) : Int) = cntF f a b := rfl
/-- cut at a day -/
theorem filt_lt {f : Int → Bool} {a b c : Int} (h : c ≤ b) : ((rgI a b).filter f).filter (fun n => decide (n < c)) = (rgI a c).filter f := by
  refine asc_ext ((asc_rgI.filter _).filter _) (asc_rgI.filter _) fun k => ?_
  simp only [List.mem_filter, rgI_mem, decide_eq_true_iff]
  constructor
  · exact fun w => ⟨⟨w.1.1.1, w.2⟩, w.1.2⟩
  · exact fun w => ⟨⟨⟨w.1.1, by omega⟩, w.2⟩, w.1.2⟩
theorem filt_ge {f : Int → Bool} {a b c : Int} (h : ∀ x, x < a → f x = false) : ((rgI a b).filter f).filter (fun n => decide (c ≤ n)) = (rgI c b).filter f := by
  refine asc_ext ((asc_rgI.filter _).filter _) (asc_rgI.filter _) fun k => ?_
  simp only [List.mem_filter, rgI_mem, decide_eq_true_iff]
  constructor
  · exact fun w => ⟨⟨w.2, w.1.1.2⟩, w.1.2⟩
  · intro w
    have : a ≤ k := by
      by_cases c1 : a ≤ k
      · exact c1
      · have := h k (by omega)
        rw [this] at w
        cases w.2
    exact ⟨⟨⟨this, w.1.2⟩, w.2⟩, w.1.1⟩
/-- the last of the days before -/
theorem prev_of_list {f : Int → Bool} {c : Int} (hn : ∀ x, x < 0 → f x = false) : IsPrev f c ((rgI 0 c).filter f).getLast? := by
  cases hL : ((rgI 0 c).filter f).getLast? with
  | none =>
    intro x hx
    have e := List.getLast?_eq_none_iff.mp hL
    by_cases c1 : 0 ≤ x
    · cases hf : f x with
      | false => rfl
      | true =>
        have : x ∈ (rgI 0 c).filter f := List.mem_filter.mpr ⟨rgI_mem.mpr ⟨c1, hx⟩, hf⟩
        rw [e] at this
        cases this
    · exact hn x (by omega)
  | some d =>
    have hm := List.mem_of_getLast? hL
    obtain ⟨h1, h2⟩ := List.mem_filter.mp hm
    obtain ⟨h3, h4⟩ := rgI_mem.mp h1
    refine ⟨h4, h2, fun x h5 h6 => ?_⟩
    cases hf : f x with
    | false => rfl
    | true =>
      exfalso
      have hx : x ∈ (rgI 0 c).filter f := List.mem_filter.mpr ⟨rgI_mem.mpr ⟨by omega, h6⟩, hf⟩
      obtain ⟨i, hi, e⟩ := List.mem_iff_getElem.mp hx
      have hA : Asc ((rgI 0 c).filter f) := asc_rgI.filter _
      rw [List.getLast?_eq_getElem?] at hL
      obtain ⟨hl, e2⟩ := List.getElem?_eq_some_iff.mp hL
      rcases Nat.eq_or_lt_of_le (show i ≤ ((rgI 0 c).filter f).length - 1 by omega) with w | w
      · subst w
        rw [e2] at e
        omega
      · have := List.pairwise_iff_getElem.mp hA i _ hi hl w
        omega
/-- the first of the days from one on -/
theorem next_of_list {f : Int → Bool} {c b : Int} {d : Int} (h : ((rgI c b).filter f).head? = some d) : IsNext f c (some d) := by
  cases hL : (rgI c b).filter f with
  | nil => rw [hL] at h; cases h
  | cons e l =>
    rw [hL] at h
    cases h
    have hm : d ∈ (rgI c b).filter f := by rw [hL]; exact List.mem_cons_self
    obtain ⟨h1, h2⟩ := List.mem_filter.mp hm
    obtain ⟨h3, h4⟩ := rgI_mem.mp h1
    refine ⟨h3, h2, fun x h5 h6 => ?_⟩
    cases hf : f x with
    | false => rfl
    | true =>
      exfalso
      have hx : x ∈ (rgI c b).filter f := List.mem_filter.mpr ⟨rgI_mem.mpr ⟨by omega, by omega⟩, hf⟩
      have hA : Asc ((rgI c b).filter f) := asc_rgI.filter _
      rw [hL] at hx hA
      rcases List.mem_cons.mp hx with e | w
      · omega
      · have := (List.pairwise_cons.mp hA).1 x w
        omega
/-- the one at a place -/
theorem nth_of_list {f : Int → Bool} {b : Int} {i : Nat} {d : Int} (h : ((rgI 0 b).filter f)[i]? = some d) : IsNth f i (some d) := by
  have hm := List.mem_of_getElem? h
  obtain ⟨h1, h2⟩ := List.mem_filter.mp hm
  obtain ⟨h3, h4⟩ := rgI_mem.mp h1
  refine ⟨h3, h2, ?_⟩
  have hA : Asc ((rgI 0 b).filter f) := asc_rgI.filter _
  have e : (rgI 0 d).filter f = ((rgI 0 b).filter f).take i := by
    refine asc_ext (asc_rgI.filter _) (hA.sublist (List.take_sublist _ _)) fun k => ?_
    rw [List.mem_filter, rgI_mem]
    constructor
    · intro w
      have hk : k ∈ (rgI 0 b).filter f := List.mem_filter.mpr ⟨rgI_mem.mpr ⟨w.1.1, by omega⟩, w.2⟩
      obtain ⟨j, hj, e⟩ := List.mem_iff_getElem.mp hk
      have : j < i := by
        rcases Nat.lt_or_ge j i with c | c
        · exact c
        · exfalso
          rcases Nat.eq_or_lt_of_le c with c | c
          · subst c
            rw [List.getElem?_eq_getElem hj, e] at h
            cases h
            omega
          · have := Asc.get hA c h (List.getElem?_eq_getElem hj)
            omega
      rw [← e]
      exact List.mem_take_iff_getElem.mpr ⟨j, by omega, rfl⟩
    · intro w
      obtain ⟨j, hj, e⟩ := List.mem_take_iff_getElem.mp w
      have hj2 : j < ((rgI 0 b).filter f).length := by omega
      have hk : k ∈ (rgI 0 b).filter f := e ▸ List.getElem_mem hj2
      have := Asc.get hA (show j < i by omega) (List.getElem?_eq_getElem hj2) h
      obtain ⟨k1, k2⟩ := List.mem_filter.mp hk
      obtain ⟨k3, k4⟩ := rgI_mem.mp k1
      exact ⟨⟨k3, by omega⟩, k2⟩
  unfold cntF
  rw [e, List.length_take]
  have := (List.getElem?_eq_some_iff.mp h).1
  omega
/-- a pattern has no last day: its last piece has residues -/
theorem fin_iff {qs : List Pc} {s P : Int} {ns : List Int} (h : PatOk (qs ++ [(s, P, ns)])) : ns = [] ↔ ∃ B, ∀ d, B ≤ d → patB (qs ++ [(s, P, ns)]) d = false := by
  have hk : KdOk (P, ns) := h.ok (s, P, ns) (by simp)
  have hr : Res P ns := hk.1
  have hP := hr.1
  have e : ∀ d, s ≤ d → patB (qs ++ [(s, P, ns)]) d = inP P ns d := fun d hd => by
    rw [patB_snoc]
    show (if s ≤ d then inPc (s, P, ns) d else _) = _
    rw [if_pos hd]
    rfl
  constructor
  · rintro rfl
    exact ⟨s, fun d hd => by rw [e d hd]; simp⟩
  · rintro ⟨B, hB⟩
    cases ns with
    | nil => rfl
    | cons r ns =>
      exfalso
      obtain ⟨n1, n2, n3, n4⟩ := nextR_spec hr (by simp : 0 < (r :: ns).length) (max s B)
      have h1 := hB (nextR P (r :: ns) (max s B)) (by omega)
      rw [e _ (by omega)] at h1
      exact absurd n2 (by simpa using h1)
/-- there are no days from some day on -/
def FinP (f : Int → Bool) : Prop := ∃ B, ∀ d, B ≤ d → f d = false
theorem pat_last {ps : List Pc} (h : PatOk ps) : ∃ qs s P ns, ps = qs ++ [(s, P, ns)] := by
  rcases List.eq_nil_or_concat ps with rfl | ⟨qs, l, e⟩
  · have := h.pos0; simp at this
  · obtain ⟨s, P, ns⟩ := l
    exact ⟨qs, s, P, ns, by rw [e, List.concat_eq_append]⟩
theorem at_lastpc {qs : List Pc} {p : Pc} : atI ((qs ++ [p]).map pcD) (((qs ++ [p]).length : Int) - 1) = some (pcD p) := by
  refine at_map (by rw [List.length_append, List.length_singleton]; omega) ?_
  rw [List.length_append, List.length_singleton, show (((qs.length + 1 : Nat) : Int) - 1).toNat = qs.length by omega]
  simp
theorem dec_true (f : Int → Bool) : (fun n => decide (f n = true)) = f := funext fun n => by simp
theorem cmpOk_optD {r : Option Int} : cmpOk (optD r) = true := by cases r <;> rfl
theorem deq_optD {r r' : Option Int} : deq (optD r) (optD r') = decide (r = r') := by
  cases r <;> cases r'
  · rfl
  · rfl
  · rfl
  · rw [show optD (some _) = D.int _ from rfl, show optD (some _) = D.int _ from rfl, deq_int]; simp
theorem at_getLast {ns : List Int} (h : 0 < ns.length) : ∃ v, ns.getLast? = some v ∧ atI (ns.map D.int) ((ns.length : Int) - 1) = some (.int v) := by
  obtain ⟨v, hv⟩ : ∃ v, ns[ns.length - 1]? = some v := ⟨_, List.getElem?_eq_getElem (by omega)⟩
  exact ⟨v, by rw [List.getLast?_eq_getElem?]; exact hv, at_map (by omega) (by rw [show ((ns.length : Int) - 1).toNat = ns.length - 1 by omega]; exact hv)⟩
theorem at_head {ns : List Int} (h : 0 < ns.length) : ∃ v, ns.head? = some v ∧ atI (ns.map D.int) 0 = some (.int v) := by
  cases ns with
  | nil => simp at h
  | cons v l => exact ⟨v, rfl, atI0⟩
theorem isNon_optD {r : Option Int} : PL.isNon (optD r) = decide (r = none) := by cases r <;> rfl
/-- no list of one's own stands there -/
theorem IsNext.far {f : Int → Bool} {day far : Int} {r : Option Int} (h : IsNext f day r) (hn : ((rgI day far).filter f).length = 0) : ∀ d, r = some d → far ≤ d := by
  rintro d rfl
  by_cases c : far ≤ d
  · exact c
  · have : d ∈ (rgI day far).filter f := List.mem_filter.mpr ⟨rgI_mem.mpr ⟨h.1, by omega⟩, h.2.1⟩
    rw [List.eq_nil_of_length_eq_zero hn] at this
    cases this
theorem IsNext.fin {f : Int → Bool} {day : Int} {r : Option Int} (h : IsNext f day r) : r = none → FinP f := by
  rintro rfl
  exact ⟨day, h⟩
theorem filt_mid {f : Int → Bool} {a b c d : Int} (h : ∀ x, x < a → f x = false) (hd : d ≤ b) : ((rgI a b).filter f).filter (fun n => decide (c ≤ n ∧ n < d)) = (rgI c d).filter f := by
  refine asc_ext ((asc_rgI.filter _).filter _) (asc_rgI.filter _) fun k => ?_
  simp only [List.mem_filter, rgI_mem, decide_eq_true_iff]
  constructor
  · exact fun w => ⟨w.2, w.1.2⟩
  · intro w
    have : a ≤ k := by
      by_cases c1 : a ≤ k
      · exact c1
      · have := h k (by omega)
        rw [this] at w
        cases w.2
    exact ⟨⟨⟨this, by omega⟩, w.2⟩, w.1⟩

def p_days_between : PSp := fun ds M Q _ => match ds with
  | [.tup xs, .int first, .int end_] => ∃ ps : List Pc, xs = ps.map pcD ∧ (PatOk ps ∧ ps.length < 1000000 ∧ cntF (patB ps) first end_ < 16777216) ∧ Q (.ow (.lst (((rgI first end_).filter (patB ps)).map D.int))) M
  | _ => False


def p__law_pieces : PSp := fun ds M Q _ => match ds with
  | [.ref T] => (T, MO.tape) ∈ M ∧ ∀ ps : List Pc, PiecesOf ps → Q (.va (.lst (ps.map pcD))) M
  | _ => False

def patD (ps : List Pc) : D := .tup (ps.map pcD)
def awB (as : List (List Pc)) (d : Int) (k : Nat) : Bool := patB (as.getD k []) d

def p_dealt_out : PSp := fun ds M Q E => match ds with
  | [.tup xs, .lst nn, .lst aa, .int first, .int end_] => ∃ (ss : List Str) (as : List (List Pc)), nn = ss.map D.str ∧ aa = as.map patD ∧ ss.length < 1000000 ∧ as.length < 1000000 ∧
    if ss.length = 0 ∨ ss.length ≠ as.length then E "BadSeries" [] M else
    ∃ ps : List Pc, xs = ps.map pcD ∧ (PatOk ps ∧ ps.length < 1000000 ∧ cntF (patB ps) first end_ < 1000000) ∧ (∀ a ∈ as, PatOk a) ∧ Q (.ow (.lst ((dealF ss (awB as) ((rgI first end_).filter (patB ps))).1.map duD))) M
  | _ => False


def p__law_refused : PSp := fun ds M Q _ => match ds with
  | [.lst nn, .lst []] => ∃ (ss : List Str), nn = ss.map D.str ∧ ss.length < 1000 ∧ Q (.va (.bl true)) M
  | _ => False

theorem ok_primes_of (T : TF K mg) : FnOk P w K mg base CX0 1 T.a_primes_of T.x_primes_of ["n"] (liP K p_primes_of) := by
  refine fn_P T.f_primes_of sc_primes_of (by intro ds M Q E h; unfold p_primes_of at h; split at h <;> first | rfl | exact h.elim) (fun cdv A outer s H E z hz hr => (qs_cons (qs_set (i := 1) sc_primes_of.nd rfl (by first | exact Or.inl rfl | exact Or.inr rfl) (qe_lst qa_nil))
    (qs_cons (qs_set (i := 2) sc_primes_of.nd rfl (by first | exact Or.inl rfl | exact Or.inr rfl) qe_int)
    (qs_cons (qs_while PassesOwn.never (qt_cmp ob_le (qb_of (qe_bin ob_mul (qb_var 2) (qb_var 2))) (qb_var 0) (nomark _))
    (qs_cons (qs_if (qt_cmp (ob_eq (hu64 hr)) (qb_of (qe_bin ob_mod (qb_var 0) (qb_var 2))) qb_int (nomark _))
    (qs_cons (qs_append (i := 1) rfl (by first | exact Or.inl rfl | exact Or.inr (Or.inl rfl) | exact Or.inr (Or.inr rfl)) (qe_var 2))
    (qs_end (qs_while PassesOwn.never (qt_cmp (ob_eq (hu64 hr)) (qb_of (qe_bin ob_mod (qb_var 0) (qb_var 2))) qb_int (nomark _))
    (qs_end (qs_aug (i := 0) sc_primes_of.nd rfl (by first | exact Or.inl rfl | exact Or.inr rfl) (qb_var 2) ib_div)))))
    qs_nil)
    (qs_end (qs_aug (i := 2) sc_primes_of.nd rfl (by first | exact Or.inl rfl | exact Or.inr rfl) qb_int ib_add))))
    (qs_cons (qs_if (qt_cmp ob_gt (qb_var 0) qb_int (nomark _))
    (qs_end (qs_append (i := 1) rfl (by first | exact Or.inl rfl | exact Or.inr (Or.inl rfl) | exact Or.inr (Or.inr rfl)) (qe_var 0)))
    qs_nil)
    (qs_end (qs_ret (qe_mov 1)))))))) ?_
  intro ds M Q0 h
  unfold p_primes_of at h
  split at h
  · skip
    obtain ⟨hb, h⟩ := h
    rename_i n0
    walk_at "pl"
    have hlen : ∀ {n p : Int} {ps : List Int}, PrInv n0 n p ps → 2 ≤ p → p ≤ 1000000 → ps.length < 16777216 := by
      intro n p ps hi h2 h3
      have := asc_len (a := 2) (b := p) hi.asc (fun k hk => by have := (hi.mem k).mp hk; exact ⟨this.1.1, this.2.2⟩) h2
      omega
    have hbd : ∀ {n p : Int} {ps : List Int}, PrInv n0 n p ps → n ≤ n0 := fun hi => Int.le_of_dvd (by omega) hi.dv
    refine sWhile_i (fun m ρ M1 => M1 = M ∧ ∃ n p ps, m = (1000001 - p).toNat ∧ 2 ≤ p ∧ p ≤ 1000000 ∧ PrInv n0 n p ps ∧ ρ = [.va (.int n), .ow (.lst (ps.map D.int)), .va (.int p)]) 999999 ⟨rfl, n0, 2, [], rfl, by omega, by omega, PrInv.start hb.1, rfl⟩ ?_
    rintro m J hJ ρ M1 ⟨e, n, p, ps, hm, hp, hp2, hi, rfl⟩
    subst e
    have hn := hbd hi
    have hn1 := hi.pos
    walk_at "pl"
    refine ⟨by walk_at "cs", ?_⟩
    by_cases c1 : p * p ≤ n
    · rw [if_pos c1]
      have hp3 : p < 1000000 := by
        rcases Int.lt_or_le p 1000000 with w | w
        · exact w
        · have := Int.mul_le_mul w w (by omega) (by omega)
          omega
      have next : ∀ {n' : Int} {ps' : List Int}, PrInv n0 n' (p + 1) ps' → J [.va (.int n'), .ow (.lst (ps'.map D.int)), .va (.int (p + 1))] M1 := fun hi' => hJ _ _ _ (by omega) ⟨rfl, _, p + 1, _, rfl, by omega, by omega, hi', rfl⟩
      refine ⟨by walk_at "cs", ?_⟩
      by_cases c2 : n % p = 0
      · rw [if_pos c2]
        refine ⟨hlen hi hp hp2, ?_⟩
        have hmid := hi.found hp (Int.dvd_of_emod_eq_zero c2)
        refine sWhile_i (fun m ρ M2 => M2 = M1 ∧ ∃ n', m = n'.toNat ∧ PrMid n0 n' p (ps ++ [p]) ∧ ρ = [.va (.int n'), .ow (.lst ((ps ++ [p]).map D.int)), .va (.int p)]) n.toNat ⟨rfl, n, rfl, hmid, by simp⟩ ?_
        rintro m2 J2 hJ2 ρ M2 ⟨e, n', rfl, hi2, rfl⟩
        subst e
        have hn2 := hi2.pos
        walk_at "pl"
        refine ⟨by walk_at "cs", ?_⟩
        by_cases c3 : n' % p = 0
        · rw [if_pos c3]
          refine ⟨⟨by omega, by omega⟩, ?_⟩
          refine hJ2 (n' / p).toNat _ _ ?_ ⟨rfl, n' / p, rfl, hi2.div (Int.dvd_of_emod_eq_zero c3), rfl⟩
          have := Int.ediv_lt_self_of_pos_of_ne_one (x := n') (y := p) (by omega) (by omega)
          omega
        · rw [if_neg c3]
          exact next (hi2.fin fun w => c3 (Int.emod_eq_zero_of_dvd w))
      · rw [if_neg c2]
        exact next (hi.skip hp fun w => c2 (Int.emod_eq_zero_of_dvd w))
    · rw [if_neg c1]
      by_cases c4 : 1 < n
      · rw [if_pos c4]
        refine ⟨hlen hi hp hp2, ?_⟩
        rw [show ps.map D.int ++ [D.int n] = (ps ++ [n]).map D.int by simp]
        exact h _ (hi.last hp (by omega) c4)
      · rw [if_neg c4]
        have e : n = 1 := by omega
        subst e
        exact h _ (hi.one hp)
  · exact h.elim

theorem ok_place_in (T : TF K mg) : FnOk P w K mg base CX0 1 T.a_place_in T.x_place_in ["residues", "r"] (liP K p_place_in) := by
  refine fn_P T.f_place_in sc_place_in (by intro ds M Q E h; unfold p_place_in at h; split at h <;> first | rfl | exact h.elim) (fun cdv A outer s H E z hz hr => (qs_cons (qs_par (i := 2) (j := 3) rfl sc_place_in.nd rfl rfl (by decide) rfl rfl (qa_cons qe_int (qa_cons (qe_callB cb_len (by rfl) T.m_len (by decide +kernel) (qab_cons (qb_var 0) qab_nil)) qa_nil)) (by rfl))
    (qs_cons (qs_while PassesOwn.never (qt_cmp ob_lt (qb_var 2) (qb_var 3) (nomark _))
    (qs_cons (qs_set (i := 4) sc_place_in.nd rfl (by first | exact Or.inl rfl | exact Or.inr rfl) (qe_bin ob_div (qb_of (qe_bin ob_add (qb_var 2) (qb_var 3))) qb_int))
    (qs_end (qs_if (qt_cmp ob_lt (qb_of (qe_ix (qb_var 0) (qb_var 4))) (qb_var 1) (nomark _))
    (qs_end (qs_set (i := 2) sc_place_in.nd rfl (by first | exact Or.inl rfl | exact Or.inr rfl) (qe_bin ob_add (qb_var 4) qb_int)))
    (qs_end (qs_set (i := 3) sc_place_in.nd rfl (by first | exact Or.inl rfl | exact Or.inr rfl) (qe_var 4)))))))
    (qs_end (qs_ret (qe_var 2)))))) ?_
  intro ds M Q0 h
  unfold p_place_in at h
  split at h
  · skip
    obtain ⟨ns, rfl, ha, h⟩ := h
    rename_i r
    walk_at "pl"
    refine sWhile_i (fun m ρ M1 => M1 = M ∧ ∃ (lo hi : Nat) (c : Sl), ρ = [.va (.tup (ns.map D.int)), .va (.int r), .va (.int lo), .va (.int hi), c] ∧ lo ≤ hi ∧ hi ≤ ns.length ∧ m = hi - lo ∧ (∀ i v, i < lo → ns[i]? = some v → v < r) ∧ (∀ i v, hi ≤ i → ns[i]? = some v → r ≤ v)) ns.length ⟨rfl, 0, ns.length, .un, by simp, by omega, by omega, by omega, fun i v hi => by omega, fun i v hi e => by rw [List.getElem?_eq_none hi] at e; cases e⟩ ?_
    rintro m J hJ ρ M1 ⟨e, lo, hi, c, rfl, h1, h2, rfl, hlo, hhi⟩
    subst e
    walk_at "pl"
    by_cases hlt : (lo : Int) < hi
    · rw [if_pos (by simpa using hlt)]
      obtain ⟨v, hv, hv2⟩ := at_ints (ns := ns) (i := ((lo : Int) + hi) / 2) (by omega) (by omega)
      have hm : (((lo : Int) + hi) / 2).toNat = (lo + hi) / 2 := by omega
      have hm2 : ((lo : Int) + hi) / 2 = ((lo + hi) / 2 : Nat) := by omega
      simp only [hv2]
      rw [hm] at hv
      refine ⟨by walk_at "cs", ?_⟩
      by_cases hvr : v < r
      · rw [if_pos (by simpa using hvr)]
        refine hJ (hi - ((lo + hi) / 2 + 1)) _ _ (by omega) ⟨rfl, (lo + hi) / 2 + 1, hi, .va (.int ((lo + hi) / 2)), by walk_at "ex"; omega, by omega, h2, rfl, fun i w hi2 e => ?_, hhi⟩
        rcases (by omega : i < (lo + hi) / 2 ∨ i = (lo + hi) / 2) with c | c
        · have := ha.get c e hv
          omega
        · subst c
          rw [e] at hv
          cases hv
          exact hvr
      · rw [if_neg (by simpa using hvr)]
        refine hJ ((lo + hi) / 2 - lo) _ _ (by omega) ⟨rfl, lo, (lo + hi) / 2, .va (.int ((lo + hi) / 2)), by walk_at "ex"; omega, by omega, by omega, rfl, hlo, fun i w hi2 e => ?_⟩
        rcases (by omega : (lo + hi) / 2 < i ∨ i = (lo + hi) / 2) with c | c
        · have := ha.get c hv e
          omega
        · subst c
          rw [e] at hv
          cases hv
          omega
    · rw [if_neg (by simpa using hlt)]
      have e : lo = hi := by omega
      subst e
      rw [cntL_at ha h2 hlo hhi] at h
      exact h
  · exact h.elim

theorem ok_repeats (T : TF K mg) : FnOk P w K mg base CX0 1 T.a_repeats T.x_repeats ["period", "residues", "step"] (liP K p_repeats) := by
  refine fn_P T.f_repeats sc_repeats (by intro ds M Q E h; unfold p_repeats at h; split at h <;> first | rfl | exact h.elim) (fun cdv A outer s H E z hz hr => (qs_cons (qs_if (qt_cmp (ob_ne (hu64 hr)) (qb_of (qe_bin ob_mod (qb_of (qe_callB cb_len (by rfl) T.m_len (by decide +kernel) (qab_cons (qb_var 1) qab_nil))) (qb_of (qe_bin ob_div (qb_var 0) (qb_var 2))))) qb_int (nomark _))
    (qs_end (qs_ret qe_bl))
    qs_nil)
    (qs_cons (qs_set (i := 3) sc_repeats.nd rfl (by first | exact Or.inl rfl | exact Or.inr rfl) (qe_callTy (cb_set rfl) (by rfl) T.m_set (by decide +kernel) (qab_cons (qb_var 1) qab_nil)))
    (qs_end (qs_ret (qe_callB (cb_all rfl) (by rfl) T.m_all (by decide +kernel) (qab_cons (qb_of (qe_lc rfl sc_repeats.nd (own := [("r", 4)]) (qi_seq (h := (qe_var 1))) (blkOk_by (own := [("r", 4)]) (N := N_repeats) (sc := defScope s_repeats) (by decide +kernel)) (fun _ _ _ _ _ z hz => (qg_name (i := 4) sc_repeats.nd rfl (by first | exact Or.inl rfl | exact Or.inr rfl))) (fun _ _ _ _ _ => an_t0) (fun _ _ _ _ _ z hz => (qe_cmp (ob_inX (hu65 hr)) (qb_of (qe_bin ob_mod (qb_of (qe_bin ob_add (qb_var 4) (qb_var 2))) (qb_var 0))) (qb_var 3) (by with_unfolding_all rfl))))) qab_nil))))))) ?_
  intro ds M Q0 h
  unfold p_repeats at h
  split at h
  · skip
    obtain ⟨ns, rfl, ⟨hr, ht, hd, hb, hl⟩, h⟩ := h
    rename_i P t
    have hP := hr.1
    have htP : t ≤ P := Int.le_of_dvd hP hd
    have hq : 0 < P / t := Int.ediv_pos_of_pos_of_dvd hP (by omega) hd
    walk_at "pl"
    refine ⟨by walk_at "cs", by walk_at "cs", ?_⟩
    by_cases c : (ns.length : Int) % (P / t) = 0
    · rw [if_neg (by simpa using c)]
      refine ⟨ns, rfl, hl, fun n hn => ?_⟩
      refine eLc_fm (mapB fun r => decide ((r + t) % P ∈ ns)) (ns.map D.int) (fun Q h => by walk_at "pl"; exact h) rfl (by rw [List.length_map]; omega) ?_ ?_
      · intro i d acc J hd2 hl2 hJ
        obtain ⟨v, rfl, _⟩ := ints_get hd2
        walk_at "pl"
        exact ⟨by walk_at "cs", hl2, hJ⟩
      rw [mapB_map]
      walk_at "pl"
      have e : (ns.map fun r => decide ((r + t) % P ∈ ns)).all id = decide (Closed P ns t) := by
        rw [Bool.eq_iff_iff]
        rw [decide_eq_true_iff]
        simp [Closed]
      rw [e]
      exact h
    · rw [if_pos (by simpa using c)]
      rw [decide_eq_false (fun w => c (closed_len hr ht hd w))] at h
      exact h
  · exact h.elim

theorem ok_windows (T : TF K mg) : FnOk P w K mg base CX0 1 T.a_windows T.x_windows ["pattern"] (liP K p_windows) := by
  refine fn_P T.f_windows sc_windows (by intro ds M Q E h; unfold p_windows at h; split at h <;> first | rfl | exact h.elim) (fun cdv A outer s H E z hz hr => (qs_cons (qs_set (i := 1) sc_windows.nd rfl (by first | exact Or.inl rfl | exact Or.inr rfl) (qe_lst qa_nil))
    (qs_cons (qs_for PassesOwn.never rfl (qi_enumerate (by rfl) T.m_enumerate (qa_cons (qe_var 0) qa_nil)) (qg_seq (n := 2) rfl (qgs_cons (qg_name (i := 2) sc_windows.nd rfl (by first | exact Or.inl rfl | exact Or.inr rfl)) (qgs_cons (qg_seq (n := 3) rfl (qgs_cons (qg_name (i := 3) sc_windows.nd rfl (by first | exact Or.inl rfl | exact Or.inr rfl)) (qgs_cons (qg_name (i := 4) sc_windows.nd rfl (by first | exact Or.inl rfl | exact Or.inr rfl)) (qgs_cons (qg_name (i := 5) sc_windows.nd rfl (by first | exact Or.inl rfl | exact Or.inr rfl)) qgs_nil)))) qgs_nil)))
    (qs_cons (qs_set (i := 6) sc_windows.nd rfl (by first | exact Or.inl rfl | exact Or.inr rfl) qe_non)
    (qs_cons (qs_if (qt_cmp ob_lt (qb_of (qe_bin ob_add (qb_var 2) qb_int)) (qb_of (qe_callB cb_len (by rfl) T.m_len (by decide +kernel) (qab_cons (qb_var 0) qab_nil))) (nomark _))
    (qs_end (qs_set (i := 6) sc_windows.nd rfl (by first | exact Or.inl rfl | exact Or.inr rfl) (qe_ix (qb_of (qe_ix (qb_var 0) (qb_of (qe_bin ob_add (qb_var 2) qb_int)))) qb_int)))
    qs_nil)
    (qs_end (qs_append (i := 1) rfl (by first | exact Or.inl rfl | exact Or.inr (Or.inl rfl) | exact Or.inr (Or.inr rfl)) (qe_tup (qa_cons (qe_var 3) (qa_cons (qe_var 6) (qa_cons (qe_tup (qa_cons (qe_var 4) (qa_cons (qe_var 5) qa_nil))) qa_nil)))))))))
    (qs_end (qs_ret (qe_mov 1)))))) ?_
  intro ds M Q0 h
  unfold p_windows at h
  split at h
  · skip
    obtain ⟨ps, rfl, hl, h⟩ := h
    refine sSeq_i fun N1 h1 => ?_
    walk_at "pl"
    refine h1 _ _ ?_
    clear h1
    refine sSeq_i fun N1 h1 => ?_
    refine sFor_k fun N hN => ?_
    walk_at "pl"
    refine hN _ _ _ ?_
    clear hN
    refine loop_i (fun i ρ M1 => M1 = M ∧ i ≤ ps.length ∧ ∃ a b c d e : Sl, ρ = [.va (.tup (ps.map pcD)), .ow (.lst ((winD ps).take i)), a, b, c, d, e]) ⟨rfl, Nat.zero_le _, .un, .un, .un, .un, .un, by simp⟩ ?_ ?_
    · rintro J hJ i dd ρ M1 hd ⟨e, hi, a, b, c, d, e2, rfl⟩
      subst e
      obtain ⟨x, hx, rfl⟩ := enumD_get hd
      rw [List.getElem?_map] at hx
      cases hp : ps[i]? with
      | none => rw [hp] at hx; cases hx
      | some p =>
        rw [hp] at hx
        cases hx
        obtain ⟨s, P, ns⟩ := p
        have hlt := (List.getElem?_eq_some_iff.mp hp).1
        rw [show pcD (s, P, ns) = .tup [.int s, .int P, .tup (ns.map D.int)] from rfl]
        have hw : (winD ps).take (i + 1) = (winD ps).take i ++ [.tup [.int s, (match ps[i + 1]? with | some q => .int q.1 | none => .non), .tup [.int P, .tup (ns.map D.int)]]] := by
          rw [List.take_add_one]
          congr 1
          unfold winD
          rw [List.getElem?_map, List.getElem?_range hlt]
          simp [winI, endI, List.getD, hp, kdD]
          try rfl
        have hwl : ((winD ps).take i).length < 16777216 := by
          rw [List.length_take]
          omega
        by_cases c1 : i + 1 < ps.length
        · obtain ⟨q, hq⟩ : ∃ q, ps[i + 1]? = some q := ⟨_, List.getElem?_eq_getElem c1⟩
          have hat : atI (ps.map pcD) ((i : Int) + 1) = some (pcD q) := atI_nn (by omega) (by rw [List.getElem?_map, show ((i : Int) + 1).toNat = i + 1 by omega, hq]; rfl)
          obtain ⟨s2, P2, ns2⟩ := q
          rw [show pcD (s2, P2, ns2) = .tup [.int s2, .int P2, .tup (ns2.map D.int)] from rfl] at hat
          simp only [↓sSeq, ↓sAsg, ↓sRet, ↓sRetN, ↓sIf, ↓sDrop, ↓sPar, ↓sAug, ↓sNext, ↓sTgt, ↓sApp, ↓sExt, ↓sPop, ↓sSet, ↓sBreak, ↓sCont, ↓eVar, ↓bVar, ↓eMov, ↓bE, ↓eBin, ↓tE, ↓eChain_eq, chS_bl, chS_true, chS_false, wipeE_nil, wipeE_cons, ↓eUn, ↓qAnd, ↓qOr, ↓qNot, ↓eAnd_eq, ↓eOr_eq, ↓sNever, ↓eNot, ↓eIf, ↓aNil, ↓aCons, ↓aConsB, ↓eTup, ↓eLst, ↓iSeq, ↓iR1, ↓iR2, ↓iEnum1, ↓iRev1, ↓cSortD, ↓sAugIt, ↓cMinPr,  ↓gN, ↓gsNil, ↓gsCons, ↓gT, ↓eCall, ↓eCallX, ↓sRaise, ↓sTry, ↓dI2, ↓dAdd, ↓dEq, ↓dNe, ↓dIsN, ↓dNotN, ↓dIx, ↓oNone, ↓oSome, ↓eSl, ↓eB, ↓cLen, ↓cInt, ↓cAbs, ↓cMax2, ↓cMin2, ↓cDivmod, ↓cList, ↓cTuple, ↓cSum, ↓cMax, ↓cMin, ↓cAll, ↓cAny, ↓cSorted, ↓dIn, ↓dInX, ↓eM, ↓mIndex, ↓tyM, ↓gSq, ↓cSet, natc0, natc1, natc2, List.findIdx?_cons, List.findIdx?_nil, intsOf_ints, boolsOf_bls, plAnyI, plAnyR, ↓cGcd, ↓cLcm, ↓eRange, ↓eIsi, ↓Sl.val, ↓Ow.toD, ↓stE, ↓tYes', ↓eIxM, ↓sSetM, ↓PL.isNon, ↓eC, ↓bC, ↓dSub, ↓dMul, ↓dDiv, ↓dMod, ↓dPow, ↓dLt, ↓dLe, ↓dGt, ↓dGe, ↓dAddI, ↓dDivS, ↓dEqI, ↓dNeI,
  List.getElem?_cons_zero, List.getElem?_cons_succ, List.set_cons_zero, List.set_cons_succ, List.map_cons, List.map_nil, List.length_cons, List.length_nil, List.nil_append, List.cons_append, List.replicate_succ, List.replicate_zero, List.append_nil, atI0, atI1, atI2, atI3, atI4,
  cmpOk_int, cmpOk_bl, cmpOk_non, deq_int, deq_bl, true_and, and_true, Nat.reduceAdd, Nat.reduceSub, Nat.reduceLeDiff, Nat.reduceLT, Bool.not_eq_true', Bool.false_eq_true, if_false, if_true, decide_eq_true_eq, decide_eq_false_iff_not, Nat.zero_add, Nat.sub_zero, Nat.add_zero, Nat.sub_self, isi_non_bool, isi_non_int, isi_non_str, isi_non_list, isi_non_tuple, isi_bl_bool, isi_bl_int, isi_bl_str, isi_bl_list, isi_bl_tuple, isi_int_bool, isi_int_int, isi_int_str, isi_int_list, isi_int_tuple, isi_str_bool, isi_str_int, isi_str_str, isi_str_list, isi_str_tuple, isi_lst_bool, isi_lst_int, isi_lst_str, isi_lst_list, isi_lst_tuple, isi_tup_bool, isi_tup_int, isi_tup_str, isi_tup_list, isi_tup_tuple, ixN31, ixN32, List.length_map, List.length_set, Int.reduceToNat, Int.reducePow, Int.reduceNeg, Int.reduceAdd, Int.reduceSub, Int.reduceMul, Int.reduceLT, Int.reduceLE, Int.reduceEq, Nat.reduceEqDiff, reduceCtorEq, List.mem_singleton, eq_self, not_true_eq_false, not_false_eq_true, or_true, true_or, cmpOk_lstA, cmpOk_tupA, ckA_lst, ckA_tup, ckAl_nil, ckAl_cons, ckAl_ints, ckAl_rangeL, ck_int, ck_bl, ck_non, ck_strI, cmpOk_str, deq_str, deq_tup, deq_lst, deqA_nil, deqA_cons, deqA_ints, Bool.and_true, Bool.true_and, Bool.and_false, Bool.false_and, decide_true, decide_false, Bool.not_true, Bool.not_false, so0, sn0_1, sn0_2, sn0_3, so1, sn1_0, sn1_2, sn1_3, so2, sn2_0, sn2_1, sn2_3, so3, sn3_0, sn3_1, sn3_2, cat_BadSeries, hat]
          rw [if_pos (by omega)]
          rw [hq] at hw
          dsimp only at hw
          rw [← hw]
          exact ⟨hwl, hJ _ _ _ ⟨rfl, by omega, _, _, _, _, _, rfl⟩⟩
        · walk_at "pl"
          rw [if_neg (by omega)]
          rw [List.getElem?_eq_none (by omega)] at hw
          dsimp only at hw
          rw [← hw]
          exact ⟨hwl, hJ _ _ _ ⟨rfl, by omega, _, _, _, _, _, rfl⟩⟩
    · rintro ρ M1 ⟨e, hi, a, b, c, d, e2, rfl⟩
      subst e
      refine h1 _ _ ?_
      walk_at "pl"
      rw [enumD_len, List.length_map] at *
      rw [List.take_of_length_le (by simp [winD])]
      exact h
  · exact h.elim

theorem ok_loads_of (T : TF K mg) : FnOk P w K mg base CX0 1 T.a_loads_of T.x_loads_of ["dealt", "names"] (liP K p_loads_of) := by
  refine fn_P T.f_loads_of sc_loads_of (by intro ds M Q E h; unfold p_loads_of at h; split at h <;> first | rfl | exact h.elim) (fun cdv A outer s H E z hz hr => (qs_end (qs_ret (qe_lc rfl sc_loads_of.nd (own := [("one", 2)]) (qi_seq (h := (qe_var 1))) (blkOk_by (own := [("one", 2)]) (N := N_loads_of) (sc := defScope s_loads_of) (by decide +kernel)) (fun _ _ _ _ _ z hz => (qg_name (i := 2) sc_loads_of.nd rfl (by first | exact Or.inl rfl | exact Or.inr rfl))) (fun _ _ _ _ _ => an_t0) (fun _ _ _ _ _ z hz => (qe_callB cb_len (by rfl) T.m_len (by decide +kernel) (qab_cons (qb_of (qe_lc rfl sc_loads_of.nd (own := [("day", 3), ("name", 4)]) (qi_seq (h := (qe_var 0))) (by (conv => (arg 2; whnf)); exact blkOk_by (own := [("day", 3), ("name", 4)]) (N := N_loads_of) (by kernel_rfl)) (fun _ _ _ _ _ z hz => (qg_seq (n := 2) rfl (qgs_cons (qg_name (i := 3) sc_loads_of.nd rfl (by first | exact Or.inl rfl | exact Or.inr rfl)) (qgs_cons (qg_name (i := 4) sc_loads_of.nd rfl (by first | exact Or.inl rfl | exact Or.inr rfl)) qgs_nil)))) (fun _ _ _ _ _ => an_t1 fun z hz => (qt_cmp (ob_eq (hu64 hr)) (qb_var 4) (qb_var 2) (nomark _))) (fun _ _ _ _ _ z hz => (qe_var 3)))) qab_nil))))))) ?_
  intro ds M Q0 h
  unfold p_loads_of at h
  split at h
  · skip
    obtain ⟨rows, ss, rfl, rfl, ⟨hr, hs, hno, hso⟩, h⟩ := h
    walk_at "pl"
    refine eLc_fm (loadD rows) (ss.map D.str) (fun Q h => by walk_at "pl"; exact h) rfl (by rw [List.length_map]; omega) ?_ ?_
    · intro i d acc J hd hl hJ
      obtain ⟨s, hs2, rfl⟩ := map_get hd
      have hs3 := hso s (List.mem_of_getElem? hs2)
      walk_at "pl"
      refine eLc_fm (oneD s) (rows.map duD) (fun Q h => by walk_at "pl"; exact h) rfl (by rw [List.length_map]; omega) ?_ ?_
      · intro i d acc J hd hl hJ
        obtain ⟨⟨d, o⟩, ho, rfl⟩ := map_get hd
        have hn := hno _ (List.mem_of_getElem? ho)
        cases o with
        | none =>
          simp only [↓sSeq, ↓sAsg, ↓sRet, ↓sRetN, ↓sIf, ↓sDrop, ↓sPar, ↓sAug, ↓sNext, ↓sTgt, ↓sApp, ↓sExt, ↓sPop, ↓sSet, ↓sBreak, ↓sCont, ↓eVar, ↓bVar, ↓eMov, ↓bE, ↓eBin, ↓tE, ↓eChain_eq, chS_bl, chS_true, chS_false, wipeE_nil, wipeE_cons, ↓eUn, ↓qAnd, ↓qOr, ↓qNot, ↓eAnd_eq, ↓eOr_eq, ↓sNever, ↓eNot, ↓eIf, ↓aNil, ↓aCons, ↓aConsB, ↓eTup, ↓eLst, ↓iSeq, ↓iR1, ↓iR2, ↓iEnum1, ↓iRev1, ↓cSortD, ↓sAugIt, ↓cMinPr,  ↓gN, ↓gsNil, ↓gsCons, ↓gT, ↓eCall, ↓eCallX, ↓sRaise, ↓sTry, ↓dI2, ↓dAdd, ↓dEq, ↓dNe, ↓dIsN, ↓dNotN, ↓dIx, ↓oNone, ↓oSome, ↓eSl, ↓eB, ↓cLen, ↓cInt, ↓cAbs, ↓cMax2, ↓cMin2, ↓cDivmod, ↓cList, ↓cTuple, ↓cSum, ↓cMax, ↓cMin, ↓cAll, ↓cAny, ↓cSorted, ↓dIn, ↓dInX, ↓eM, ↓mIndex, ↓tyM, ↓gSq, ↓cSet, natc0, natc1, natc2, List.findIdx?_cons, List.findIdx?_nil, intsOf_ints, boolsOf_bls, plAnyI, plAnyR, ↓cGcd, ↓cLcm, ↓eRange, ↓eIsi, ↓Sl.val, ↓Ow.toD, ↓stE, ↓tYes', ↓eIxM, ↓sSetM, ↓PL.isNon, ↓eC, ↓bC, ↓dSub, ↓dMul, ↓dDiv, ↓dMod, ↓dPow, ↓dLt, ↓dLe, ↓dGt, ↓dGe, ↓dAddI, ↓dDivS, ↓dEqI, ↓dNeI,
  List.getElem?_cons_zero, List.getElem?_cons_succ, List.set_cons_zero, List.set_cons_succ, List.map_cons, List.map_nil, List.length_cons, List.length_nil, List.nil_append, List.cons_append, List.replicate_succ, List.replicate_zero, List.append_nil, atI0, atI1, atI2, atI3, atI4,
  cmpOk_int, cmpOk_bl, cmpOk_non, deq_int, deq_bl, true_and, and_true, Nat.reduceAdd, Nat.reduceSub, Nat.reduceLeDiff, Nat.reduceLT, Bool.not_eq_true', Bool.false_eq_true, if_false, if_true, decide_eq_true_eq, decide_eq_false_iff_not, Nat.zero_add, Nat.sub_zero, Nat.add_zero, Nat.sub_self, isi_non_bool, isi_non_int, isi_non_str, isi_non_list, isi_non_tuple, isi_bl_bool, isi_bl_int, isi_bl_str, isi_bl_list, isi_bl_tuple, isi_int_bool, isi_int_int, isi_int_str, isi_int_list, isi_int_tuple, isi_str_bool, isi_str_int, isi_str_str, isi_str_list, isi_str_tuple, isi_lst_bool, isi_lst_int, isi_lst_str, isi_lst_list, isi_lst_tuple, isi_tup_bool, isi_tup_int, isi_tup_str, isi_tup_list, isi_tup_tuple, ixN31, ixN32, List.length_map, List.length_set, Int.reduceToNat, Int.reducePow, Int.reduceNeg, Int.reduceAdd, Int.reduceSub, Int.reduceMul, Int.reduceLT, Int.reduceLE, Int.reduceEq, Nat.reduceEqDiff, reduceCtorEq, List.mem_singleton, eq_self, not_true_eq_false, not_false_eq_true, or_true, true_or, cmpOk_lstA, cmpOk_tupA, ckA_lst, ckA_tup, ckAl_nil, ckAl_cons, ckAl_ints, ckAl_rangeL, ck_int, ck_bl, ck_non, ck_strI, cmpOk_str, deq_str, deq_tup, deq_lst, deqA_nil, deqA_cons, deqA_ints, Bool.and_true, Bool.true_and, Bool.and_false, Bool.false_and, decide_true, decide_false, Bool.not_true, Bool.not_false, so0, sn0_1, sn0_2, sn0_3, so1, sn1_0, sn1_2, sn1_3, so2, sn2_0, sn2_1, sn2_3, so3, sn3_0, sn3_1, sn3_2, cat_BadSeries, duD, oS]
          have hJ : J acc M := by simpa [oneD, duD, oS] using hJ
          refine ⟨hs3, ?_⟩
          rw [if_neg (by rw [show deq D.non (D.str s) = false from rfl]; exact Bool.false_ne_true)]
          exact hJ
        | some t =>
          have ht := hn t rfl
          simp only [↓sSeq, ↓sAsg, ↓sRet, ↓sRetN, ↓sIf, ↓sDrop, ↓sPar, ↓sAug, ↓sNext, ↓sTgt, ↓sApp, ↓sExt, ↓sPop, ↓sSet, ↓sBreak, ↓sCont, ↓eVar, ↓bVar, ↓eMov, ↓bE, ↓eBin, ↓tE, ↓eChain_eq, chS_bl, chS_true, chS_false, wipeE_nil, wipeE_cons, ↓eUn, ↓qAnd, ↓qOr, ↓qNot, ↓eAnd_eq, ↓eOr_eq, ↓sNever, ↓eNot, ↓eIf, ↓aNil, ↓aCons, ↓aConsB, ↓eTup, ↓eLst, ↓iSeq, ↓iR1, ↓iR2, ↓iEnum1, ↓iRev1, ↓cSortD, ↓sAugIt, ↓cMinPr,  ↓gN, ↓gsNil, ↓gsCons, ↓gT, ↓eCall, ↓eCallX, ↓sRaise, ↓sTry, ↓dI2, ↓dAdd, ↓dEq, ↓dNe, ↓dIsN, ↓dNotN, ↓dIx, ↓oNone, ↓oSome, ↓eSl, ↓eB, ↓cLen, ↓cInt, ↓cAbs, ↓cMax2, ↓cMin2, ↓cDivmod, ↓cList, ↓cTuple, ↓cSum, ↓cMax, ↓cMin, ↓cAll, ↓cAny, ↓cSorted, ↓dIn, ↓dInX, ↓eM, ↓mIndex, ↓tyM, ↓gSq, ↓cSet, natc0, natc1, natc2, List.findIdx?_cons, List.findIdx?_nil, intsOf_ints, boolsOf_bls, plAnyI, plAnyR, ↓cGcd, ↓cLcm, ↓eRange, ↓eIsi, ↓Sl.val, ↓Ow.toD, ↓stE, ↓tYes', ↓eIxM, ↓sSetM, ↓PL.isNon, ↓eC, ↓bC, ↓dSub, ↓dMul, ↓dDiv, ↓dMod, ↓dPow, ↓dLt, ↓dLe, ↓dGt, ↓dGe, ↓dAddI, ↓dDivS, ↓dEqI, ↓dNeI,
  List.getElem?_cons_zero, List.getElem?_cons_succ, List.set_cons_zero, List.set_cons_succ, List.map_cons, List.map_nil, List.length_cons, List.length_nil, List.nil_append, List.cons_append, List.replicate_succ, List.replicate_zero, List.append_nil, atI0, atI1, atI2, atI3, atI4,
  cmpOk_int, cmpOk_bl, cmpOk_non, deq_int, deq_bl, true_and, and_true, Nat.reduceAdd, Nat.reduceSub, Nat.reduceLeDiff, Nat.reduceLT, Bool.not_eq_true', Bool.false_eq_true, if_false, if_true, decide_eq_true_eq, decide_eq_false_iff_not, Nat.zero_add, Nat.sub_zero, Nat.add_zero, Nat.sub_self, isi_non_bool, isi_non_int, isi_non_str, isi_non_list, isi_non_tuple, isi_bl_bool, isi_bl_int, isi_bl_str, isi_bl_list, isi_bl_tuple, isi_int_bool, isi_int_int, isi_int_str, isi_int_list, isi_int_tuple, isi_str_bool, isi_str_int, isi_str_str, isi_str_list, isi_str_tuple, isi_lst_bool, isi_lst_int, isi_lst_str, isi_lst_list, isi_lst_tuple, isi_tup_bool, isi_tup_int, isi_tup_str, isi_tup_list, isi_tup_tuple, ixN31, ixN32, List.length_map, List.length_set, Int.reduceToNat, Int.reducePow, Int.reduceNeg, Int.reduceAdd, Int.reduceSub, Int.reduceMul, Int.reduceLT, Int.reduceLE, Int.reduceEq, Nat.reduceEqDiff, reduceCtorEq, List.mem_singleton, eq_self, not_true_eq_false, not_false_eq_true, or_true, true_or, cmpOk_lstA, cmpOk_tupA, ckA_lst, ckA_tup, ckAl_nil, ckAl_cons, ckAl_ints, ckAl_rangeL, ck_int, ck_bl, ck_non, ck_strI, cmpOk_str, deq_str, deq_tup, deq_lst, deqA_nil, deqA_cons, deqA_ints, Bool.and_true, Bool.true_and, Bool.and_false, Bool.false_and, decide_true, decide_false, Bool.not_true, Bool.not_false, so0, sn0_1, sn0_2, sn0_3, so1, sn1_0, sn1_2, sn1_3, so2, sn2_0, sn2_1, sn2_3, so3, sn3_0, sn3_1, sn3_2, cat_BadSeries, duD, oS]
          refine ⟨⟨ht, hs3⟩, ?_⟩
          have e : oneD s (duD (d, some t)) = if t = s then some (.int d) else none := rfl
          rw [e] at hJ
          by_cases c : t = s
          · rw [if_pos c] at hJ ⊢
            exact ⟨hl, hJ⟩
          · rw [if_neg c] at hJ ⊢
            simpa using hJ
      · rw [oneD_map]
        simp only [↓sSeq, ↓sAsg, ↓sRet, ↓sRetN, ↓sIf, ↓sDrop, ↓sPar, ↓sAug, ↓sNext, ↓sTgt, ↓sApp, ↓sExt, ↓sPop, ↓sSet, ↓sBreak, ↓sCont, ↓eVar, ↓bVar, ↓eMov, ↓bE, ↓eBin, ↓tE, ↓eChain_eq, chS_bl, chS_true, chS_false, wipeE_nil, wipeE_cons, ↓eUn, ↓qAnd, ↓qOr, ↓qNot, ↓eAnd_eq, ↓eOr_eq, ↓sNever, ↓eNot, ↓eIf, ↓aNil, ↓aCons, ↓aConsB, ↓eTup, ↓eLst, ↓iSeq, ↓iR1, ↓iR2, ↓iEnum1, ↓iRev1, ↓cSortD, ↓sAugIt, ↓cMinPr,  ↓gN, ↓gsNil, ↓gsCons, ↓gT, ↓eCall, ↓eCallX, ↓sRaise, ↓sTry, ↓dI2, ↓dAdd, ↓dEq, ↓dNe, ↓dIsN, ↓dNotN, ↓dIx, ↓oNone, ↓oSome, ↓eSl, ↓eB, ↓cLen, ↓cInt, ↓cAbs, ↓cMax2, ↓cMin2, ↓cDivmod, ↓cList, ↓cTuple, ↓cSum, ↓cMax, ↓cMin, ↓cAll, ↓cAny, ↓cSorted, ↓dIn, ↓dInX, ↓eM, ↓mIndex, ↓tyM, ↓gSq, ↓cSet, natc0, natc1, natc2, List.findIdx?_cons, List.findIdx?_nil, intsOf_ints, boolsOf_bls, plAnyI, plAnyR, ↓cGcd, ↓cLcm, ↓eRange, ↓eIsi, ↓Sl.val, ↓Ow.toD, ↓stE, ↓tYes', ↓eIxM, ↓sSetM, ↓PL.isNon, ↓eC, ↓bC, ↓dSub, ↓dMul, ↓dDiv, ↓dMod, ↓dPow, ↓dLt, ↓dLe, ↓dGt, ↓dGe, ↓dAddI, ↓dDivS, ↓dEqI, ↓dNeI,
  List.getElem?_cons_zero, List.getElem?_cons_succ, List.set_cons_zero, List.set_cons_succ, List.map_cons, List.map_nil, List.length_cons, List.length_nil, List.nil_append, List.cons_append, List.replicate_succ, List.replicate_zero, List.append_nil, atI0, atI1, atI2, atI3, atI4,
  cmpOk_int, cmpOk_bl, cmpOk_non, deq_int, deq_bl, true_and, and_true, Nat.reduceAdd, Nat.reduceSub, Nat.reduceLeDiff, Nat.reduceLT, Bool.not_eq_true', Bool.false_eq_true, if_false, if_true, decide_eq_true_eq, decide_eq_false_iff_not, Nat.zero_add, Nat.sub_zero, Nat.add_zero, Nat.sub_self, isi_non_bool, isi_non_int, isi_non_str, isi_non_list, isi_non_tuple, isi_bl_bool, isi_bl_int, isi_bl_str, isi_bl_list, isi_bl_tuple, isi_int_bool, isi_int_int, isi_int_str, isi_int_list, isi_int_tuple, isi_str_bool, isi_str_int, isi_str_str, isi_str_list, isi_str_tuple, isi_lst_bool, isi_lst_int, isi_lst_str, isi_lst_list, isi_lst_tuple, isi_tup_bool, isi_tup_int, isi_tup_str, isi_tup_list, isi_tup_tuple, ixN31, ixN32, List.length_map, List.length_set, Int.reduceToNat, Int.reducePow, Int.reduceNeg, Int.reduceAdd, Int.reduceSub, Int.reduceMul, Int.reduceLT, Int.reduceLE, Int.reduceEq, Nat.reduceEqDiff, reduceCtorEq, List.mem_singleton, eq_self, not_true_eq_false, not_false_eq_true, or_true, true_or, cmpOk_lstA, cmpOk_tupA, ckA_lst, ckA_tup, ckAl_nil, ckAl_cons, ckAl_ints, ckAl_rangeL, ck_int, ck_bl, ck_non, ck_strI, cmpOk_str, deq_str, deq_tup, deq_lst, deqA_nil, deqA_cons, deqA_ints, Bool.and_true, Bool.true_and, Bool.and_false, Bool.false_and, decide_true, decide_false, Bool.not_true, Bool.not_false, so0, sn0_1, sn0_2, sn0_3, so1, sn1_0, sn1_2, sn1_3, so2, sn2_0, sn2_1, sn2_3, so3, sn3_0, sn3_1, sn3_2, cat_BadSeries, List.length_map]
        exact ⟨hl, hJ⟩
    · rw [loadD_map]; exact h
  · exact h.elim

theorem ok_unmanned (T : TF K mg) : FnOk P w K mg base CX0 1 T.a_unmanned T.x_unmanned ["dealt"] (liP K p_unmanned) := by
  refine fn_P T.f_unmanned sc_unmanned (by intro ds M Q E h; unfold p_unmanned at h; split at h <;> first | rfl | exact h.elim) (fun cdv A outer s H E z hz hr => (qs_end (qs_ret (qe_lc rfl sc_unmanned.nd (own := [("day", 1), ("name", 2)]) (qi_seq (h := (qe_var 0))) (blkOk_by (own := [("day", 1), ("name", 2)]) (N := N_unmanned) (sc := defScope s_unmanned) (by decide +kernel)) (fun _ _ _ _ _ z hz => (qg_seq (n := 2) rfl (qgs_cons (qg_name (i := 1) sc_unmanned.nd rfl (by first | exact Or.inl rfl | exact Or.inr rfl)) (qgs_cons (qg_name (i := 2) sc_unmanned.nd rfl (by first | exact Or.inl rfl | exact Or.inr rfl)) qgs_nil)))) (fun _ _ _ _ _ => an_t1 fun z hz => (qt_cmp ob_isN (qb_var 2) qb_non (nomark _))) (fun _ _ _ _ _ z hz => (qe_var 1)))))) ?_
  intro ds M Q0 h
  unfold p_unmanned at h
  split at h
  · skip
    obtain ⟨rows, rfl, hr, h⟩ := h
    walk_at "pl"
    refine eLc_fm unmD (rows.map duD) (fun Q h => by walk_at "pl"; exact h) rfl (by rw [List.length_map]; omega) ?_ ?_
    · intro i d acc J hd hl hJ
      obtain ⟨⟨d, o⟩, _, rfl⟩ := map_get hd
      cases o with
      | none => simp only [↓sSeq, ↓sAsg, ↓sRet, ↓sRetN, ↓sIf, ↓sDrop, ↓sPar, ↓sAug, ↓sNext, ↓sTgt, ↓sApp, ↓sExt, ↓sPop, ↓sSet, ↓sBreak, ↓sCont, ↓eVar, ↓bVar, ↓eMov, ↓bE, ↓eBin, ↓tE, ↓eChain_eq, chS_bl, chS_true, chS_false, wipeE_nil, wipeE_cons, ↓eUn, ↓qAnd, ↓qOr, ↓qNot, ↓eAnd_eq, ↓eOr_eq, ↓sNever, ↓eNot, ↓eIf, ↓aNil, ↓aCons, ↓aConsB, ↓eTup, ↓eLst, ↓iSeq, ↓iR1, ↓iR2, ↓iEnum1, ↓iRev1, ↓cSortD, ↓sAugIt, ↓cMinPr,  ↓gN, ↓gsNil, ↓gsCons, ↓gT, ↓eCall, ↓eCallX, ↓sRaise, ↓sTry, ↓dI2, ↓dAdd, ↓dEq, ↓dNe, ↓dIsN, ↓dNotN, ↓dIx, ↓oNone, ↓oSome, ↓eSl, ↓eB, ↓cLen, ↓cInt, ↓cAbs, ↓cMax2, ↓cMin2, ↓cDivmod, ↓cList, ↓cTuple, ↓cSum, ↓cMax, ↓cMin, ↓cAll, ↓cAny, ↓cSorted, ↓dIn, ↓dInX, ↓eM, ↓mIndex, ↓tyM, ↓gSq, ↓cSet, natc0, natc1, natc2, List.findIdx?_cons, List.findIdx?_nil, intsOf_ints, boolsOf_bls, plAnyI, plAnyR, ↓cGcd, ↓cLcm, ↓eRange, ↓eIsi, ↓Sl.val, ↓Ow.toD, ↓stE, ↓tYes', ↓eIxM, ↓sSetM, ↓PL.isNon, ↓eC, ↓bC, ↓dSub, ↓dMul, ↓dDiv, ↓dMod, ↓dPow, ↓dLt, ↓dLe, ↓dGt, ↓dGe, ↓dAddI, ↓dDivS, ↓dEqI, ↓dNeI,
  List.getElem?_cons_zero, List.getElem?_cons_succ, List.set_cons_zero, List.set_cons_succ, List.map_cons, List.map_nil, List.length_cons, List.length_nil, List.nil_append, List.cons_append, List.replicate_succ, List.replicate_zero, List.append_nil, atI0, atI1, atI2, atI3, atI4,
  cmpOk_int, cmpOk_bl, cmpOk_non, deq_int, deq_bl, true_and, and_true, Nat.reduceAdd, Nat.reduceSub, Nat.reduceLeDiff, Nat.reduceLT, Bool.not_eq_true', Bool.false_eq_true, if_false, if_true, decide_eq_true_eq, decide_eq_false_iff_not, Nat.zero_add, Nat.sub_zero, Nat.add_zero, Nat.sub_self, isi_non_bool, isi_non_int, isi_non_str, isi_non_list, isi_non_tuple, isi_bl_bool, isi_bl_int, isi_bl_str, isi_bl_list, isi_bl_tuple, isi_int_bool, isi_int_int, isi_int_str, isi_int_list, isi_int_tuple, isi_str_bool, isi_str_int, isi_str_str, isi_str_list, isi_str_tuple, isi_lst_bool, isi_lst_int, isi_lst_str, isi_lst_list, isi_lst_tuple, isi_tup_bool, isi_tup_int, isi_tup_str, isi_tup_list, isi_tup_tuple, ixN31, ixN32, List.length_map, List.length_set, Int.reduceToNat, Int.reducePow, Int.reduceNeg, Int.reduceAdd, Int.reduceSub, Int.reduceMul, Int.reduceLT, Int.reduceLE, Int.reduceEq, Nat.reduceEqDiff, reduceCtorEq, List.mem_singleton, eq_self, not_true_eq_false, not_false_eq_true, or_true, true_or, cmpOk_lstA, cmpOk_tupA, ckA_lst, ckA_tup, ckAl_nil, ckAl_cons, ckAl_ints, ckAl_rangeL, ck_int, ck_bl, ck_non, ck_strI, cmpOk_str, deq_str, deq_tup, deq_lst, deqA_nil, deqA_cons, deqA_ints, Bool.and_true, Bool.true_and, Bool.and_false, Bool.false_and, decide_true, decide_false, Bool.not_true, Bool.not_false, so0, sn0_1, sn0_2, sn0_3, so1, sn1_0, sn1_2, sn1_3, so2, sn2_0, sn2_1, sn2_3, so3, sn3_0, sn3_1, sn3_2, cat_BadSeries, duD, oS]; exact ⟨hl, hJ⟩
      | some s => simp only [↓sSeq, ↓sAsg, ↓sRet, ↓sRetN, ↓sIf, ↓sDrop, ↓sPar, ↓sAug, ↓sNext, ↓sTgt, ↓sApp, ↓sExt, ↓sPop, ↓sSet, ↓sBreak, ↓sCont, ↓eVar, ↓bVar, ↓eMov, ↓bE, ↓eBin, ↓tE, ↓eChain_eq, chS_bl, chS_true, chS_false, wipeE_nil, wipeE_cons, ↓eUn, ↓qAnd, ↓qOr, ↓qNot, ↓eAnd_eq, ↓eOr_eq, ↓sNever, ↓eNot, ↓eIf, ↓aNil, ↓aCons, ↓aConsB, ↓eTup, ↓eLst, ↓iSeq, ↓iR1, ↓iR2, ↓iEnum1, ↓iRev1, ↓cSortD, ↓sAugIt, ↓cMinPr,  ↓gN, ↓gsNil, ↓gsCons, ↓gT, ↓eCall, ↓eCallX, ↓sRaise, ↓sTry, ↓dI2, ↓dAdd, ↓dEq, ↓dNe, ↓dIsN, ↓dNotN, ↓dIx, ↓oNone, ↓oSome, ↓eSl, ↓eB, ↓cLen, ↓cInt, ↓cAbs, ↓cMax2, ↓cMin2, ↓cDivmod, ↓cList, ↓cTuple, ↓cSum, ↓cMax, ↓cMin, ↓cAll, ↓cAny, ↓cSorted, ↓dIn, ↓dInX, ↓eM, ↓mIndex, ↓tyM, ↓gSq, ↓cSet, natc0, natc1, natc2, List.findIdx?_cons, List.findIdx?_nil, intsOf_ints, boolsOf_bls, plAnyI, plAnyR, ↓cGcd, ↓cLcm, ↓eRange, ↓eIsi, ↓Sl.val, ↓Ow.toD, ↓stE, ↓tYes', ↓eIxM, ↓sSetM, ↓PL.isNon, ↓eC, ↓bC, ↓dSub, ↓dMul, ↓dDiv, ↓dMod, ↓dPow, ↓dLt, ↓dLe, ↓dGt, ↓dGe, ↓dAddI, ↓dDivS, ↓dEqI, ↓dNeI,
  List.getElem?_cons_zero, List.getElem?_cons_succ, List.set_cons_zero, List.set_cons_succ, List.map_cons, List.map_nil, List.length_cons, List.length_nil, List.nil_append, List.cons_append, List.replicate_succ, List.replicate_zero, List.append_nil, atI0, atI1, atI2, atI3, atI4,
  cmpOk_int, cmpOk_bl, cmpOk_non, deq_int, deq_bl, true_and, and_true, Nat.reduceAdd, Nat.reduceSub, Nat.reduceLeDiff, Nat.reduceLT, Bool.not_eq_true', Bool.false_eq_true, if_false, if_true, decide_eq_true_eq, decide_eq_false_iff_not, Nat.zero_add, Nat.sub_zero, Nat.add_zero, Nat.sub_self, isi_non_bool, isi_non_int, isi_non_str, isi_non_list, isi_non_tuple, isi_bl_bool, isi_bl_int, isi_bl_str, isi_bl_list, isi_bl_tuple, isi_int_bool, isi_int_int, isi_int_str, isi_int_list, isi_int_tuple, isi_str_bool, isi_str_int, isi_str_str, isi_str_list, isi_str_tuple, isi_lst_bool, isi_lst_int, isi_lst_str, isi_lst_list, isi_lst_tuple, isi_tup_bool, isi_tup_int, isi_tup_str, isi_tup_list, isi_tup_tuple, ixN31, ixN32, List.length_map, List.length_set, Int.reduceToNat, Int.reducePow, Int.reduceNeg, Int.reduceAdd, Int.reduceSub, Int.reduceMul, Int.reduceLT, Int.reduceLE, Int.reduceEq, Nat.reduceEqDiff, reduceCtorEq, List.mem_singleton, eq_self, not_true_eq_false, not_false_eq_true, or_true, true_or, cmpOk_lstA, cmpOk_tupA, ckA_lst, ckA_tup, ckAl_nil, ckAl_cons, ckAl_ints, ckAl_rangeL, ck_int, ck_bl, ck_non, ck_strI, cmpOk_str, deq_str, deq_tup, deq_lst, deqA_nil, deqA_cons, deqA_ints, Bool.and_true, Bool.true_and, Bool.and_false, Bool.false_and, decide_true, decide_false, Bool.not_true, Bool.not_false, so0, sn0_1, sn0_2, sn0_3, so1, sn1_0, sn1_2, sn1_3, so2, sn2_0, sn2_1, sn2_3, so3, sn3_0, sn3_1, sn3_2, cat_BadSeries, duD, oS]; simpa [unmD, duD, oS] using hJ
    · rw [unmD_map]; exact h
  · exact h.elim

theorem ok_runs_of (T : TF K mg) : FnOk P w K mg base CX0 1 T.a_runs_of T.x_runs_of ["dealt", "name"] (liP K p_runs_of) := by
  refine fn_P T.f_runs_of sc_runs_of (by intro ds M Q E h; unfold p_runs_of at h; split at h <;> first | rfl | exact h.elim) (fun cdv A outer s H E z hz hr => (qs_cons (qs_set (i := 2) sc_runs_of.nd rfl (by first | exact Or.inl rfl | exact Or.inr rfl) qe_int)
    (qs_cons (qs_set (i := 3) sc_runs_of.nd rfl (by first | exact Or.inl rfl | exact Or.inr rfl) qe_int)
    (qs_cons (qs_for PassesOwn.never rfl (qi_seq (h := (qe_var 0))) (qg_seq (n := 2) rfl (qgs_cons (qg_name (i := 4) sc_runs_of.nd rfl (by first | exact Or.inl rfl | exact Or.inr rfl)) (qgs_cons (qg_name (i := 5) sc_runs_of.nd rfl (by first | exact Or.inl rfl | exact Or.inr rfl)) qgs_nil)))
    (qs_cons (qs_set (i := 3) sc_runs_of.nd rfl (by first | exact Or.inl rfl | exact Or.inr rfl) (qe_ifExp (qt_cmp (ob_eq (hu64 hr)) (qb_var 5) (qb_var 1) (nomark _)) (qe_bin ob_add (qb_var 3) qb_int) qe_int))
    (qs_end (qs_set (i := 2) sc_runs_of.nd rfl (by first | exact Or.inl rfl | exact Or.inr rfl) (qe_callB (cb_max2 rfl) (by rfl) T.m_max (by decide +kernel) (qab_cons (qb_var 2) (qab_cons (qb_var 3) qab_nil)))))))
    (qs_end (qs_ret (qe_var 2))))))) ?_
  intro ds M Q0 h
  unfold p_runs_of at h
  split at h
  · skip
    rename_i s
    obtain ⟨rows, rfl, ⟨hr, hno, hso⟩, h⟩ := h
    refine sSeq_i fun N1 h1 => ?_
    walk_at "pl"
    refine h1 _ _ ?_
    clear h1
    refine sSeq_i fun N1 h1 => ?_
    walk_at "pl"
    refine h1 _ _ ?_
    clear h1
    refine sSeq_i fun N1 h1 => ?_
    refine sFor_k fun N hN => ?_
    walk_at "pl"
    refine hN _ _ _ ?_
    clear hN
    refine loop_i (fun i ρ M1 => M1 = M ∧ ∃ a b : Sl, ρ = [.va (.lst (rows.map duD)), .va (.str s), .va (.int (runF s (rows.take i)).1), .va (.int (runF s (rows.take i)).2), a, b]) ⟨rfl, .un, .un, rfl⟩ ?_ ?_
    · rintro J hJ i dd ρ M1 hd ⟨rfl, a, b, rfl⟩
      obtain ⟨⟨d, o⟩, hdo, rfl⟩ := map_get hd
      have et : rows.take (i + 1) = rows.take i ++ [(d, o)] := by rw [List.take_add_one, hdo]; rfl
      generalize hr : rows.take i = rs at *
      simp only [duD]
      walk_at "gn"
      refine sSeq_i fun N2 h2 => ?_
      have h3 : N2 [.va (.lst (rows.map duD)), .va (.str s), .va (.int (runF s rs).1), .va (.int (if o = some s then (runF s rs).2 + 1 else 0)), .va (.int d), .va (oS o)] M1 := by
        refine h2 _ _ ?_
        clear h2
        walk_at "pl"
        rw [max_if]
        refine hJ _ _ _ ⟨rfl, .va (.int d), .va (oS o), ?_⟩
        rw [et, runF_snoc]
      clear h2
      have hn := hno _ (List.mem_of_getElem? hdo)
      cases o with
      | none =>
        simp only [↓sSeq, ↓sAsg, ↓sRet, ↓sRetN, ↓sIf, ↓sDrop, ↓sPar, ↓sAug, ↓sNext, ↓sTgt, ↓sApp, ↓sExt, ↓sPop, ↓sSet, ↓sBreak, ↓sCont, ↓eVar, ↓bVar, ↓eMov, ↓bE, ↓eBin, ↓tE, ↓eChain_eq, chS_bl, chS_true, chS_false, wipeE_nil, wipeE_cons, ↓eUn, ↓qAnd, ↓qOr, ↓qNot, ↓eAnd_eq, ↓eOr_eq, ↓sNever, ↓eNot, ↓eIf, ↓aNil, ↓aCons, ↓aConsB, ↓eTup, ↓eLst, ↓iSeq, ↓iR1, ↓iR2, ↓iEnum1, ↓iRev1, ↓cSortD, ↓sAugIt, ↓cMinPr,  ↓gN, ↓gsNil, ↓gsCons, ↓gT, ↓eCall, ↓eCallX, ↓sRaise, ↓sTry, ↓dI2, ↓dAdd, ↓dEq, ↓dNe, ↓dIsN, ↓dNotN, ↓dIx, ↓oNone, ↓oSome, ↓eSl, ↓eB, ↓cLen, ↓cInt, ↓cAbs, ↓cMax2, ↓cMin2, ↓cDivmod, ↓cList, ↓cTuple, ↓cSum, ↓cMax, ↓cMin, ↓cAll, ↓cAny, ↓cSorted, ↓dIn, ↓dInX, ↓eM, ↓mIndex, ↓tyM, ↓gSq, ↓cSet, natc0, natc1, natc2, List.findIdx?_cons, List.findIdx?_nil, intsOf_ints, boolsOf_bls, plAnyI, plAnyR, ↓cGcd, ↓cLcm, ↓eRange, ↓eIsi, ↓Sl.val, ↓Ow.toD, ↓stE, ↓tYes', ↓eIxM, ↓sSetM, ↓PL.isNon, ↓eC, ↓bC, ↓dSub, ↓dMul, ↓dDiv, ↓dMod, ↓dPow, ↓dLt, ↓dLe, ↓dGt, ↓dGe, ↓dAddI, ↓dDivS, ↓dEqI, ↓dNeI,
  List.getElem?_cons_zero, List.getElem?_cons_succ, List.set_cons_zero, List.set_cons_succ, List.map_cons, List.map_nil, List.length_cons, List.length_nil, List.nil_append, List.cons_append, List.replicate_succ, List.replicate_zero, List.append_nil, atI0, atI1, atI2, atI3, atI4,
  cmpOk_int, cmpOk_bl, cmpOk_non, deq_int, deq_bl, true_and, and_true, Nat.reduceAdd, Nat.reduceSub, Nat.reduceLeDiff, Nat.reduceLT, Bool.not_eq_true', Bool.false_eq_true, if_false, if_true, decide_eq_true_eq, decide_eq_false_iff_not, Nat.zero_add, Nat.sub_zero, Nat.add_zero, Nat.sub_self, isi_non_bool, isi_non_int, isi_non_str, isi_non_list, isi_non_tuple, isi_bl_bool, isi_bl_int, isi_bl_str, isi_bl_list, isi_bl_tuple, isi_int_bool, isi_int_int, isi_int_str, isi_int_list, isi_int_tuple, isi_str_bool, isi_str_int, isi_str_str, isi_str_list, isi_str_tuple, isi_lst_bool, isi_lst_int, isi_lst_str, isi_lst_list, isi_lst_tuple, isi_tup_bool, isi_tup_int, isi_tup_str, isi_tup_list, isi_tup_tuple, ixN31, ixN32, List.length_map, List.length_set, Int.reduceToNat, Int.reducePow, Int.reduceNeg, Int.reduceAdd, Int.reduceSub, Int.reduceMul, Int.reduceLT, Int.reduceLE, Int.reduceEq, Nat.reduceEqDiff, reduceCtorEq, List.mem_singleton, eq_self, not_true_eq_false, not_false_eq_true, or_true, true_or, cmpOk_lstA, cmpOk_tupA, ckA_lst, ckA_tup, ckAl_nil, ckAl_cons, ckAl_ints, ckAl_rangeL, ck_int, ck_bl, ck_non, ck_strI, cmpOk_str, deq_str, deq_tup, deq_lst, deqA_nil, deqA_cons, deqA_ints, Bool.and_true, Bool.true_and, Bool.and_false, Bool.false_and, decide_true, decide_false, Bool.not_true, Bool.not_false, so0, sn0_1, sn0_2, sn0_3, so1, sn1_0, sn1_2, sn1_3, so2, sn2_0, sn2_1, sn2_3, so3, sn3_0, sn3_1, sn3_2, cat_BadSeries, oS]
        refine ⟨hso, ?_⟩
        rw [if_neg (by rw [show deq D.non (D.str s) = false from rfl]; exact Bool.false_ne_true)]
        rw [if_neg (by simp)] at h3
        exact h3
      | some t =>
        have ht := hn t rfl
        simp only [↓sSeq, ↓sAsg, ↓sRet, ↓sRetN, ↓sIf, ↓sDrop, ↓sPar, ↓sAug, ↓sNext, ↓sTgt, ↓sApp, ↓sExt, ↓sPop, ↓sSet, ↓sBreak, ↓sCont, ↓eVar, ↓bVar, ↓eMov, ↓bE, ↓eBin, ↓tE, ↓eChain_eq, chS_bl, chS_true, chS_false, wipeE_nil, wipeE_cons, ↓eUn, ↓qAnd, ↓qOr, ↓qNot, ↓eAnd_eq, ↓eOr_eq, ↓sNever, ↓eNot, ↓eIf, ↓aNil, ↓aCons, ↓aConsB, ↓eTup, ↓eLst, ↓iSeq, ↓iR1, ↓iR2, ↓iEnum1, ↓iRev1, ↓cSortD, ↓sAugIt, ↓cMinPr,  ↓gN, ↓gsNil, ↓gsCons, ↓gT, ↓eCall, ↓eCallX, ↓sRaise, ↓sTry, ↓dI2, ↓dAdd, ↓dEq, ↓dNe, ↓dIsN, ↓dNotN, ↓dIx, ↓oNone, ↓oSome, ↓eSl, ↓eB, ↓cLen, ↓cInt, ↓cAbs, ↓cMax2, ↓cMin2, ↓cDivmod, ↓cList, ↓cTuple, ↓cSum, ↓cMax, ↓cMin, ↓cAll, ↓cAny, ↓cSorted, ↓dIn, ↓dInX, ↓eM, ↓mIndex, ↓tyM, ↓gSq, ↓cSet, natc0, natc1, natc2, List.findIdx?_cons, List.findIdx?_nil, intsOf_ints, boolsOf_bls, plAnyI, plAnyR, ↓cGcd, ↓cLcm, ↓eRange, ↓eIsi, ↓Sl.val, ↓Ow.toD, ↓stE, ↓tYes', ↓eIxM, ↓sSetM, ↓PL.isNon, ↓eC, ↓bC, ↓dSub, ↓dMul, ↓dDiv, ↓dMod, ↓dPow, ↓dLt, ↓dLe, ↓dGt, ↓dGe, ↓dAddI, ↓dDivS, ↓dEqI, ↓dNeI,
  List.getElem?_cons_zero, List.getElem?_cons_succ, List.set_cons_zero, List.set_cons_succ, List.map_cons, List.map_nil, List.length_cons, List.length_nil, List.nil_append, List.cons_append, List.replicate_succ, List.replicate_zero, List.append_nil, atI0, atI1, atI2, atI3, atI4,
  cmpOk_int, cmpOk_bl, cmpOk_non, deq_int, deq_bl, true_and, and_true, Nat.reduceAdd, Nat.reduceSub, Nat.reduceLeDiff, Nat.reduceLT, Bool.not_eq_true', Bool.false_eq_true, if_false, if_true, decide_eq_true_eq, decide_eq_false_iff_not, Nat.zero_add, Nat.sub_zero, Nat.add_zero, Nat.sub_self, isi_non_bool, isi_non_int, isi_non_str, isi_non_list, isi_non_tuple, isi_bl_bool, isi_bl_int, isi_bl_str, isi_bl_list, isi_bl_tuple, isi_int_bool, isi_int_int, isi_int_str, isi_int_list, isi_int_tuple, isi_str_bool, isi_str_int, isi_str_str, isi_str_list, isi_str_tuple, isi_lst_bool, isi_lst_int, isi_lst_str, isi_lst_list, isi_lst_tuple, isi_tup_bool, isi_tup_int, isi_tup_str, isi_tup_list, isi_tup_tuple, ixN31, ixN32, List.length_map, List.length_set, Int.reduceToNat, Int.reducePow, Int.reduceNeg, Int.reduceAdd, Int.reduceSub, Int.reduceMul, Int.reduceLT, Int.reduceLE, Int.reduceEq, Nat.reduceEqDiff, reduceCtorEq, List.mem_singleton, eq_self, not_true_eq_false, not_false_eq_true, or_true, true_or, cmpOk_lstA, cmpOk_tupA, ckA_lst, ckA_tup, ckAl_nil, ckAl_cons, ckAl_ints, ckAl_rangeL, ck_int, ck_bl, ck_non, ck_strI, cmpOk_str, deq_str, deq_tup, deq_lst, deqA_nil, deqA_cons, deqA_ints, Bool.and_true, Bool.true_and, Bool.and_false, Bool.false_and, decide_true, decide_false, Bool.not_true, Bool.not_false, so0, sn0_1, sn0_2, sn0_3, so1, sn1_0, sn1_2, sn1_3, so2, sn2_0, sn2_1, sn2_3, so3, sn3_0, sn3_1, sn3_2, cat_BadSeries, oS]
        refine ⟨⟨ht, hso⟩, ?_⟩
        by_cases c : t = s
        · rw [if_pos c]
          rw [if_pos (by rw [c])] at h3
          exact h3
        · rw [if_neg c]
          rw [if_neg (by simp [c])] at h3
          exact h3
    · rintro ρ M1 ⟨rfl, a, b, rfl⟩
      rw [List.length_map, List.take_length]
      refine h1 _ _ ?_
      clear h1
      walk_at "pl"
      exact h
  · exact h.elim

theorem ok__law_draw (T : TF K mg) : FnOk P w K mg base CX0 1 T.a__law_draw T.x__law_draw ["tape", "many"] (liP K pDraw) := by
  refine fn_draw T.f__law_draw sc__law_draw rfl (fun cdv A outer s H E z hz hr => (qs_cons (qs_if (qt_cmp ob_lt (qb_of (qe_ixM (qb_var 0) qb_int)) (qb_var 1) (nomark _))
    (qs_cons (qs_set (i := 2) sc__law_draw.nd rfl (by first | exact Or.inl rfl | exact Or.inr rfl) (qe_ixM (qb_var 0) qb_int))
    (qs_cons (qs_set (i := 3) sc__law_draw.nd rfl (by first | exact Or.inl rfl | exact Or.inr rfl) (qe_ixM (qb_var 0) qb_int))
    (qs_cons (qs_set (i := 4) sc__law_draw.nd rfl (by first | exact Or.inl rfl | exact Or.inr rfl) qe_int)
    (qs_cons (qs_if (qt_cmp ob_lt (qb_var 3) (qb_of (qe_callB cb_len (by rfl) T.m_len (by decide +kernel) (qab_cons (qb_var 2) qab_nil))) (nomark _))
    (qs_end (qs_set (i := 4) sc__law_draw.nd rfl (by first | exact Or.inl rfl | exact Or.inr rfl) (qe_ix (qb_var 2) (qb_var 3))))
    qs_nil)
    (qs_cons (qs_if (qt_cmp ob_lt (qb_var 4) qb_int (nomark _))
    (qs_end (qs_set (i := 4) sc__law_draw.nd rfl (by first | exact Or.inl rfl | exact Or.inr rfl) (qe_bin ob_sub (qb_of (qe_bin ob_mul (qb_of (qe_un ub_neg qb_int)) (qb_var 4))) qb_int)))
    qs_nil)
    (qs_cons (qs_if (qt_cmp ob_lt (qb_var 4) (qb_of (qe_bin ob_pow qb_int qb_int)) (nomark _))
    (qs_cons (qs_set (i := 4) sc__law_draw.nd rfl (by first | exact Or.inl rfl | exact Or.inr rfl) (qe_bin ob_mod (qb_of (qe_callTy cb_int (by rfl) T.m_int (by decide +kernel) (qab_cons (qb_of (qe_bin ob_add (qb_of (qe_bin ob_add (qb_of (qe_bin ob_mul (qb_var 4) qb_int)) (qb_of (qe_bin ob_mul (qb_var 3) qb_int)))) qb_int)) qab_nil))) qb_int))
    (qs_end (qs_set (i := 4) sc__law_draw.nd rfl (by first | exact Or.inl rfl | exact Or.inr rfl) (qe_bin ob_mod (qb_of (qe_callTy cb_int (by rfl) T.m_int (by decide +kernel) (qab_cons (qb_of (qe_bin ob_add (qb_of (qe_bin ob_add (qb_of (qe_bin ob_mul (qb_var 4) qb_int)) (qb_of (qe_bin ob_mul (qb_var 3) qb_int)))) qb_int)) qab_nil))) qb_int))))
    qs_nil)
    (qs_cons (qs_setM (qe_bin ob_add (qb_var 3) qb_int) (qb_var 0) qb_int)
    (qs_end (qs_setM (qe_var 4) (qb_var 0) qb_int)))))))))
    qs_nil)
    (qs_cons (qs_set (i := 5) sc__law_draw.nd rfl (by first | exact Or.inl rfl | exact Or.inr rfl) (qe_bin ob_mod (qb_of (qe_callTy cb_int (by rfl) T.m_int (by decide +kernel) (qab_cons (qb_of (qe_ixM (qb_var 0) qb_int)) qab_nil))) (qb_var 1)))
    (qs_cons (qs_setM (qe_bin ob_div (qb_of (qe_ixM (qb_var 0) qb_int)) (qb_var 1)) (qb_var 0) qb_int)
    (qs_end (qs_ret (qe_var 5))))))) ?_
  intro T n M ns c x Q0 hM hc hx hn hn2 hQ
  have hL : ∀ o, (mput M T o).lookup T = some o := fun o => lookup_mput ⟨_, lookup_mem hM, rfl⟩
  by_cases hb : c < (ns.length : Int)
  · obtain ⟨v, hv⟩ : ∃ v, atI (ns.map D.int) c = some (.int v) := by
      have h2 : c.toNat < ns.length := by omega
      refine ⟨ns[c.toNat], ?_⟩
      rw [atI_nn hc]
      simp [h2]
    simp only [↓sSeq, ↓sAsg, ↓sRet, ↓sRetN, ↓sIf, ↓sDrop, ↓sPar, ↓sAug, ↓sNext, ↓sTgt, ↓sApp, ↓sExt, ↓sPop, ↓sSet, ↓sBreak, ↓sCont, ↓eVar, ↓bVar, ↓eMov, ↓bE, ↓eBin, ↓tE, ↓eChain_eq, chS_bl, chS_true, chS_false, wipeE_nil, wipeE_cons, ↓eUn, ↓qAnd, ↓qOr, ↓qNot, ↓eAnd_eq, ↓eOr_eq, ↓sNever, ↓eNot, ↓eIf, ↓aNil, ↓aCons, ↓aConsB, ↓eTup, ↓eLst, ↓iSeq, ↓iR1, ↓iR2, ↓iEnum1, ↓iRev1, ↓cSortD, ↓sAugIt, ↓cMinPr,  ↓gN, ↓gsNil, ↓gsCons, ↓gT, ↓eCall, ↓eCallX, ↓sRaise, ↓sTry, ↓dI2, ↓dAdd, ↓dEq, ↓dNe, ↓dIsN, ↓dNotN, ↓dIx, ↓oNone, ↓oSome, ↓eSl, ↓eB, ↓cLen, ↓cInt, ↓cAbs, ↓cMax2, ↓cMin2, ↓cDivmod, ↓cList, ↓cTuple, ↓cSum, ↓cMax, ↓cMin, ↓cAll, ↓cAny, ↓cSorted, ↓dIn, ↓dInX, ↓eM, ↓mIndex, ↓tyM, ↓gSq, ↓cSet, natc0, natc1, natc2, List.findIdx?_cons, List.findIdx?_nil, intsOf_ints, boolsOf_bls, plAnyI, plAnyR, ↓cGcd, ↓cLcm, ↓eRange, ↓eIsi, ↓Sl.val, ↓Ow.toD, ↓stE, ↓tYes', ↓eIxM, ↓sSetM, ↓PL.isNon, ↓eC, ↓bC, ↓dSub, ↓dMul, ↓dDiv, ↓dMod, ↓dPow, ↓dLt, ↓dLe, ↓dGt, ↓dGe, ↓dAddI, ↓dDivS, ↓dEqI, ↓dNeI,
  List.getElem?_cons_zero, List.getElem?_cons_succ, List.set_cons_zero, List.set_cons_succ, List.map_cons, List.map_nil, List.length_cons, List.length_nil, List.nil_append, List.cons_append, List.replicate_succ, List.replicate_zero, List.append_nil, atI0, atI1, atI2, atI3, atI4,
  cmpOk_int, cmpOk_bl, cmpOk_non, deq_int, deq_bl, true_and, and_true, Nat.reduceAdd, Nat.reduceSub, Nat.reduceLeDiff, Nat.reduceLT, Bool.not_eq_true', Bool.false_eq_true, if_false, if_true, decide_eq_true_eq, decide_eq_false_iff_not, Nat.zero_add, Nat.sub_zero, Nat.add_zero, Nat.sub_self, isi_non_bool, isi_non_int, isi_non_str, isi_non_list, isi_non_tuple, isi_bl_bool, isi_bl_int, isi_bl_str, isi_bl_list, isi_bl_tuple, isi_int_bool, isi_int_int, isi_int_str, isi_int_list, isi_int_tuple, isi_str_bool, isi_str_int, isi_str_str, isi_str_list, isi_str_tuple, isi_lst_bool, isi_lst_int, isi_lst_str, isi_lst_list, isi_lst_tuple, isi_tup_bool, isi_tup_int, isi_tup_str, isi_tup_list, isi_tup_tuple, ixN31, ixN32, List.length_map, List.length_set, Int.reduceToNat, Int.reducePow, Int.reduceNeg, Int.reduceAdd, Int.reduceSub, Int.reduceMul, Int.reduceLT, Int.reduceLE, Int.reduceEq, Nat.reduceEqDiff, reduceCtorEq, List.mem_singleton, eq_self, not_true_eq_false, not_false_eq_true, or_true, true_or, cmpOk_lstA, cmpOk_tupA, ckA_lst, ckA_tup, ckAl_nil, ckAl_cons, ckAl_ints, ckAl_rangeL, ck_int, ck_bl, ck_non, ck_strI, cmpOk_str, deq_str, deq_tup, deq_lst, deqA_nil, deqA_cons, deqA_ints, Bool.and_true, Bool.true_and, Bool.and_false, Bool.false_and, decide_true, decide_false, Bool.not_true, Bool.not_false, so0, sn0_1, sn0_2, sn0_3, so1, sn1_0, sn1_2, sn1_3, so2, sn2_0, sn2_1, sn2_3, so3, sn3_0, sn3_1, sn3_2, cat_BadSeries, hM, hL, mput_mput, hv]
    walk_at "sp"
    all_goals first
      | walk_at "cs"
      | exact hQ _ _ _ (em0 hn) (em1 hn) (by omega) (ed0 hn (by omega))
  · simp only [↓sSeq, ↓sAsg, ↓sRet, ↓sRetN, ↓sIf, ↓sDrop, ↓sPar, ↓sAug, ↓sNext, ↓sTgt, ↓sApp, ↓sExt, ↓sPop, ↓sSet, ↓sBreak, ↓sCont, ↓eVar, ↓bVar, ↓eMov, ↓bE, ↓eBin, ↓tE, ↓eChain_eq, chS_bl, chS_true, chS_false, wipeE_nil, wipeE_cons, ↓eUn, ↓qAnd, ↓qOr, ↓qNot, ↓eAnd_eq, ↓eOr_eq, ↓sNever, ↓eNot, ↓eIf, ↓aNil, ↓aCons, ↓aConsB, ↓eTup, ↓eLst, ↓iSeq, ↓iR1, ↓iR2, ↓iEnum1, ↓iRev1, ↓cSortD, ↓sAugIt, ↓cMinPr,  ↓gN, ↓gsNil, ↓gsCons, ↓gT, ↓eCall, ↓eCallX, ↓sRaise, ↓sTry, ↓dI2, ↓dAdd, ↓dEq, ↓dNe, ↓dIsN, ↓dNotN, ↓dIx, ↓oNone, ↓oSome, ↓eSl, ↓eB, ↓cLen, ↓cInt, ↓cAbs, ↓cMax2, ↓cMin2, ↓cDivmod, ↓cList, ↓cTuple, ↓cSum, ↓cMax, ↓cMin, ↓cAll, ↓cAny, ↓cSorted, ↓dIn, ↓dInX, ↓eM, ↓mIndex, ↓tyM, ↓gSq, ↓cSet, natc0, natc1, natc2, List.findIdx?_cons, List.findIdx?_nil, intsOf_ints, boolsOf_bls, plAnyI, plAnyR, ↓cGcd, ↓cLcm, ↓eRange, ↓eIsi, ↓Sl.val, ↓Ow.toD, ↓stE, ↓tYes', ↓eIxM, ↓sSetM, ↓PL.isNon, ↓eC, ↓bC, ↓dSub, ↓dMul, ↓dDiv, ↓dMod, ↓dPow, ↓dLt, ↓dLe, ↓dGt, ↓dGe, ↓dAddI, ↓dDivS, ↓dEqI, ↓dNeI,
  List.getElem?_cons_zero, List.getElem?_cons_succ, List.set_cons_zero, List.set_cons_succ, List.map_cons, List.map_nil, List.length_cons, List.length_nil, List.nil_append, List.cons_append, List.replicate_succ, List.replicate_zero, List.append_nil, atI0, atI1, atI2, atI3, atI4,
  cmpOk_int, cmpOk_bl, cmpOk_non, deq_int, deq_bl, true_and, and_true, Nat.reduceAdd, Nat.reduceSub, Nat.reduceLeDiff, Nat.reduceLT, Bool.not_eq_true', Bool.false_eq_true, if_false, if_true, decide_eq_true_eq, decide_eq_false_iff_not, Nat.zero_add, Nat.sub_zero, Nat.add_zero, Nat.sub_self, isi_non_bool, isi_non_int, isi_non_str, isi_non_list, isi_non_tuple, isi_bl_bool, isi_bl_int, isi_bl_str, isi_bl_list, isi_bl_tuple, isi_int_bool, isi_int_int, isi_int_str, isi_int_list, isi_int_tuple, isi_str_bool, isi_str_int, isi_str_str, isi_str_list, isi_str_tuple, isi_lst_bool, isi_lst_int, isi_lst_str, isi_lst_list, isi_lst_tuple, isi_tup_bool, isi_tup_int, isi_tup_str, isi_tup_list, isi_tup_tuple, ixN31, ixN32, List.length_map, List.length_set, Int.reduceToNat, Int.reducePow, Int.reduceNeg, Int.reduceAdd, Int.reduceSub, Int.reduceMul, Int.reduceLT, Int.reduceLE, Int.reduceEq, Nat.reduceEqDiff, reduceCtorEq, List.mem_singleton, eq_self, not_true_eq_false, not_false_eq_true, or_true, true_or, cmpOk_lstA, cmpOk_tupA, ckA_lst, ckA_tup, ckAl_nil, ckAl_cons, ckAl_ints, ckAl_rangeL, ck_int, ck_bl, ck_non, ck_strI, cmpOk_str, deq_str, deq_tup, deq_lst, deqA_nil, deqA_cons, deqA_ints, Bool.and_true, Bool.true_and, Bool.and_false, Bool.false_and, decide_true, decide_false, Bool.not_true, Bool.not_false, so0, sn0_1, sn0_2, sn0_3, so1, sn1_0, sn1_2, sn1_3, so2, sn2_0, sn2_1, sn2_3, so3, sn3_0, sn3_1, sn3_2, cat_BadSeries, hM, hL, mput_mput]
    walk_at "sp"
    all_goals first
      | walk_at "cs"
      | exact hQ _ _ _ (em0 hn) (em1 hn) (by omega) (ed0 hn (by omega))

theorem ok__law_tape (T : TF K mg) : FnOk P w K mg base CX0 1 T.a__law_tape T.x__law_tape ["script"] (spTape K) := by
  refine T.f__law_tape.ok sc__law_tape (fun vs H Q E ⟨a, ns, e, _⟩ => by rw [e]; rfl) (fun cdv A outer s H vs Q E hr ⟨a, ns, e, hS, q⟩ => ⟨_, PSs.nox (pss_one (ps_ret (pe_lst (pa_cons (pe_callTy call_list_of (by rfl) T.m_list (by decide +kernel) (pa_cons (pv 0) pa_nil)) (pa_cons pe_int (pa_cons pe_int pa_nil)))))), ?_⟩)
  subst e
  refine ⟨.ref a, rfl, a, _, rfl, .inl hS, fun c hc => ⟨by show 3 ≤ sizeLine; decide, fun p hp => ?_⟩⟩
  have hpc : p ≠ c := fun e => by rw [e, upd_same] at hp; cases hp
  have hp0 : H p = none := by rw [upd_ne hpc] at hp; exact hp
  exact q _ c p (fun b o e => by rw [upd_ne (ne_of_none e hp0), upd_ne (ne_of_none e hc)]; exact e) hc hp0 hpc (by rw [upd_ne hpc.symm, upd_same]) upd_same
theorem ok__law_mod (T : TF K mg) : FnOk P w K mg base CX0 1 T.a__law_mod T.x__law_mod ["a", "n"] (liP K p__law_mod) := by
  refine fn_P T.f__law_mod sc__law_mod (by intro ds M Q E h; unfold p__law_mod at h; split at h <;> first | rfl | exact h.elim) (fun cdv A outer s H E z hz hr => (qs_end (qs_ret (qe_bin ob_sub (qb_var 0) (qb_of (qe_bin ob_mul (qb_of (qe_bin ob_div (qb_var 0) (qb_var 1))) (qb_var 1))))))) ?_
  intro ds M Q0 h
  unfold p__law_mod at h
  split at h
  · skip
    obtain ⟨hn, h⟩ := h
    rename_i a n
    walk_at "pl"
    have e : a - a / n * n = a % n := by have := Int.emod_def a n; rw [Int.mul_comm] at this; omega
    rw [e]
    exact ⟨by walk_at "cs", by walk_at "cs", h⟩
  · exact h.elim

local macro_rules | `(tactic| walk_at "go") => `(tactic| repeat' (first | assumption | with_reducible apply And.intro | walk_at "cs"))
local macro_rules | `(tactic| walk_at "ex") => `(tactic| simp only [List.cons.injEq, Sl.va.injEq, Sl.ow.injEq, Ow.lst.injEq, D.int.injEq, D.bl.injEq, D.str.injEq, D.lst.injEq, D.tup.injEq, true_and, and_true])
local macro_rules | `(tactic| walk_at "gn") => `(tactic| simp only [↓gN, ↓gsNil, ↓gsCons, ↓gT, ↓gSq, List.length_cons, List.length_nil, Nat.reduceAdd, true_and, List.set_cons_zero, List.set_cons_succ])
local macro_rules | `(tactic| walk_at "sp") => `(tactic| repeat' (first | split | with_reducible apply And.intro))
local macro_rules | `(tactic| walk_at "cs") => `(tactic| first | (unfold CMulP; omega) | (unfold CPowP; omega) | (unfold CModP; omega) | (unfold CDivP; omega))
local macro_rules | `(tactic| walk_at "pl") => `(tactic| simp only [↓sSeq, ↓sAsg, ↓sRet, ↓sRetN, ↓sIf, ↓sDrop, ↓sPar, ↓sAug, ↓sNext, ↓sTgt, ↓sApp, ↓sExt, ↓sPop, ↓sSet, ↓sBreak, ↓sCont, ↓eVar, ↓bVar, ↓eMov, ↓bE, ↓eBin, ↓tE, ↓eChain_eq, chS_bl, chS_true, chS_false, wipeE_nil, wipeE_cons, ↓eUn, ↓qAnd, ↓qOr, ↓qNot, ↓eAnd_eq, ↓eOr_eq, ↓sNever, ↓eNot, ↓eIf, ↓aNil, ↓aCons, ↓aConsB, ↓eTup, ↓eLst, ↓iSeq, ↓iR1, ↓iR2, ↓iEnum1, ↓iRev1, ↓cSortD, ↓sAugIt, ↓cMinPr,  ↓gN, ↓gsNil, ↓gsCons, ↓gT, ↓eCall, ↓eCallX, ↓sRaise, ↓sTry, ↓dI2, ↓dAdd, ↓dEq, ↓dNe, ↓dIsN, ↓dNotN, ↓dIx, ↓oNone, ↓oSome, ↓eSl, ↓eB, ↓cLen, ↓cInt, ↓cAbs, ↓cMax2, ↓cMin2, ↓cDivmod, ↓cList, ↓cTuple, ↓cSum, ↓cMax, ↓cMin, ↓cAll, ↓cAny, ↓cSorted, ↓dIn, ↓dInX, ↓eM, ↓mIndex, ↓tyM, ↓gSq, ↓cSet, natc0, natc1, natc2, List.findIdx?_cons, List.findIdx?_nil, intsOf_ints, boolsOf_bls, plAnyI, plAnyR, ↓cGcd, ↓cLcm, ↓eRange, ↓eIsi, ↓Sl.val, ↓Ow.toD, ↓stE, ↓tYes', ↓eIxM, ↓sSetM, ↓PL.isNon, ↓eC, ↓bC, ↓dSub, ↓dMul, ↓dDiv, ↓dMod, ↓dPow, ↓dLt, ↓dLe, ↓dGt, ↓dGe, ↓dAddI, ↓dDivS, ↓dEqI, ↓dNeI,
  List.getElem?_cons_zero, List.getElem?_cons_succ, List.set_cons_zero, List.set_cons_succ, List.map_cons, List.map_nil, List.length_cons, List.length_nil, List.nil_append, List.cons_append, List.replicate_succ, List.replicate_zero, List.append_nil, atI0, atI1, atI2, atI3, atI4,
  cmpOk_int, cmpOk_bl, cmpOk_non, deq_int, deq_bl, true_and, and_true, Nat.reduceAdd, Nat.reduceSub, Nat.reduceLeDiff, Nat.reduceLT, Bool.not_eq_true', Bool.false_eq_true, if_false, if_true, decide_eq_true_eq, decide_eq_false_iff_not, Nat.zero_add, Nat.sub_zero, Nat.add_zero, Nat.sub_self, isi_non_bool, isi_non_int, isi_non_str, isi_non_list, isi_non_tuple, isi_bl_bool, isi_bl_int, isi_bl_str, isi_bl_list, isi_bl_tuple, isi_int_bool, isi_int_int, isi_int_str, isi_int_list, isi_int_tuple, isi_str_bool, isi_str_int, isi_str_str, isi_str_list, isi_str_tuple, isi_lst_bool, isi_lst_int, isi_lst_str, isi_lst_list, isi_lst_tuple, isi_tup_bool, isi_tup_int, isi_tup_str, isi_tup_list, isi_tup_tuple, ixN31, ixN32, List.length_map, List.length_set, Int.reduceToNat, Int.reducePow, Int.reduceNeg, Int.reduceAdd, Int.reduceSub, Int.reduceMul, Int.reduceLT, Int.reduceLE, Int.reduceEq, Nat.reduceEqDiff, reduceCtorEq, List.mem_singleton, eq_self, not_true_eq_false, not_false_eq_true, or_true, true_or, cmpOk_lstA, cmpOk_tupA, ckA_lst, ckA_tup, ckAl_nil, ckAl_cons, ckAl_ints, ckAl_rangeL, ck_int, ck_bl, ck_non, ck_strI, cmpOk_str, deq_str, deq_tup, deq_lst, deqA_nil, deqA_cons, deqA_ints, Bool.and_true, Bool.true_and, Bool.and_false, Bool.false_and, decide_true, decide_false, Bool.not_true, Bool.not_false, ↓p_primes_of, ↓p_repeats, so0, sn0_1, sn0_2, sn0_3, so1, sn1_0, sn1_2, sn1_3, so2, sn2_0, sn2_1, sn2_3, so3, sn3_0, sn3_1, sn3_2, cat_BadSeries])
theorem ok_shrunk (T : TF K mg) : FnOk P w K mg base CX0 2 T.a_shrunk T.x_shrunk ["period", "residues"] (liP K p_shrunk) := by
  refine fn_P T.f_shrunk sc_shrunk (by intro ds M Q E h; unfold p_shrunk at h; split at h <;> first | rfl | exact h.elim) (fun cdv A outer s H E z hz hr => (qs_cons (qs_for PassesOwn.never rfl (qi_seq (h := (qe_call (ok_primes_of T) hr (by rfl) T.g_primes_of T.f_primes_of.kp T.b_primes_of pass0 (qa_cons (qe_var 0) qa_nil)))) (qg_name (i := 2) sc_shrunk.nd rfl (by first | exact Or.inl rfl | exact Or.inr rfl))
    (qs_end (qs_while PassesOwn.never (PW.pt (qw_and (qt_cmp (ob_eq (hu64 hr)) (qb_of (qe_bin ob_mod (qb_var 0) (qb_var 2))) qb_int (nomark _)) (qw_and1 (qt_val (qe_call (ok_repeats T) hr (by rfl) T.g_repeats T.f_repeats.kp T.b_repeats pass0 (qa_cons (qe_var 0) (qa_cons (qe_var 1) (qa_cons (qe_bin ob_div (qb_var 0) (qb_var 2)) qa_nil))))))))
    (qs_cons (qs_aug (i := 0) sc_shrunk.nd rfl (by first | exact Or.inl rfl | exact Or.inr rfl) (qb_var 2) ib_div)
    (qs_end (qs_set (i := 1) sc_shrunk.nd rfl (by first | exact Or.inl rfl | exact Or.inr rfl) (qe_callTy cb_tuple (by rfl) T.m_tuple (by decide +kernel) (qab_cons (qb_of (qe_lc rfl sc_shrunk.nd (own := [("r", 3)]) (qi_seq (h := (qe_var 1))) (blkOk_by (own := [("r", 3)]) (N := N_shrunk) (sc := defScope s_shrunk) (by decide +kernel)) (fun _ _ _ _ _ z hz => (qg_name (i := 3) sc_shrunk.nd rfl (by first | exact Or.inl rfl | exact Or.inr rfl))) (fun _ _ _ _ _ => an_t1 fun z hz => (qt_cmp ob_lt (qb_var 3) (qb_var 0) (nomark _))) (fun _ _ _ _ _ z hz => (qe_var 3)))) qab_nil))))))))
    (qs_end (qs_ret (qe_tup (qa_cons (qe_var 0) (qa_cons (qe_var 1) qa_nil))))))) ?_
  intro ds M Q0 h
  unfold p_shrunk at h
  split at h
  · skip
    obtain ⟨ns0, rfl, ⟨hr, hb, hl⟩, h⟩ := h
    rename_i P0
    have hr : Res P0 ns0 := hr
    have hb : P0 < 1000000000 := hb
    have hl : ns0.length < 4000 := hl
    have hP0 := hr.1
    refine sSeq_i fun N1 h1 => ?_
    refine sFor_k fun N hN => ?_
    walk_at "pl"
    refine ⟨⟨by omega, by omega⟩, fun ps hps => hN _ _ _ ?_⟩
    refine loop_i (fun i ρ M1 => M1 = M ∧ ∃ (P : Int) (ns : List Int) (b : Sl), ρ = [.va (.int P), .va (.tup (ns.map D.int)), b, .un] ∧ Shr P0 ns0 (ps.take i) P ns) ⟨rfl, P0, ns0, .un, rfl, Shr.start hr⟩ ?_ ?_
    · rintro J hJ i dd ρ M1 hd ⟨e, P, ns, b, rfl, hs⟩
      subst e
      obtain ⟨p, rfl, hp⟩ := ints_get hd
      have hpp : IsPr p := ((hps.2 p).mp (List.mem_of_getElem? hp)).1
      have hp2 := hpp.1
      have hq : ∀ q ∈ ps.take i, 2 ≤ q := fun q hm => ((hps.2 q).mp (List.mem_of_mem_take hm)).1.1
      have hpl : p ≤ P0 := Int.le_of_dvd hP0 ((hps.2 p).mp (List.mem_of_getElem? hp)).2
      walk_at "gn"
      refine sWhile_i (fun m ρ M2 => M2 = M1 ∧ ∃ (P : Int) (ns : List Int), m = P.toNat ∧ ρ = [.va (.int P), .va (.tup (ns.map D.int)), .va (.int p), .un] ∧ Shr P0 ns0 (ps.take i) P ns) P.toNat ⟨rfl, P, ns, rfl, rfl, hs⟩ ?_
      clear hs
      rintro m J2 hJ2 ρ M2 ⟨e, P, ns, rfl, rfl, hs⟩
      subst e
      have hP := hs.res.1
      have hPl : P ≤ P0 := Int.le_of_dvd hP0 hs.dvd
      have hll := hs.len
      have nx : ¬ (p ∣ P ∧ Closed P ns (P / p)) → J (i + 1) [.va (.int P), .va (.tup (ns.map D.int)), .va (.int p), .un] M2 := fun w => by
        refine hJ _ _ _ ⟨rfl, P, ns, _, rfl, ?_⟩
        rw [List.take_add_one, hp]
        exact hs.next w
      walk_at "pl"
      refine ⟨by walk_at "cs", ?_⟩
      by_cases c1 : P % p = 0
      · rw [if_pos c1]
        have hd1 := Int.dvd_of_emod_eq_zero c1
        have hk1 : 0 < P / p := Int.ediv_pos_of_pos_of_dvd hP (by omega) hd1
        have hk2 : P / p ∣ P := Int.ediv_dvd_of_dvd hd1
        refine ⟨by walk_at "cs", ns, rfl, ⟨hs.res, by omega, hk2, by omega, by omega⟩, ?_⟩
        by_cases c2 : Closed P ns (P / p)
        · rw [if_pos (by simpa using c2)]
          obtain ⟨u1, u2, u3⟩ := hs.cut hp2 hd1 c2 hq
          refine ⟨⟨by omega, by omega⟩, ?_⟩
          refine eLc_fm (pickI fun r => r < P / p) (ns.map D.int) (fun Q h => by walk_at "pl"; exact h) rfl (by rw [List.length_map]; omega) ?_ ?_
          · intro i d acc J hd2 hl2 hJ
            obtain ⟨v, rfl, _⟩ := ints_get hd2
            walk_at "pl"
            exact pickI_J hl2 hJ
          rw [pickI_map]
          walk_at "pl"
          exact hJ2 (P / p).toNat _ _ (by omega) ⟨rfl, P / p, _, rfl, rfl, u3⟩
        · rw [if_neg (by simpa using c2)]
          exact nx fun w => c2 w.2
      · rw [if_neg c1]
        exact nx fun w => c1 (Int.emod_eq_zero_of_dvd w.1)
    · rintro ρ M1 ⟨e, P, ns, b, rfl, hs⟩
      subst e
      refine h1 _ _ ?_
      rw [List.length_map, List.take_length] at hs
      walk_at "pl"
      exact h P ns hs.res (Int.le_of_dvd hP0 hs.dvd) hs.same hs.len (hs.mini hps)
  · exact h.elim

local macro_rules | `(tactic| walk_at "go") => `(tactic| repeat' (first | assumption | with_reducible apply And.intro | walk_at "cs"))
local macro_rules | `(tactic| walk_at "ex") => `(tactic| simp only [List.cons.injEq, Sl.va.injEq, Sl.ow.injEq, Ow.lst.injEq, D.int.injEq, D.bl.injEq, D.str.injEq, D.lst.injEq, D.tup.injEq, true_and, and_true])
local macro_rules | `(tactic| walk_at "gn") => `(tactic| simp only [↓gN, ↓gsNil, ↓gsCons, ↓gT, ↓gSq, List.length_cons, List.length_nil, Nat.reduceAdd, true_and, List.set_cons_zero, List.set_cons_succ])
local macro_rules | `(tactic| walk_at "sp") => `(tactic| repeat' (first | split | with_reducible apply And.intro))
local macro_rules | `(tactic| walk_at "cs") => `(tactic| first | (unfold CMulP; omega) | (unfold CPowP; omega) | (unfold CModP; omega) | (unfold CDivP; omega))
local macro_rules | `(tactic| walk_at "pl") => `(tactic| simp only [↓sSeq, ↓sAsg, ↓sRet, ↓sRetN, ↓sIf, ↓sDrop, ↓sPar, ↓sAug, ↓sNext, ↓sTgt, ↓sApp, ↓sExt, ↓sPop, ↓sSet, ↓sBreak, ↓sCont, ↓eVar, ↓bVar, ↓eMov, ↓bE, ↓eBin, ↓tE, ↓eChain_eq, chS_bl, chS_true, chS_false, wipeE_nil, wipeE_cons, ↓eUn, ↓qAnd, ↓qOr, ↓qNot, ↓eAnd_eq, ↓eOr_eq, ↓sNever, ↓eNot, ↓eIf, ↓aNil, ↓aCons, ↓aConsB, ↓eTup, ↓eLst, ↓iSeq, ↓iR1, ↓iR2, ↓iEnum1, ↓iRev1, ↓cSortD, ↓sAugIt, ↓cMinPr,  ↓gN, ↓gsNil, ↓gsCons, ↓gT, ↓eCall, ↓eCallX, ↓sRaise, ↓sTry, ↓dI2, ↓dAdd, ↓dEq, ↓dNe, ↓dIsN, ↓dNotN, ↓dIx, ↓oNone, ↓oSome, ↓eSl, ↓eB, ↓cLen, ↓cInt, ↓cAbs, ↓cMax2, ↓cMin2, ↓cDivmod, ↓cList, ↓cTuple, ↓cSum, ↓cMax, ↓cMin, ↓cAll, ↓cAny, ↓cSorted, ↓dIn, ↓dInX, ↓eM, ↓mIndex, ↓tyM, ↓gSq, ↓cSet, natc0, natc1, natc2, List.findIdx?_cons, List.findIdx?_nil, intsOf_ints, boolsOf_bls, plAnyI, plAnyR, ↓cGcd, ↓cLcm, ↓eRange, ↓eIsi, ↓Sl.val, ↓Ow.toD, ↓stE, ↓tYes', ↓eIxM, ↓sSetM, ↓PL.isNon, ↓eC, ↓bC, ↓dSub, ↓dMul, ↓dDiv, ↓dMod, ↓dPow, ↓dLt, ↓dLe, ↓dGt, ↓dGe, ↓dAddI, ↓dDivS, ↓dEqI, ↓dNeI,
  List.getElem?_cons_zero, List.getElem?_cons_succ, List.set_cons_zero, List.set_cons_succ, List.map_cons, List.map_nil, List.length_cons, List.length_nil, List.nil_append, List.cons_append, List.replicate_succ, List.replicate_zero, List.append_nil, atI0, atI1, atI2, atI3, atI4,
  cmpOk_int, cmpOk_bl, cmpOk_non, deq_int, deq_bl, true_and, and_true, Nat.reduceAdd, Nat.reduceSub, Nat.reduceLeDiff, Nat.reduceLT, Bool.not_eq_true', Bool.false_eq_true, if_false, if_true, decide_eq_true_eq, decide_eq_false_iff_not, Nat.zero_add, Nat.sub_zero, Nat.add_zero, Nat.sub_self, isi_non_bool, isi_non_int, isi_non_str, isi_non_list, isi_non_tuple, isi_bl_bool, isi_bl_int, isi_bl_str, isi_bl_list, isi_bl_tuple, isi_int_bool, isi_int_int, isi_int_str, isi_int_list, isi_int_tuple, isi_str_bool, isi_str_int, isi_str_str, isi_str_list, isi_str_tuple, isi_lst_bool, isi_lst_int, isi_lst_str, isi_lst_list, isi_lst_tuple, isi_tup_bool, isi_tup_int, isi_tup_str, isi_tup_list, isi_tup_tuple, ixN31, ixN32, List.length_map, List.length_set, Int.reduceToNat, Int.reducePow, Int.reduceNeg, Int.reduceAdd, Int.reduceSub, Int.reduceMul, Int.reduceLT, Int.reduceLE, Int.reduceEq, Nat.reduceEqDiff, reduceCtorEq, List.mem_singleton, eq_self, not_true_eq_false, not_false_eq_true, or_true, true_or, cmpOk_lstA, cmpOk_tupA, ckA_lst, ckA_tup, ckAl_nil, ckAl_cons, ckAl_ints, ckAl_rangeL, ck_int, ck_bl, ck_non, ck_strI, cmpOk_str, deq_str, deq_tup, deq_lst, deqA_nil, deqA_cons, deqA_ints, Bool.and_true, Bool.true_and, Bool.and_false, Bool.false_and, decide_true, decide_false, Bool.not_true, Bool.not_false, ↓p_place_in, so0, sn0_1, sn0_2, sn0_3, so1, sn1_0, sn1_2, sn1_3, so2, sn2_0, sn2_1, sn2_3, so3, sn3_0, sn3_1, sn3_2, cat_BadSeries])
theorem ok_has (T : TF K mg) : FnOk P w K mg base CX0 2 T.a_has T.x_has ["period", "residues", "d"] (liP K p_has) := by
  refine fn_P T.f_has sc_has (by intro ds M Q E h; unfold p_has at h; split at h <;> first | rfl | exact h.elim) (fun cdv A outer s H E z hz hr => (qs_cons (qs_set (i := 3) sc_has.nd rfl (by first | exact Or.inl rfl | exact Or.inr rfl) (qe_bin ob_mod (qb_var 2) (qb_var 0)))
    (qs_cons (qs_set (i := 4) sc_has.nd rfl (by first | exact Or.inl rfl | exact Or.inr rfl) (qe_call (ok_place_in T) hr (by rfl) T.g_place_in T.f_place_in.kp T.b_place_in pass0 (qa_cons (qe_var 1) (qa_cons (qe_var 3) qa_nil))))
    (qs_end (qs_ret (qe_and (qe_cmp ob_lt (qb_var 4) (qb_of (qe_callB cb_len (by rfl) T.m_len (by decide +kernel) (qab_cons (qb_var 1) qab_nil))) (nomark _)) (qe_one (qe_cmp (ob_eq (hu64 hr)) (qb_of (qe_ix (qb_var 1) (qb_var 4))) (qb_var 3) (nomark _))))))))) ?_
  intro ds M Q0 h
  unfold p_has at h
  split at h
  · skip
    obtain ⟨ns, rfl, ha, hp, h⟩ := h
    rename_i p d
    walk_at "pl"
    refine ⟨hp, ns, rfl, ha, ?_⟩
    have hb := cntL_le (ns := ns) (r := d % p)
    by_cases c : cntL ns (d % p) < ns.length
    · rw [if_pos (by simpa using c)]
      obtain ⟨v, hv, hv2⟩ := at_ints (ns := ns) (i := cntL ns (d % p)) (by omega) c
      simp only [hv2]
      simp only [↓sSeq, ↓sAsg, ↓sRet, ↓sRetN, ↓sIf, ↓sDrop, ↓sPar, ↓sAug, ↓sNext, ↓sTgt, ↓sApp, ↓sExt, ↓sPop, ↓sSet, ↓sBreak, ↓sCont, ↓eVar, ↓bVar, ↓eMov, ↓bE, ↓eBin, ↓tE, ↓eChain_eq, chS_bl, chS_true, chS_false, wipeE_nil, wipeE_cons, ↓eUn, ↓qAnd, ↓qOr, ↓qNot, ↓eAnd_eq, ↓eOr_eq, ↓sNever, ↓eNot, ↓eIf, ↓aNil, ↓aCons, ↓aConsB, ↓eTup, ↓eLst, ↓iSeq, ↓iR1, ↓iR2, ↓iEnum1, ↓iRev1, ↓cSortD, ↓sAugIt, ↓cMinPr,  ↓gN, ↓gsNil, ↓gsCons, ↓gT, ↓eCall, ↓eCallX, ↓sRaise, ↓sTry, ↓dI2, ↓dAdd, ↓dEq, ↓dNe, ↓dIsN, ↓dNotN, ↓dIx, ↓oNone, ↓oSome, ↓eSl, ↓eB, ↓cLen, ↓cInt, ↓cAbs, ↓cMax2, ↓cMin2, ↓cDivmod, ↓cList, ↓cTuple, ↓cSum, ↓cMax, ↓cMin, ↓cAll, ↓cAny, ↓cSorted, ↓dIn, ↓dInX, ↓eM, ↓mIndex, ↓tyM, ↓gSq, ↓cSet, natc0, natc1, natc2, List.findIdx?_cons, List.findIdx?_nil, intsOf_ints, boolsOf_bls, plAnyI, plAnyR, ↓cGcd, ↓cLcm, ↓eRange, ↓eIsi, ↓Sl.val, ↓Ow.toD, ↓stE, ↓tYes', ↓eIxM, ↓sSetM, ↓PL.isNon, ↓eC, ↓bC, ↓dSub, ↓dMul, ↓dDiv, ↓dMod, ↓dPow, ↓dLt, ↓dLe, ↓dGt, ↓dGe, ↓dAddI, ↓dDivS, ↓dEqI, ↓dNeI,
  List.getElem?_cons_zero, List.getElem?_cons_succ, List.set_cons_zero, List.set_cons_succ, List.map_cons, List.map_nil, List.length_cons, List.length_nil, List.nil_append, List.cons_append, List.replicate_succ, List.replicate_zero, List.append_nil, atI0, atI1, atI2, atI3, atI4,
  cmpOk_int, cmpOk_bl, cmpOk_non, deq_int, deq_bl, true_and, and_true, Nat.reduceAdd, Nat.reduceSub, Nat.reduceLeDiff, Nat.reduceLT, Bool.not_eq_true', Bool.false_eq_true, if_false, if_true, decide_eq_true_eq, decide_eq_false_iff_not, Nat.zero_add, Nat.sub_zero, Nat.add_zero, Nat.sub_self, isi_non_bool, isi_non_int, isi_non_str, isi_non_list, isi_non_tuple, isi_bl_bool, isi_bl_int, isi_bl_str, isi_bl_list, isi_bl_tuple, isi_int_bool, isi_int_int, isi_int_str, isi_int_list, isi_int_tuple, isi_str_bool, isi_str_int, isi_str_str, isi_str_list, isi_str_tuple, isi_lst_bool, isi_lst_int, isi_lst_str, isi_lst_list, isi_lst_tuple, isi_tup_bool, isi_tup_int, isi_tup_str, isi_tup_list, isi_tup_tuple, ixN31, ixN32, List.length_map, List.length_set, Int.reduceToNat, Int.reducePow, Int.reduceNeg, Int.reduceAdd, Int.reduceSub, Int.reduceMul, Int.reduceLT, Int.reduceLE, Int.reduceEq, Nat.reduceEqDiff, reduceCtorEq, List.mem_singleton, eq_self, not_true_eq_false, not_false_eq_true, or_true, true_or, cmpOk_lstA, cmpOk_tupA, ckA_lst, ckA_tup, ckAl_nil, ckAl_cons, ckAl_ints, ckAl_rangeL, ck_int, ck_bl, ck_non, ck_strI, cmpOk_str, deq_str, deq_tup, deq_lst, deqA_nil, deqA_cons, deqA_ints, Bool.and_true, Bool.true_and, Bool.and_false, Bool.false_and, decide_true, decide_false, Bool.not_true, Bool.not_false, ↓p_place_in, so0, sn0_1, sn0_2, sn0_3, so1, sn1_0, sn1_2, sn1_3, so2, sn2_0, sn2_1, sn2_3, so3, sn3_0, sn3_1, sn3_2, cat_BadSeries]
      have e : decide (d % p ∈ ns) = decide (v = d % p) := by
        apply decide_eq_decide.mpr
        rw [cntL_mem ha]
        constructor
        · rintro ⟨k, e1, e2⟩
          rw [← e1, Int.toNat_natCast, e2] at hv
          exact (Option.some.inj hv).symm
        · intro e
          exact ⟨(cntL ns (d % p)).toNat, by omega, by rw [hv, e]⟩
      rw [e] at h
      exact h
    · rw [if_neg (by simpa using c)]
      have e : decide (d % p ∈ ns) = false := by
        apply decide_eq_false
        rw [cntL_mem ha]
        rintro ⟨k, e1, e2⟩
        obtain ⟨h3, _⟩ := List.getElem?_eq_some_iff.mp e2
        omega
      rw [e] at h
      exact h
  · exact h.elim

local macro_rules | `(tactic| walk_at "go") => `(tactic| repeat' (first | assumption | with_reducible apply And.intro | walk_at "cs"))
local macro_rules | `(tactic| walk_at "ex") => `(tactic| simp only [List.cons.injEq, Sl.va.injEq, Sl.ow.injEq, Ow.lst.injEq, D.int.injEq, D.bl.injEq, D.str.injEq, D.lst.injEq, D.tup.injEq, true_and, and_true])
local macro_rules | `(tactic| walk_at "gn") => `(tactic| simp only [↓gN, ↓gsNil, ↓gsCons, ↓gT, ↓gSq, List.length_cons, List.length_nil, Nat.reduceAdd, true_and, List.set_cons_zero, List.set_cons_succ])
local macro_rules | `(tactic| walk_at "sp") => `(tactic| repeat' (first | split | with_reducible apply And.intro))
local macro_rules | `(tactic| walk_at "cs") => `(tactic| first | (unfold CMulP; omega) | (unfold CPowP; omega) | (unfold CModP; omega) | (unfold CDivP; omega))
local macro_rules | `(tactic| walk_at "pl") => `(tactic| simp only [↓sSeq, ↓sAsg, ↓sRet, ↓sRetN, ↓sIf, ↓sDrop, ↓sPar, ↓sAug, ↓sNext, ↓sTgt, ↓sApp, ↓sExt, ↓sPop, ↓sSet, ↓sBreak, ↓sCont, ↓eVar, ↓bVar, ↓eMov, ↓bE, ↓eBin, ↓tE, ↓eChain_eq, chS_bl, chS_true, chS_false, wipeE_nil, wipeE_cons, ↓eUn, ↓qAnd, ↓qOr, ↓qNot, ↓eAnd_eq, ↓eOr_eq, ↓sNever, ↓eNot, ↓eIf, ↓aNil, ↓aCons, ↓aConsB, ↓eTup, ↓eLst, ↓iSeq, ↓iR1, ↓iR2, ↓iEnum1, ↓iRev1, ↓cSortD, ↓sAugIt, ↓cMinPr,  ↓gN, ↓gsNil, ↓gsCons, ↓gT, ↓eCall, ↓eCallX, ↓sRaise, ↓sTry, ↓dI2, ↓dAdd, ↓dEq, ↓dNe, ↓dIsN, ↓dNotN, ↓dIx, ↓oNone, ↓oSome, ↓eSl, ↓eB, ↓cLen, ↓cInt, ↓cAbs, ↓cMax2, ↓cMin2, ↓cDivmod, ↓cList, ↓cTuple, ↓cSum, ↓cMax, ↓cMin, ↓cAll, ↓cAny, ↓cSorted, ↓dIn, ↓dInX, ↓eM, ↓mIndex, ↓tyM, ↓gSq, ↓cSet, natc0, natc1, natc2, List.findIdx?_cons, List.findIdx?_nil, intsOf_ints, boolsOf_bls, plAnyI, plAnyR, ↓cGcd, ↓cLcm, ↓eRange, ↓eIsi, ↓Sl.val, ↓Ow.toD, ↓stE, ↓tYes', ↓eIxM, ↓sSetM, ↓PL.isNon, ↓eC, ↓bC, ↓dSub, ↓dMul, ↓dDiv, ↓dMod, ↓dPow, ↓dLt, ↓dLe, ↓dGt, ↓dGe, ↓dAddI, ↓dDivS, ↓dEqI, ↓dNeI,
  List.getElem?_cons_zero, List.getElem?_cons_succ, List.set_cons_zero, List.set_cons_succ, List.map_cons, List.map_nil, List.length_cons, List.length_nil, List.nil_append, List.cons_append, List.replicate_succ, List.replicate_zero, List.append_nil, atI0, atI1, atI2, atI3, atI4,
  cmpOk_int, cmpOk_bl, cmpOk_non, deq_int, deq_bl, true_and, and_true, Nat.reduceAdd, Nat.reduceSub, Nat.reduceLeDiff, Nat.reduceLT, Bool.not_eq_true', Bool.false_eq_true, if_false, if_true, decide_eq_true_eq, decide_eq_false_iff_not, Nat.zero_add, Nat.sub_zero, Nat.add_zero, Nat.sub_self, isi_non_bool, isi_non_int, isi_non_str, isi_non_list, isi_non_tuple, isi_bl_bool, isi_bl_int, isi_bl_str, isi_bl_list, isi_bl_tuple, isi_int_bool, isi_int_int, isi_int_str, isi_int_list, isi_int_tuple, isi_str_bool, isi_str_int, isi_str_str, isi_str_list, isi_str_tuple, isi_lst_bool, isi_lst_int, isi_lst_str, isi_lst_list, isi_lst_tuple, isi_tup_bool, isi_tup_int, isi_tup_str, isi_tup_list, isi_tup_tuple, ixN31, ixN32, List.length_map, List.length_set, Int.reduceToNat, Int.reducePow, Int.reduceNeg, Int.reduceAdd, Int.reduceSub, Int.reduceMul, Int.reduceLT, Int.reduceLE, Int.reduceEq, Nat.reduceEqDiff, reduceCtorEq, List.mem_singleton, eq_self, not_true_eq_false, not_false_eq_true, or_true, true_or, cmpOk_lstA, cmpOk_tupA, ckA_lst, ckA_tup, ckAl_nil, ckAl_cons, ckAl_ints, ckAl_rangeL, ck_int, ck_bl, ck_non, ck_strI, cmpOk_str, deq_str, deq_tup, deq_lst, deqA_nil, deqA_cons, deqA_ints, Bool.and_true, Bool.true_and, Bool.and_false, Bool.false_and, decide_true, decide_false, Bool.not_true, Bool.not_false, ↓p_place_in, so0, sn0_1, sn0_2, sn0_3, so1, sn1_0, sn1_2, sn1_3, so2, sn2_0, sn2_1, sn2_3, so3, sn3_0, sn3_1, sn3_2, cat_BadSeries])
theorem ok_first_from (T : TF K mg) : FnOk P w K mg base CX0 2 T.a_first_from T.x_first_from ["period", "residues", "d"] (liP K p_first_from) := by
  refine fn_P T.f_first_from sc_first_from (by intro ds M Q E h; unfold p_first_from at h; split at h <;> first | rfl | exact h.elim) (fun cdv A outer s H E z hz hr => (qs_cons (qs_set (i := 3) sc_first_from.nd rfl (by first | exact Or.inl rfl | exact Or.inr rfl) (qe_bin ob_sub (qb_var 2) (qb_of (qe_bin ob_mod (qb_var 2) (qb_var 0)))))
    (qs_cons (qs_set (i := 4) sc_first_from.nd rfl (by first | exact Or.inl rfl | exact Or.inr rfl) (qe_call (ok_place_in T) hr (by rfl) T.g_place_in T.f_place_in.kp T.b_place_in pass0 (qa_cons (qe_var 1) (qa_cons (qe_bin ob_mod (qb_var 2) (qb_var 0)) qa_nil))))
    (qs_cons (qs_if (qt_cmp ob_lt (qb_var 4) (qb_of (qe_callB cb_len (by rfl) T.m_len (by decide +kernel) (qab_cons (qb_var 1) qab_nil))) (nomark _))
    (qs_end (qs_ret (qe_bin ob_add (qb_var 3) (qb_of (qe_ix (qb_var 1) (qb_var 4))))))
    qs_nil)
    (qs_end (qs_ret (qe_bin ob_add (qb_of (qe_bin ob_add (qb_var 3) (qb_var 0))) (qb_of (qe_ix (qb_var 1) qb_int))))))))) ?_
  intro ds M Q0 h
  unfold p_first_from at h
  split at h
  · skip
    obtain ⟨ns, rfl, ha, hp, h⟩ := h
    rename_i p d
    walk_at "pl"
    refine ⟨by walk_at "cs", by walk_at "cs", ns, rfl, ha, ?_⟩
    have hb := cntL_le (ns := ns) (r := d % p)
    unfold nextR at h
    by_cases c : cntL ns (d % p) < ns.length
    · rw [if_pos c] at h ⊢
      obtain ⟨v, hv, hv2⟩ := at_ints (ns := ns) (i := cntL ns (d % p)) (by omega) c
      simp only [hv2]
      rw [List.getD_eq_getElem?_getD, hv] at h
      exact h
    · rw [if_neg c] at h ⊢
      obtain ⟨v, hv, hv2⟩ := at_ints (ns := ns) (i := 0) (by omega) (by omega)
      simp only [hv2]
      rw [List.getD_eq_getElem?_getD, show ns[0]? = some v from hv] at h
      exact h
  · exact h.elim

local macro_rules | `(tactic| walk_at "go") => `(tactic| repeat' (first | assumption | with_reducible apply And.intro | walk_at "cs"))
local macro_rules | `(tactic| walk_at "ex") => `(tactic| simp only [List.cons.injEq, Sl.va.injEq, Sl.ow.injEq, Ow.lst.injEq, D.int.injEq, D.bl.injEq, D.str.injEq, D.lst.injEq, D.tup.injEq, true_and, and_true])
local macro_rules | `(tactic| walk_at "gn") => `(tactic| simp only [↓gN, ↓gsNil, ↓gsCons, ↓gT, ↓gSq, List.length_cons, List.length_nil, Nat.reduceAdd, true_and, List.set_cons_zero, List.set_cons_succ])
local macro_rules | `(tactic| walk_at "sp") => `(tactic| repeat' (first | split | with_reducible apply And.intro))
local macro_rules | `(tactic| walk_at "cs") => `(tactic| first | (unfold CMulP; omega) | (unfold CPowP; omega) | (unfold CModP; omega) | (unfold CDivP; omega))
local macro_rules | `(tactic| walk_at "pl") => `(tactic| simp only [↓sSeq, ↓sAsg, ↓sRet, ↓sRetN, ↓sIf, ↓sDrop, ↓sPar, ↓sAug, ↓sNext, ↓sTgt, ↓sApp, ↓sExt, ↓sPop, ↓sSet, ↓sBreak, ↓sCont, ↓eVar, ↓bVar, ↓eMov, ↓bE, ↓eBin, ↓tE, ↓eChain_eq, chS_bl, chS_true, chS_false, wipeE_nil, wipeE_cons, ↓eUn, ↓qAnd, ↓qOr, ↓qNot, ↓eAnd_eq, ↓eOr_eq, ↓sNever, ↓eNot, ↓eIf, ↓aNil, ↓aCons, ↓aConsB, ↓eTup, ↓eLst, ↓iSeq, ↓iR1, ↓iR2, ↓iEnum1, ↓iRev1, ↓cSortD, ↓sAugIt, ↓cMinPr,  ↓gN, ↓gsNil, ↓gsCons, ↓gT, ↓eCall, ↓eCallX, ↓sRaise, ↓sTry, ↓dI2, ↓dAdd, ↓dEq, ↓dNe, ↓dIsN, ↓dNotN, ↓dIx, ↓oNone, ↓oSome, ↓eSl, ↓eB, ↓cLen, ↓cInt, ↓cAbs, ↓cMax2, ↓cMin2, ↓cDivmod, ↓cList, ↓cTuple, ↓cSum, ↓cMax, ↓cMin, ↓cAll, ↓cAny, ↓cSorted, ↓dIn, ↓dInX, ↓eM, ↓mIndex, ↓tyM, ↓gSq, ↓cSet, natc0, natc1, natc2, List.findIdx?_cons, List.findIdx?_nil, intsOf_ints, boolsOf_bls, plAnyI, plAnyR, ↓cGcd, ↓cLcm, ↓eRange, ↓eIsi, ↓Sl.val, ↓Ow.toD, ↓stE, ↓tYes', ↓eIxM, ↓sSetM, ↓PL.isNon, ↓eC, ↓bC, ↓dSub, ↓dMul, ↓dDiv, ↓dMod, ↓dPow, ↓dLt, ↓dLe, ↓dGt, ↓dGe, ↓dAddI, ↓dDivS, ↓dEqI, ↓dNeI,
  List.getElem?_cons_zero, List.getElem?_cons_succ, List.set_cons_zero, List.set_cons_succ, List.map_cons, List.map_nil, List.length_cons, List.length_nil, List.nil_append, List.cons_append, List.replicate_succ, List.replicate_zero, List.append_nil, atI0, atI1, atI2, atI3, atI4,
  cmpOk_int, cmpOk_bl, cmpOk_non, deq_int, deq_bl, true_and, and_true, Nat.reduceAdd, Nat.reduceSub, Nat.reduceLeDiff, Nat.reduceLT, Bool.not_eq_true', Bool.false_eq_true, if_false, if_true, decide_eq_true_eq, decide_eq_false_iff_not, Nat.zero_add, Nat.sub_zero, Nat.add_zero, Nat.sub_self, isi_non_bool, isi_non_int, isi_non_str, isi_non_list, isi_non_tuple, isi_bl_bool, isi_bl_int, isi_bl_str, isi_bl_list, isi_bl_tuple, isi_int_bool, isi_int_int, isi_int_str, isi_int_list, isi_int_tuple, isi_str_bool, isi_str_int, isi_str_str, isi_str_list, isi_str_tuple, isi_lst_bool, isi_lst_int, isi_lst_str, isi_lst_list, isi_lst_tuple, isi_tup_bool, isi_tup_int, isi_tup_str, isi_tup_list, isi_tup_tuple, ixN31, ixN32, List.length_map, List.length_set, Int.reduceToNat, Int.reducePow, Int.reduceNeg, Int.reduceAdd, Int.reduceSub, Int.reduceMul, Int.reduceLT, Int.reduceLE, Int.reduceEq, Nat.reduceEqDiff, reduceCtorEq, List.mem_singleton, eq_self, not_true_eq_false, not_false_eq_true, or_true, true_or, cmpOk_lstA, cmpOk_tupA, ckA_lst, ckA_tup, ckAl_nil, ckAl_cons, ckAl_ints, ckAl_rangeL, ck_int, ck_bl, ck_non, ck_strI, cmpOk_str, deq_str, deq_tup, deq_lst, deqA_nil, deqA_cons, deqA_ints, Bool.and_true, Bool.true_and, Bool.and_false, Bool.false_and, decide_true, decide_false, Bool.not_true, Bool.not_false, ↓p_loads_of, so0, sn0_1, sn0_2, sn0_3, so1, sn1_0, sn1_2, sn1_3, so2, sn2_0, sn2_1, sn2_3, so3, sn3_0, sn3_1, sn3_2, cat_BadSeries])
theorem ok_spread_of (T : TF K mg) : FnOk P w K mg base CX0 2 T.a_spread_of T.x_spread_of ["dealt", "names"] (liP K p_spread_of) := by
  refine fn_P T.f_spread_of sc_spread_of (by intro ds M Q E h; unfold p_spread_of at h; split at h <;> first | rfl | exact h.elim) (fun cdv A outer s H E z hz hr => (qs_cons (qs_set (i := 2) sc_spread_of.nd rfl (by first | exact Or.inl rfl | exact Or.inr rfl) (qe_call (ok_loads_of T) hr (by rfl) T.g_loads_of T.f_loads_of.kp T.b_loads_of pass0 (qa_cons (qe_var 0) (qa_cons (qe_var 1) qa_nil))))
    (qs_end (qs_ret (qe_bin ob_sub (qb_of (qe_callB (cb_max rfl) (by rfl) T.m_max (by decide +kernel) (qab_cons (qb_var 2) qab_nil))) (qb_of (qe_callB (cb_min rfl) (by rfl) T.m_min (by decide +kernel) (qab_cons (qb_var 2) qab_nil)))))))) ?_
  intro ds M Q0 h
  unfold p_spread_of at h
  split at h
  · skip
    obtain ⟨rows, ss, rfl, rfl, ⟨hr, hs, hno, hso⟩, hn, h⟩ := h
    refine sSeq_i fun N1 h1 => ?_
    walk_at "pl"
    refine ⟨rows, ss, rfl, rfl, ⟨hr, hs, hno, hso⟩, h1 _ _ ?_⟩
    clear h1
    simp only [↓sSeq, ↓sAsg, ↓sRet, ↓sRetN, ↓sIf, ↓sDrop, ↓sPar, ↓sAug, ↓sNext, ↓sTgt, ↓sApp, ↓sExt, ↓sPop, ↓sSet, ↓sBreak, ↓sCont, ↓eVar, ↓bVar, ↓eMov, ↓bE, ↓eBin, ↓tE, ↓eChain_eq, chS_bl, chS_true, chS_false, wipeE_nil, wipeE_cons, ↓eUn, ↓qAnd, ↓qOr, ↓qNot, ↓eAnd_eq, ↓eOr_eq, ↓sNever, ↓eNot, ↓eIf, ↓aNil, ↓aCons, ↓aConsB, ↓eTup, ↓eLst, ↓iSeq, ↓iR1, ↓iR2, ↓iEnum1, ↓iRev1, ↓cSortD, ↓sAugIt, ↓cMinPr,  ↓gN, ↓gsNil, ↓gsCons, ↓gT, ↓eCall, ↓eCallX, ↓sRaise, ↓sTry, ↓dI2, ↓dAdd, ↓dEq, ↓dNe, ↓dIsN, ↓dNotN, ↓dIx, ↓oNone, ↓oSome, ↓eSl, ↓eB, ↓cLen, ↓cInt, ↓cAbs, ↓cMax2, ↓cMin2, ↓cDivmod, ↓cList, ↓cTuple, ↓cSum, ↓cMax, ↓cMin, ↓cAll, ↓cAny, ↓cSorted, ↓dIn, ↓dInX, ↓eM, ↓mIndex, ↓tyM, ↓gSq, ↓cSet, natc0, natc1, natc2, List.findIdx?_cons, List.findIdx?_nil, intsOf_ints, boolsOf_bls, plAnyI, plAnyR, ↓cGcd, ↓cLcm, ↓eRange, ↓eIsi, ↓Sl.val, ↓Ow.toD, ↓stE, ↓tYes', ↓eIxM, ↓sSetM, ↓PL.isNon, ↓eC, ↓bC, ↓dSub, ↓dMul, ↓dDiv, ↓dMod, ↓dPow, ↓dLt, ↓dLe, ↓dGt, ↓dGe, ↓dAddI, ↓dDivS, ↓dEqI, ↓dNeI,
  List.getElem?_cons_zero, List.getElem?_cons_succ, List.set_cons_zero, List.set_cons_succ, List.map_cons, List.map_nil, List.length_cons, List.length_nil, List.nil_append, List.cons_append, List.replicate_succ, List.replicate_zero, List.append_nil, atI0, atI1, atI2, atI3, atI4,
  cmpOk_int, cmpOk_bl, cmpOk_non, deq_int, deq_bl, true_and, and_true, Nat.reduceAdd, Nat.reduceSub, Nat.reduceLeDiff, Nat.reduceLT, Bool.not_eq_true', Bool.false_eq_true, if_false, if_true, decide_eq_true_eq, decide_eq_false_iff_not, Nat.zero_add, Nat.sub_zero, Nat.add_zero, Nat.sub_self, isi_non_bool, isi_non_int, isi_non_str, isi_non_list, isi_non_tuple, isi_bl_bool, isi_bl_int, isi_bl_str, isi_bl_list, isi_bl_tuple, isi_int_bool, isi_int_int, isi_int_str, isi_int_list, isi_int_tuple, isi_str_bool, isi_str_int, isi_str_str, isi_str_list, isi_str_tuple, isi_lst_bool, isi_lst_int, isi_lst_str, isi_lst_list, isi_lst_tuple, isi_tup_bool, isi_tup_int, isi_tup_str, isi_tup_list, isi_tup_tuple, ixN31, ixN32, List.length_map, List.length_set, Int.reduceToNat, Int.reducePow, Int.reduceNeg, Int.reduceAdd, Int.reduceSub, Int.reduceMul, Int.reduceLT, Int.reduceLE, Int.reduceEq, Nat.reduceEqDiff, reduceCtorEq, List.mem_singleton, eq_self, not_true_eq_false, not_false_eq_true, or_true, true_or, cmpOk_lstA, cmpOk_tupA, ckA_lst, ckA_tup, ckAl_nil, ckAl_cons, ckAl_ints, ckAl_rangeL, ck_int, ck_bl, ck_non, ck_strI, cmpOk_str, deq_str, deq_tup, deq_lst, deqA_nil, deqA_cons, deqA_ints, Bool.and_true, Bool.true_and, Bool.and_false, Bool.false_and, decide_true, decide_false, Bool.not_true, Bool.not_false, ↓p_loads_of, so0, sn0_1, sn0_2, sn0_3, so1, sn1_0, sn1_2, sn1_3, so2, sn2_0, sn2_1, sn2_3, so3, sn3_0, sn3_1, sn3_2, cat_BadSeries, intsOf_map]
    have hp : 0 < ss.length := List.length_pos_iff.mpr hn
    exact ⟨hp, fun m hm hM => ⟨hp, fun n hn2 hN => h m n hm hM hn2 hN⟩⟩
  · exact h.elim

local macro_rules | `(tactic| walk_at "go") => `(tactic| repeat' (first | assumption | with_reducible apply And.intro | walk_at "cs"))
local macro_rules | `(tactic| walk_at "ex") => `(tactic| simp only [List.cons.injEq, Sl.va.injEq, Sl.ow.injEq, Ow.lst.injEq, D.int.injEq, D.bl.injEq, D.str.injEq, D.lst.injEq, D.tup.injEq, true_and, and_true])
local macro_rules | `(tactic| walk_at "gn") => `(tactic| simp only [↓gN, ↓gsNil, ↓gsCons, ↓gT, ↓gSq, List.length_cons, List.length_nil, Nat.reduceAdd, true_and, List.set_cons_zero, List.set_cons_succ])
local macro_rules | `(tactic| walk_at "sp") => `(tactic| repeat' (first | split | with_reducible apply And.intro))
local macro_rules | `(tactic| walk_at "cs") => `(tactic| first | (unfold CMulP; omega) | (unfold CPowP; omega) | (unfold CModP; omega) | (unfold CDivP; omega))
local macro_rules | `(tactic| walk_at "pl") => `(tactic| simp only [↓sSeq, ↓sAsg, ↓sRet, ↓sRetN, ↓sIf, ↓sDrop, ↓sPar, ↓sAug, ↓sNext, ↓sTgt, ↓sApp, ↓sExt, ↓sPop, ↓sSet, ↓sBreak, ↓sCont, ↓eVar, ↓bVar, ↓eMov, ↓bE, ↓eBin, ↓tE, ↓eChain_eq, chS_bl, chS_true, chS_false, wipeE_nil, wipeE_cons, ↓eUn, ↓qAnd, ↓qOr, ↓qNot, ↓eAnd_eq, ↓eOr_eq, ↓sNever, ↓eNot, ↓eIf, ↓aNil, ↓aCons, ↓aConsB, ↓eTup, ↓eLst, ↓iSeq, ↓iR1, ↓iR2, ↓iEnum1, ↓iRev1, ↓cSortD, ↓sAugIt, ↓cMinPr,  ↓gN, ↓gsNil, ↓gsCons, ↓gT, ↓eCall, ↓eCallX, ↓sRaise, ↓sTry, ↓dI2, ↓dAdd, ↓dEq, ↓dNe, ↓dIsN, ↓dNotN, ↓dIx, ↓oNone, ↓oSome, ↓eSl, ↓eB, ↓cLen, ↓cInt, ↓cAbs, ↓cMax2, ↓cMin2, ↓cDivmod, ↓cList, ↓cTuple, ↓cSum, ↓cMax, ↓cMin, ↓cAll, ↓cAny, ↓cSorted, ↓dIn, ↓dInX, ↓eM, ↓mIndex, ↓tyM, ↓gSq, ↓cSet, natc0, natc1, natc2, List.findIdx?_cons, List.findIdx?_nil, intsOf_ints, boolsOf_bls, plAnyI, plAnyR, ↓cGcd, ↓cLcm, ↓eRange, ↓eIsi, ↓Sl.val, ↓Ow.toD, ↓stE, ↓tYes', ↓eIxM, ↓sSetM, ↓PL.isNon, ↓eC, ↓bC, ↓dSub, ↓dMul, ↓dDiv, ↓dMod, ↓dPow, ↓dLt, ↓dLe, ↓dGt, ↓dGe, ↓dAddI, ↓dDivS, ↓dEqI, ↓dNeI,
  List.getElem?_cons_zero, List.getElem?_cons_succ, List.set_cons_zero, List.set_cons_succ, List.map_cons, List.map_nil, List.length_cons, List.length_nil, List.nil_append, List.cons_append, List.replicate_succ, List.replicate_zero, List.append_nil, atI0, atI1, atI2, atI3, atI4,
  cmpOk_int, cmpOk_bl, cmpOk_non, deq_int, deq_bl, true_and, and_true, Nat.reduceAdd, Nat.reduceSub, Nat.reduceLeDiff, Nat.reduceLT, Bool.not_eq_true', Bool.false_eq_true, if_false, if_true, decide_eq_true_eq, decide_eq_false_iff_not, Nat.zero_add, Nat.sub_zero, Nat.add_zero, Nat.sub_self, isi_non_bool, isi_non_int, isi_non_str, isi_non_list, isi_non_tuple, isi_bl_bool, isi_bl_int, isi_bl_str, isi_bl_list, isi_bl_tuple, isi_int_bool, isi_int_int, isi_int_str, isi_int_list, isi_int_tuple, isi_str_bool, isi_str_int, isi_str_str, isi_str_list, isi_str_tuple, isi_lst_bool, isi_lst_int, isi_lst_str, isi_lst_list, isi_lst_tuple, isi_tup_bool, isi_tup_int, isi_tup_str, isi_tup_list, isi_tup_tuple, ixN31, ixN32, List.length_map, List.length_set, Int.reduceToNat, Int.reducePow, Int.reduceNeg, Int.reduceAdd, Int.reduceSub, Int.reduceMul, Int.reduceLT, Int.reduceLE, Int.reduceEq, Nat.reduceEqDiff, reduceCtorEq, List.mem_singleton, eq_self, not_true_eq_false, not_false_eq_true, or_true, true_or, cmpOk_lstA, cmpOk_tupA, ckA_lst, ckA_tup, ckAl_nil, ckAl_cons, ckAl_ints, ckAl_rangeL, ck_int, ck_bl, ck_non, ck_strI, cmpOk_str, deq_str, deq_tup, deq_lst, deqA_nil, deqA_cons, deqA_ints, Bool.and_true, Bool.true_and, Bool.and_false, Bool.false_and, decide_true, decide_false, Bool.not_true, Bool.not_false, ↓pDraw, so0, sn0_1, sn0_2, sn0_3, so1, sn1_0, sn1_2, sn1_3, so2, sn2_0, sn2_1, sn2_3, so3, sn3_0, sn3_1, sn3_2, cat_BadSeries])
theorem ok__law_subset (T : TF K mg) : FnOk P w K mg base CX0 2 T.a__law_subset T.x__law_subset ["tape", "size", "most"] (liP K p__law_subset) := by
  refine fn_P T.f__law_subset sc__law_subset (by intro ds M Q E h; unfold p__law_subset at h; split at h <;> first | rfl | exact h.elim) (fun cdv A outer s H E z hz hr => (qs_cons (qs_set (i := 3) sc__law_subset.nd rfl (by first | exact Or.inl rfl | exact Or.inr rfl) (qe_lst qa_nil))
    (qs_cons (qs_for PassesOwn.never rfl (qi_range1 (by rfl) T.m_range (qa_cons (qe_call (ok__law_draw T) hr (by rfl) T.g__law_draw T.f__law_draw.kp T.b__law_draw pass0 (qa_cons (qe_var 0) (qa_cons (qe_bin ob_add (qb_var 2) qb_int) qa_nil))) qa_nil)) (qg_name (i := 4) sc__law_subset.nd rfl (by first | exact Or.inl rfl | exact Or.inr rfl))
    (qs_cons (qs_set (i := 5) sc__law_subset.nd rfl (by first | exact Or.inl rfl | exact Or.inr rfl) (qe_call (ok__law_draw T) hr (by rfl) T.g__law_draw T.f__law_draw.kp T.b__law_draw pass0 (qa_cons (qe_var 0) (qa_cons (qe_var 1) qa_nil))))
    (qs_end (qs_if (qt_cmp (ob_notInX (hu65 hr)) (qb_var 5) (qb_var 3) (by with_unfolding_all rfl))
    (qs_end (qs_append (i := 3) rfl (by first | exact Or.inl rfl | exact Or.inr (Or.inl rfl) | exact Or.inr (Or.inr rfl)) (qe_var 5)))
    qs_nil))))
    (qs_end (qs_ret (qe_callTy cb_tuple (by rfl) T.m_tuple (by decide +kernel) (qab_cons (qb_of (qe_callB cb_sorted (by rfl) T.m_sorted (by decide +kernel) (qab_cons (qb_var 3) qab_nil))) qab_nil))))))) ?_
  intro ds M Q0 h
  unfold p__law_subset at h
  split at h
  · skip
    obtain ⟨hp, h⟩ := h
    rename_i T size most
    walk_at "pl"
    refine sFor_k fun N hN => ?_
    walk_at "pl"
    refine ⟨⟨hp.1, by omega, by omega⟩, fun n n0 n1 => ⟨by omega, hN _ _ _ ?_⟩⟩
    refine loop_i (fun i ρ M1 => M1 = M ∧ i ≤ n.toNat ∧ ∃ (ns : List Int) (c d : Sl), ρ = [.va (.ref T), .va (.int size), .va (.int most), .ow (.lst (ns.map D.int)), c, d] ∧ ns.Nodup ∧ (∀ r ∈ ns, 0 ≤ r ∧ r < size) ∧ ns.length ≤ i) ⟨rfl, by omega, [], .un, .un, rfl, by simp, by simp, by simp⟩ ?_ ?_
    · rintro J hJ i dd ρ M1 hd ⟨e, hi, ns, c, d, rfl, hn, hr, hl⟩
      subst e
      obtain ⟨rfl, hi⟩ := rangeL_get hd
      walk_at "gn"
      walk_at "pl"
      refine ⟨⟨hp.1, by omega, by omega⟩, fun r r0 r1 => ?_⟩
      by_cases c : r ∈ ns
      · rw [if_neg (by simpa using c)]
        exact hJ _ _ _ ⟨rfl, by omega, ns, _, _, rfl, hn, hr, by omega⟩
      · rw [if_pos (by simpa using c)]
        refine ⟨by omega, hJ _ _ _ ⟨rfl, by omega, ns ++ [r], .va (.int (0 + i)), .va (.int r), by simp, ?_, ?_, by simp; omega⟩⟩
        · rw [List.nodup_append]
          refine ⟨hn, by simp, ?_⟩
          intro a ha b hb
          rw [List.mem_singleton.mp hb]
          intro e
          exact c (e ▸ ha)
        · intro x hx
          rcases List.mem_append.mp hx with hx | hx
          · exact hr x hx
          · rw [List.mem_singleton.mp hx]; exact ⟨r0, r1⟩
    · rintro ρ M1 ⟨e, hi, ns, c, d, rfl, hn, hr, hl⟩
      subst e
      walk_at "pl"
      intro ms hm hs
      rw [rangeL_len] at hl
      refine h ms (asc_of hs (hm.nodup_iff.mpr hn)) (fun r hr2 => hr r (hm.mem_iff.mp hr2)) ?_
      rw [hm.length_eq]
      omega
  · exact h.elim

local macro_rules | `(tactic| walk_at "go") => `(tactic| repeat' (first | assumption | with_reducible apply And.intro | walk_at "cs"))
local macro_rules | `(tactic| walk_at "ex") => `(tactic| simp only [List.cons.injEq, Sl.va.injEq, Sl.ow.injEq, Ow.lst.injEq, D.int.injEq, D.bl.injEq, D.str.injEq, D.lst.injEq, D.tup.injEq, true_and, and_true])
local macro_rules | `(tactic| walk_at "gn") => `(tactic| simp only [↓gN, ↓gsNil, ↓gsCons, ↓gT, ↓gSq, List.length_cons, List.length_nil, Nat.reduceAdd, true_and, List.set_cons_zero, List.set_cons_succ])
local macro_rules | `(tactic| walk_at "sp") => `(tactic| repeat' (first | split | with_reducible apply And.intro))
local macro_rules | `(tactic| walk_at "cs") => `(tactic| first | (unfold CMulP; omega) | (unfold CPowP; omega) | (unfold CModP; omega) | (unfold CDivP; omega))
local macro_rules | `(tactic| walk_at "pl") => `(tactic| simp only [↓sSeq, ↓sAsg, ↓sRet, ↓sRetN, ↓sIf, ↓sDrop, ↓sPar, ↓sAug, ↓sNext, ↓sTgt, ↓sApp, ↓sExt, ↓sPop, ↓sSet, ↓sBreak, ↓sCont, ↓eVar, ↓bVar, ↓eMov, ↓bE, ↓eBin, ↓tE, ↓eChain_eq, chS_bl, chS_true, chS_false, wipeE_nil, wipeE_cons, ↓eUn, ↓qAnd, ↓qOr, ↓qNot, ↓eAnd_eq, ↓eOr_eq, ↓sNever, ↓eNot, ↓eIf, ↓aNil, ↓aCons, ↓aConsB, ↓eTup, ↓eLst, ↓iSeq, ↓iR1, ↓iR2, ↓iEnum1, ↓iRev1, ↓cSortD, ↓sAugIt, ↓cMinPr,  ↓gN, ↓gsNil, ↓gsCons, ↓gT, ↓eCall, ↓eCallX, ↓sRaise, ↓sTry, ↓dI2, ↓dAdd, ↓dEq, ↓dNe, ↓dIsN, ↓dNotN, ↓dIx, ↓oNone, ↓oSome, ↓eSl, ↓eB, ↓cLen, ↓cInt, ↓cAbs, ↓cMax2, ↓cMin2, ↓cDivmod, ↓cList, ↓cTuple, ↓cSum, ↓cMax, ↓cMin, ↓cAll, ↓cAny, ↓cSorted, ↓dIn, ↓dInX, ↓eM, ↓mIndex, ↓tyM, ↓gSq, ↓cSet, natc0, natc1, natc2, List.findIdx?_cons, List.findIdx?_nil, intsOf_ints, boolsOf_bls, plAnyI, plAnyR, ↓cGcd, ↓cLcm, ↓eRange, ↓eIsi, ↓Sl.val, ↓Ow.toD, ↓stE, ↓tYes', ↓eIxM, ↓sSetM, ↓PL.isNon, ↓eC, ↓bC, ↓dSub, ↓dMul, ↓dDiv, ↓dMod, ↓dPow, ↓dLt, ↓dLe, ↓dGt, ↓dGe, ↓dAddI, ↓dDivS, ↓dEqI, ↓dNeI,
  List.getElem?_cons_zero, List.getElem?_cons_succ, List.set_cons_zero, List.set_cons_succ, List.map_cons, List.map_nil, List.length_cons, List.length_nil, List.nil_append, List.cons_append, List.replicate_succ, List.replicate_zero, List.append_nil, atI0, atI1, atI2, atI3, atI4,
  cmpOk_int, cmpOk_bl, cmpOk_non, deq_int, deq_bl, true_and, and_true, Nat.reduceAdd, Nat.reduceSub, Nat.reduceLeDiff, Nat.reduceLT, Bool.not_eq_true', Bool.false_eq_true, if_false, if_true, decide_eq_true_eq, decide_eq_false_iff_not, Nat.zero_add, Nat.sub_zero, Nat.add_zero, Nat.sub_self, isi_non_bool, isi_non_int, isi_non_str, isi_non_list, isi_non_tuple, isi_bl_bool, isi_bl_int, isi_bl_str, isi_bl_list, isi_bl_tuple, isi_int_bool, isi_int_int, isi_int_str, isi_int_list, isi_int_tuple, isi_str_bool, isi_str_int, isi_str_str, isi_str_list, isi_str_tuple, isi_lst_bool, isi_lst_int, isi_lst_str, isi_lst_list, isi_lst_tuple, isi_tup_bool, isi_tup_int, isi_tup_str, isi_tup_list, isi_tup_tuple, ixN31, ixN32, List.length_map, List.length_set, Int.reduceToNat, Int.reducePow, Int.reduceNeg, Int.reduceAdd, Int.reduceSub, Int.reduceMul, Int.reduceLT, Int.reduceLE, Int.reduceEq, Nat.reduceEqDiff, reduceCtorEq, List.mem_singleton, eq_self, not_true_eq_false, not_false_eq_true, or_true, true_or, cmpOk_lstA, cmpOk_tupA, ckA_lst, ckA_tup, ckAl_nil, ckAl_cons, ckAl_ints, ckAl_rangeL, ck_int, ck_bl, ck_non, ck_strI, cmpOk_str, deq_str, deq_tup, deq_lst, deqA_nil, deqA_cons, deqA_ints, Bool.and_true, Bool.true_and, Bool.and_false, Bool.false_and, decide_true, decide_false, Bool.not_true, Bool.not_false, ↓p__law_mod, so0, sn0_1, sn0_2, sn0_3, so1, sn1_0, sn1_2, sn1_3, so2, sn2_0, sn2_1, sn2_3, so3, sn3_0, sn3_1, sn3_2, cat_BadSeries])
theorem ok__law_in (T : TF K mg) : FnOk P w K mg base CX0 2 T.a__law_in T.x__law_in ["pieces", "day"] (liP K p__law_in) := by
  refine fn_P T.f__law_in sc__law_in (by intro ds M Q E h; unfold p__law_in at h; split at h <;> first | rfl | exact h.elim) (fun cdv A outer s H E z hz hr => (qs_cons (qs_set (i := 2) sc__law_in.nd rfl (by first | exact Or.inl rfl | exact Or.inr rfl) qe_bl)
    (qs_cons (qs_for PassesOwn.never rfl (qi_seq (h := (qe_var 0))) (qg_seq (n := 3) rfl (qgs_cons (qg_name (i := 3) sc__law_in.nd rfl (by first | exact Or.inl rfl | exact Or.inr rfl)) (qgs_cons (qg_name (i := 4) sc__law_in.nd rfl (by first | exact Or.inl rfl | exact Or.inr rfl)) (qgs_cons (qg_name (i := 5) sc__law_in.nd rfl (by first | exact Or.inl rfl | exact Or.inr rfl)) qgs_nil))))
    (qs_end (qs_if (qt_cmp ob_le (qb_var 3) (qb_var 1) (nomark _))
    (qs_end (qs_set (i := 2) sc__law_in.nd rfl (by first | exact Or.inl rfl | exact Or.inr rfl) (qe_cmp (ob_inX (hu65 hr)) (qb_of (qe_call (ok__law_mod T) hr (by rfl) T.g__law_mod T.f__law_mod.kp T.b__law_mod pass0 (qa_cons (qe_var 1) (qa_cons (qe_var 4) qa_nil)))) (qb_var 5) (by with_unfolding_all rfl))))
    qs_nil)))
    (qs_end (qs_ret (qe_var 2)))))) ?_
  intro ds M Q0 h
  unfold p__law_in at h
  split at h
  · skip
    obtain ⟨ps, rfl, hp, h⟩ := h
    rename_i d
    walk_at "pl"
    refine sFor_k fun N hN => ?_
    walk_at "pl"
    refine hN _ _ _ ?_
    clear hN
    refine loop_i (fun i ρ M1 => M1 = M ∧ ∃ a b c : Sl, ρ = [.va (.lst (ps.map pcD)), .va (.int d), .va (.bl (patB (ps.take i) d)), a, b, c]) ⟨rfl, .un, .un, .un, rfl⟩ ?_ ?_
    · rintro J hJ i dd ρ M1 hd ⟨e, a, b, c, rfl⟩
      subst e
      rw [List.getElem?_map] at hd
      cases hpi : ps[i]? with
      | none => rw [hpi] at hd; cases hd
      | some p =>
        rw [hpi] at hd
        cases hd
        have hb := hp p (List.mem_of_getElem? hpi)
        have ht : patB (ps.take (i + 1)) d = if p.1 ≤ d then inPc p d else patB (ps.take i) d := by rw [List.take_add_one, hpi]; exact patB_snoc
        obtain ⟨s, P, ns⟩ := p
        rw [show pcD (s, P, ns) = .tup [.int s, .int P, .tup (ns.map D.int)] from rfl]
        walk_at "pl"
        have ht : patB (ps.take (i + 1)) d = if s ≤ d then decide (d % P ∈ ns) else patB (ps.take i) d := ht
        have hb : 0 < P ∧ P < 1000000000000 := hb
        by_cases c1 : s ≤ d
        · rw [if_pos c1] at ht ⊢
          exact ⟨⟨by omega, by omega⟩, hJ _ _ _ ⟨rfl, _, _, _, by rw [ht]⟩⟩
        · rw [if_neg c1] at ht ⊢
          exact hJ _ _ _ ⟨rfl, _, _, _, by rw [ht]⟩
    · rintro ρ M1 ⟨e, a, b, c, rfl⟩
      subst e
      walk_at "pl"
      rw [List.take_length]
      exact h
  · exact h.elim

local macro_rules | `(tactic| walk_at "go") => `(tactic| repeat' (first | assumption | with_reducible apply And.intro | walk_at "cs"))
local macro_rules | `(tactic| walk_at "ex") => `(tactic| simp only [List.cons.injEq, Sl.va.injEq, Sl.ow.injEq, Ow.lst.injEq, D.int.injEq, D.bl.injEq, D.str.injEq, D.lst.injEq, D.tup.injEq, true_and, and_true])
local macro_rules | `(tactic| walk_at "gn") => `(tactic| simp only [↓gN, ↓gsNil, ↓gsCons, ↓gT, ↓gSq, List.length_cons, List.length_nil, Nat.reduceAdd, true_and, List.set_cons_zero, List.set_cons_succ])
local macro_rules | `(tactic| walk_at "sp") => `(tactic| repeat' (first | split | with_reducible apply And.intro))
local macro_rules | `(tactic| walk_at "cs") => `(tactic| first | (unfold CMulP; omega) | (unfold CPowP; omega) | (unfold CModP; omega) | (unfold CDivP; omega))
local macro_rules | `(tactic| walk_at "pl") => `(tactic| simp only [↓sSeq, ↓sAsg, ↓sRet, ↓sRetN, ↓sIf, ↓sDrop, ↓sPar, ↓sAug, ↓sNext, ↓sTgt, ↓sApp, ↓sExt, ↓sPop, ↓sSet, ↓sBreak, ↓sCont, ↓eVar, ↓bVar, ↓eMov, ↓bE, ↓eBin, ↓tE, ↓eChain_eq, chS_bl, chS_true, chS_false, wipeE_nil, wipeE_cons, ↓eUn, ↓qAnd, ↓qOr, ↓qNot, ↓eAnd_eq, ↓eOr_eq, ↓sNever, ↓eNot, ↓eIf, ↓aNil, ↓aCons, ↓aConsB, ↓eTup, ↓eLst, ↓iSeq, ↓iR1, ↓iR2, ↓iEnum1, ↓iRev1, ↓cSortD, ↓sAugIt, ↓cMinPr,  ↓gN, ↓gsNil, ↓gsCons, ↓gT, ↓eCall, ↓eCallX, ↓sRaise, ↓sTry, ↓dI2, ↓dAdd, ↓dEq, ↓dNe, ↓dIsN, ↓dNotN, ↓dIx, ↓oNone, ↓oSome, ↓eSl, ↓eB, ↓cLen, ↓cInt, ↓cAbs, ↓cMax2, ↓cMin2, ↓cDivmod, ↓cList, ↓cTuple, ↓cSum, ↓cMax, ↓cMin, ↓cAll, ↓cAny, ↓cSorted, ↓dIn, ↓dInX, ↓eM, ↓mIndex, ↓tyM, ↓gSq, ↓cSet, natc0, natc1, natc2, List.findIdx?_cons, List.findIdx?_nil, intsOf_ints, boolsOf_bls, plAnyI, plAnyR, ↓cGcd, ↓cLcm, ↓eRange, ↓eIsi, ↓Sl.val, ↓Ow.toD, ↓stE, ↓tYes', ↓eIxM, ↓sSetM, ↓PL.isNon, ↓eC, ↓bC, ↓dSub, ↓dMul, ↓dDiv, ↓dMod, ↓dPow, ↓dLt, ↓dLe, ↓dGt, ↓dGe, ↓dAddI, ↓dDivS, ↓dEqI, ↓dNeI,
  List.getElem?_cons_zero, List.getElem?_cons_succ, List.set_cons_zero, List.set_cons_succ, List.map_cons, List.map_nil, List.length_cons, List.length_nil, List.nil_append, List.cons_append, List.replicate_succ, List.replicate_zero, List.append_nil, atI0, atI1, atI2, atI3, atI4,
  cmpOk_int, cmpOk_bl, cmpOk_non, deq_int, deq_bl, true_and, and_true, Nat.reduceAdd, Nat.reduceSub, Nat.reduceLeDiff, Nat.reduceLT, Bool.not_eq_true', Bool.false_eq_true, if_false, if_true, decide_eq_true_eq, decide_eq_false_iff_not, Nat.zero_add, Nat.sub_zero, Nat.add_zero, Nat.sub_self, isi_non_bool, isi_non_int, isi_non_str, isi_non_list, isi_non_tuple, isi_bl_bool, isi_bl_int, isi_bl_str, isi_bl_list, isi_bl_tuple, isi_int_bool, isi_int_int, isi_int_str, isi_int_list, isi_int_tuple, isi_str_bool, isi_str_int, isi_str_str, isi_str_list, isi_str_tuple, isi_lst_bool, isi_lst_int, isi_lst_str, isi_lst_list, isi_lst_tuple, isi_tup_bool, isi_tup_int, isi_tup_str, isi_tup_list, isi_tup_tuple, ixN31, ixN32, List.length_map, List.length_set, Int.reduceToNat, Int.reducePow, Int.reduceNeg, Int.reduceAdd, Int.reduceSub, Int.reduceMul, Int.reduceLT, Int.reduceLE, Int.reduceEq, Nat.reduceEqDiff, reduceCtorEq, List.mem_singleton, eq_self, not_true_eq_false, not_false_eq_true, or_true, true_or, cmpOk_lstA, cmpOk_tupA, ckA_lst, ckA_tup, ckAl_nil, ckAl_cons, ckAl_ints, ckAl_rangeL, ck_int, ck_bl, ck_non, ck_strI, cmpOk_str, deq_str, deq_tup, deq_lst, deqA_nil, deqA_cons, deqA_ints, Bool.and_true, Bool.true_and, Bool.and_false, Bool.false_and, decide_true, decide_false, Bool.not_true, Bool.not_false, ↓p_shrunk, so0, sn0_1, sn0_2, sn0_3, so1, sn1_0, sn1_2, sn1_3, so2, sn2_0, sn2_1, sn2_3, so3, sn3_0, sn3_1, sn3_2, cat_BadSeries])
theorem ok_tidied (T : TF K mg) : FnOk P w K mg base CX0 3 T.a_tidied T.x_tidied ["pieces"] (liP K p_tidied) := by
  refine fn_P T.f_tidied sc_tidied (by intro ds M Q E h; unfold p_tidied at h; split at h <;> first | rfl | exact h.elim) (fun cdv A outer s H E z hz hr => (qs_cons (qs_set (i := 1) sc_tidied.nd rfl (by first | exact Or.inl rfl | exact Or.inr rfl) (qe_lst qa_nil))
    (qs_cons (qs_for PassesOwn.never rfl (qi_seq (h := (qe_var 0))) (qg_seq (n := 3) rfl (qgs_cons (qg_name (i := 2) sc_tidied.nd rfl (by first | exact Or.inl rfl | exact Or.inr rfl)) (qgs_cons (qg_name (i := 3) sc_tidied.nd rfl (by first | exact Or.inl rfl | exact Or.inr rfl)) (qgs_cons (qg_name (i := 4) sc_tidied.nd rfl (by first | exact Or.inl rfl | exact Or.inr rfl)) qgs_nil))))
    (qs_cons (qs_asg (qe_call (ok_shrunk T) hr (by rfl) T.g_shrunk T.f_shrunk.kp T.b_shrunk pass0 (qa_cons (qe_var 3) (qa_cons (qe_var 4) qa_nil))) (qg_seq (n := 2) rfl (qgs_cons (qg_name (i := 3) sc_tidied.nd rfl (by first | exact Or.inl rfl | exact Or.inr rfl)) (qgs_cons (qg_name (i := 4) sc_tidied.nd rfl (by first | exact Or.inl rfl | exact Or.inr rfl)) qgs_nil))))
    (qs_end (qs_if (PW.pt (qw_or (qt_cmp (ob_eq (hu64 hr)) (qb_of (qe_callB cb_len (by rfl) T.m_len (by decide +kernel) (qab_cons (qb_var 1) qab_nil))) qb_int (nomark _)) (qw_or1 (qt_cmp (ob_ne (hu64 hr)) (qb_of (qe_slice (qb_of (qe_ix (qb_var 1) (qb_of (qe_un ub_neg qb_int)))) (qo_some qb_int) qo_none)) (qb_of (qe_tup (qa_cons (qe_var 3) (qa_cons (qe_var 4) qa_nil)))) (nomark _)))))
    (qs_end (qs_append (i := 1) rfl (by first | exact Or.inl rfl | exact Or.inr (Or.inl rfl) | exact Or.inr (Or.inr rfl)) (qe_tup (qa_cons (qe_var 2) (qa_cons (qe_var 3) (qa_cons (qe_var 4) qa_nil))))))
    qs_nil))))
    (qs_end (qs_ret (qe_callTy cb_tuple (by rfl) T.m_tuple (by decide +kernel) (qab_cons (qb_var 1) qab_nil))))))) ?_
  intro ds M Q0 h
  unfold p_tidied at h
  split at h
  · skip
    obtain ⟨ps, rfl, ⟨hp, hlen⟩, h⟩ := h
    refine sSeq_i fun N1 h1 => ?_
    walk_at "pl"
    refine h1 _ _ ?_
    clear h1
    refine sSeq_i fun N1 h1 => ?_
    refine sFor_k fun N hN => ?_
    walk_at "pl"
    refine hN _ _ _ ?_
    clear hN
    refine loop_i (fun i ρ M1 => M1 = M ∧ ∃ (fs : List Pc) (a b c : Sl), ρ = [.va (.lst (ps.map pcD)), .ow (.lst (fs.map pcD)), a, b, c] ∧ TdInv (ps.take i) fs) ⟨rfl, [], .un, .un, .un, by simp, TdInv.start⟩ ?_ ?_
    · rintro J hJ i dd ρ M1 hd ⟨e, fs, a, b, c, rfl, hi⟩
      subst e
      rw [List.getElem?_map] at hd
      cases hpi : ps[i]? with
      | none => rw [hpi] at hd; cases hd
      | some p =>
        rw [hpi] at hd
        cases hd
        obtain ⟨s, P, ns⟩ := p
        have hk : KdOk (P, ns) := hp.ok _ (List.mem_of_getElem? hpi)
        have hbl := asc_take hp.asc hpi
        have ht : ps.take (i + 1) = ps.take i ++ [(s, P, ns)] := by rw [List.take_add_one, hpi]; rfl
        rw [show pcD (s, P, ns) = .tup [.int s, .int P, .tup (ns.map D.int)] from rfl]
        walk_at "pl"
        refine ⟨ns, rfl, hk, fun P' ns' r1 r2 r3 r4 r5 => ?_⟩
        have hk2 : KdOk (P', ns') := ⟨r1, by have := hk.2.1; show P' < _; have : P < 1000000000 := this; omega, by have := hk.2.2; show ns'.length < _; have : ns.length < 4000 := this; omega⟩
        have hfl := hi.len
        rw [List.length_take] at hfl
        have add : (∀ gs l, fs = gs ++ [l] → l.2 ≠ (P', ns')) → J (i + 1) [.va (.lst (ps.map pcD)), .ow (.lst (fs.map pcD ++ [.tup [.int s, .int P', .tup (ns'.map D.int)]])), .va (.int s), .va (.int P'), .va (.tup (ns'.map D.int))] M1 := fun w => by
          refine hJ _ _ _ ⟨rfl, fs ++ [(s, P', ns')], .va (.int s), .va (.int P'), .va (.tup (ns'.map D.int)), ?_, ?_⟩
          · simp [pcD]
          · rw [ht]
            exact hi.add hbl hk2 r5 r3 w r2 r4
        rcases List.eq_nil_or_concat fs with rfl | ⟨gs, l, e⟩
        · walk_at "pl"
          exact add fun gs l e => by simp at e
        · rw [List.concat_eq_append] at e
          subst e
          obtain ⟨sl, Pl, nl⟩ := l
          rw [if_neg (by simp; omega), List.map_append, List.map_cons, List.map_nil, atI_snoc, show pcD (sl, Pl, nl) = .tup [.int sl, .int Pl, .tup (nl.map D.int)] from rfl]
          simp only [↓sSeq, ↓sAsg, ↓sRet, ↓sRetN, ↓sIf, ↓sDrop, ↓sPar, ↓sAug, ↓sNext, ↓sTgt, ↓sApp, ↓sExt, ↓sPop, ↓sSet, ↓sBreak, ↓sCont, ↓eVar, ↓bVar, ↓eMov, ↓bE, ↓eBin, ↓tE, ↓eChain_eq, chS_bl, chS_true, chS_false, wipeE_nil, wipeE_cons, ↓eUn, ↓qAnd, ↓qOr, ↓qNot, ↓eAnd_eq, ↓eOr_eq, ↓sNever, ↓eNot, ↓eIf, ↓aNil, ↓aCons, ↓aConsB, ↓eTup, ↓eLst, ↓iSeq, ↓iR1, ↓iR2, ↓iEnum1, ↓iRev1, ↓cSortD, ↓sAugIt, ↓cMinPr,  ↓gN, ↓gsNil, ↓gsCons, ↓gT, ↓eCall, ↓eCallX, ↓sRaise, ↓sTry, ↓dI2, ↓dAdd, ↓dEq, ↓dNe, ↓dIsN, ↓dNotN, ↓dIx, ↓oNone, ↓oSome, ↓eSl, ↓eB, ↓cLen, ↓cInt, ↓cAbs, ↓cMax2, ↓cMin2, ↓cDivmod, ↓cList, ↓cTuple, ↓cSum, ↓cMax, ↓cMin, ↓cAll, ↓cAny, ↓cSorted, ↓dIn, ↓dInX, ↓eM, ↓mIndex, ↓tyM, ↓gSq, ↓cSet, natc0, natc1, natc2, List.findIdx?_cons, List.findIdx?_nil, intsOf_ints, boolsOf_bls, plAnyI, plAnyR, ↓cGcd, ↓cLcm, ↓eRange, ↓eIsi, ↓Sl.val, ↓Ow.toD, ↓stE, ↓tYes', ↓eIxM, ↓sSetM, ↓PL.isNon, ↓eC, ↓bC, ↓dSub, ↓dMul, ↓dDiv, ↓dMod, ↓dPow, ↓dLt, ↓dLe, ↓dGt, ↓dGe, ↓dAddI, ↓dDivS, ↓dEqI, ↓dNeI,
  List.getElem?_cons_zero, List.getElem?_cons_succ, List.set_cons_zero, List.set_cons_succ, List.map_cons, List.map_nil, List.length_cons, List.length_nil, List.nil_append, List.cons_append, List.replicate_succ, List.replicate_zero, List.append_nil, atI0, atI1, atI2, atI3, atI4,
  cmpOk_int, cmpOk_bl, cmpOk_non, deq_int, deq_bl, true_and, and_true, Nat.reduceAdd, Nat.reduceSub, Nat.reduceLeDiff, Nat.reduceLT, Bool.not_eq_true', Bool.false_eq_true, if_false, if_true, decide_eq_true_eq, decide_eq_false_iff_not, Nat.zero_add, Nat.sub_zero, Nat.add_zero, Nat.sub_self, isi_non_bool, isi_non_int, isi_non_str, isi_non_list, isi_non_tuple, isi_bl_bool, isi_bl_int, isi_bl_str, isi_bl_list, isi_bl_tuple, isi_int_bool, isi_int_int, isi_int_str, isi_int_list, isi_int_tuple, isi_str_bool, isi_str_int, isi_str_str, isi_str_list, isi_str_tuple, isi_lst_bool, isi_lst_int, isi_lst_str, isi_lst_list, isi_lst_tuple, isi_tup_bool, isi_tup_int, isi_tup_str, isi_tup_list, isi_tup_tuple, ixN31, ixN32, List.length_map, List.length_set, Int.reduceToNat, Int.reducePow, Int.reduceNeg, Int.reduceAdd, Int.reduceSub, Int.reduceMul, Int.reduceLT, Int.reduceLE, Int.reduceEq, Nat.reduceEqDiff, reduceCtorEq, List.mem_singleton, eq_self, not_true_eq_false, not_false_eq_true, or_true, true_or, cmpOk_lstA, cmpOk_tupA, ckA_lst, ckA_tup, ckAl_nil, ckAl_cons, ckAl_ints, ckAl_rangeL, ck_int, ck_bl, ck_non, ck_strI, cmpOk_str, deq_str, deq_tup, deq_lst, deqA_nil, deqA_cons, deqA_ints, Bool.and_true, Bool.true_and, Bool.and_false, Bool.false_and, decide_true, decide_false, Bool.not_true, Bool.not_false, ↓p_shrunk, so0, sn0_1, sn0_2, sn0_3, so1, sn1_0, sn1_2, sn1_3, so2, sn2_0, sn2_1, sn2_3, so3, sn3_0, sn3_1, sn3_2, cat_BadSeries, cutL1]
          by_cases c1 : Pl = P' ∧ nl = ns'
          · obtain ⟨rfl, rfl⟩ := c1
            rw [if_neg (by simp)]
            refine hJ _ _ _ ⟨rfl, gs ++ [(sl, Pl, nl)], .va (.int s), .va (.int Pl), .va (.tup (nl.map D.int)), by simp [pcD], ?_⟩
            rw [ht]
            exact hi.skip hbl r3
          · rw [if_pos (by simpa using c1)]
            rw [List.map_append, List.map_cons, List.map_nil] at add
            refine ⟨by omega, add fun gs2 l e => ?_⟩
            obtain ⟨e1, e2⟩ := List.append_inj' e rfl
            cases e2
            intro e3
            cases e3
            exact c1 ⟨rfl, rfl⟩
    · rintro ρ M1 ⟨e, fs, a, b, c, rfl, hi⟩
      subst e
      rw [List.length_map, List.take_length] at hi
      refine h1 _ _ ?_
      walk_at "pl"
      exact h fs (hi.tidy hp.hd) hi.same hi.len hi.below
  · exact h.elim

local macro_rules | `(tactic| walk_at "go") => `(tactic| repeat' (first | assumption | with_reducible apply And.intro | walk_at "cs"))
local macro_rules | `(tactic| walk_at "ex") => `(tactic| simp only [List.cons.injEq, Sl.va.injEq, Sl.ow.injEq, Ow.lst.injEq, D.int.injEq, D.bl.injEq, D.str.injEq, D.lst.injEq, D.tup.injEq, true_and, and_true])
local macro_rules | `(tactic| walk_at "gn") => `(tactic| simp only [↓gN, ↓gsNil, ↓gsCons, ↓gT, ↓gSq, List.length_cons, List.length_nil, Nat.reduceAdd, true_and, List.set_cons_zero, List.set_cons_succ])
local macro_rules | `(tactic| walk_at "sp") => `(tactic| repeat' (first | split | with_reducible apply And.intro))
local macro_rules | `(tactic| walk_at "cs") => `(tactic| first | (unfold CMulP; omega) | (unfold CPowP; omega) | (unfold CModP; omega) | (unfold CDivP; omega))
local macro_rules | `(tactic| walk_at "pl") => `(tactic| simp only [↓sSeq, ↓sAsg, ↓sRet, ↓sRetN, ↓sIf, ↓sDrop, ↓sPar, ↓sAug, ↓sNext, ↓sTgt, ↓sApp, ↓sExt, ↓sPop, ↓sSet, ↓sBreak, ↓sCont, ↓eVar, ↓bVar, ↓eMov, ↓bE, ↓eBin, ↓tE, ↓eChain_eq, chS_bl, chS_true, chS_false, wipeE_nil, wipeE_cons, ↓eUn, ↓qAnd, ↓qOr, ↓qNot, ↓eAnd_eq, ↓eOr_eq, ↓sNever, ↓eNot, ↓eIf, ↓aNil, ↓aCons, ↓aConsB, ↓eTup, ↓eLst, ↓iSeq, ↓iR1, ↓iR2, ↓iEnum1, ↓iRev1, ↓cSortD, ↓sAugIt, ↓cMinPr,  ↓gN, ↓gsNil, ↓gsCons, ↓gT, ↓eCall, ↓eCallX, ↓sRaise, ↓sTry, ↓dI2, ↓dAdd, ↓dEq, ↓dNe, ↓dIsN, ↓dNotN, ↓dIx, ↓oNone, ↓oSome, ↓eSl, ↓eB, ↓cLen, ↓cInt, ↓cAbs, ↓cMax2, ↓cMin2, ↓cDivmod, ↓cList, ↓cTuple, ↓cSum, ↓cMax, ↓cMin, ↓cAll, ↓cAny, ↓cSorted, ↓dIn, ↓dInX, ↓eM, ↓mIndex, ↓tyM, ↓gSq, ↓cSet, natc0, natc1, natc2, List.findIdx?_cons, List.findIdx?_nil, intsOf_ints, boolsOf_bls, plAnyI, plAnyR, ↓cGcd, ↓cLcm, ↓eRange, ↓eIsi, ↓Sl.val, ↓Ow.toD, ↓stE, ↓tYes', ↓eIxM, ↓sSetM, ↓PL.isNon, ↓eC, ↓bC, ↓dSub, ↓dMul, ↓dDiv, ↓dMod, ↓dPow, ↓dLt, ↓dLe, ↓dGt, ↓dGe, ↓dAddI, ↓dDivS, ↓dEqI, ↓dNeI,
  List.getElem?_cons_zero, List.getElem?_cons_succ, List.set_cons_zero, List.set_cons_succ, List.map_cons, List.map_nil, List.length_cons, List.length_nil, List.nil_append, List.cons_append, List.replicate_succ, List.replicate_zero, List.append_nil, atI0, atI1, atI2, atI3, atI4,
  cmpOk_int, cmpOk_bl, cmpOk_non, deq_int, deq_bl, true_and, and_true, Nat.reduceAdd, Nat.reduceSub, Nat.reduceLeDiff, Nat.reduceLT, Bool.not_eq_true', Bool.false_eq_true, if_false, if_true, decide_eq_true_eq, decide_eq_false_iff_not, Nat.zero_add, Nat.sub_zero, Nat.add_zero, Nat.sub_self, isi_non_bool, isi_non_int, isi_non_str, isi_non_list, isi_non_tuple, isi_bl_bool, isi_bl_int, isi_bl_str, isi_bl_list, isi_bl_tuple, isi_int_bool, isi_int_int, isi_int_str, isi_int_list, isi_int_tuple, isi_str_bool, isi_str_int, isi_str_str, isi_str_list, isi_str_tuple, isi_lst_bool, isi_lst_int, isi_lst_str, isi_lst_list, isi_lst_tuple, isi_tup_bool, isi_tup_int, isi_tup_str, isi_tup_list, isi_tup_tuple, ixN31, ixN32, List.length_map, List.length_set, Int.reduceToNat, Int.reducePow, Int.reduceNeg, Int.reduceAdd, Int.reduceSub, Int.reduceMul, Int.reduceLT, Int.reduceLE, Int.reduceEq, Nat.reduceEqDiff, reduceCtorEq, List.mem_singleton, eq_self, not_true_eq_false, not_false_eq_true, or_true, true_or, cmpOk_lstA, cmpOk_tupA, ckA_lst, ckA_tup, ckAl_nil, ckAl_cons, ckAl_ints, ckAl_rangeL, ck_int, ck_bl, ck_non, ck_strI, cmpOk_str, deq_str, deq_tup, deq_lst, deqA_nil, deqA_cons, deqA_ints, Bool.and_true, Bool.true_and, Bool.and_false, Bool.false_and, decide_true, decide_false, Bool.not_true, Bool.not_false, ↓p_has, so0, sn0_1, sn0_2, sn0_3, so1, sn1_0, sn1_2, sn1_3, so2, sn2_0, sn2_1, sn2_3, so3, sn3_0, sn3_1, sn3_2, cat_BadSeries])
theorem ok_belongs (T : TF K mg) : FnOk P w K mg base CX0 3 T.a_belongs T.x_belongs ["pattern", "day"] (liP K p_belongs) := by
  refine fn_P T.f_belongs sc_belongs (by intro ds M Q E h; unfold p_belongs at h; split at h <;> first | rfl | exact h.elim) (fun cdv A outer s H E z hz hr => (qs_cons (qs_if (qt_cmp ob_lt (qb_var 1) qb_int (nomark _))
    (qs_end (qs_ret qe_bl))
    qs_nil)
    (qs_cons (qs_set (i := 2) sc_belongs.nd rfl (by first | exact Or.inl rfl | exact Or.inr rfl) (qe_bin ob_sub (qb_of (qe_callB cb_len (by rfl) T.m_len (by decide +kernel) (qab_cons (qb_var 0) qab_nil))) qb_int))
    (qs_cons (qs_while PassesOwn.never (qt_cmp ob_gt (qb_of (qe_ix (qb_of (qe_ix (qb_var 0) (qb_var 2))) qb_int)) (qb_var 1) (nomark _))
    (qs_end (qs_aug (i := 2) sc_belongs.nd rfl (by first | exact Or.inl rfl | exact Or.inr rfl) qb_int ib_sub)))
    (qs_end (qs_ret (qe_call (ok_has T) hr (by rfl) T.g_has T.f_has.kp T.b_has pass0 (qa_cons (qe_ix (qb_of (qe_ix (qb_var 0) (qb_var 2))) qb_int) (qa_cons (qe_ix (qb_of (qe_ix (qb_var 0) (qb_var 2))) qb_int) (qa_cons (qe_var 1) qa_nil)))))))))) ?_
  intro ds M Q0 h
  unfold p_belongs at h
  split at h
  · skip
    obtain ⟨ps, rfl, hp, h⟩ := h
    rename_i d
    walk_at "pl"
    have hpos : 0 < ps.length := by obtain ⟨k, r, rfl⟩ := hp.hd; simp
    have h0 : ∃ k, ps[0]? = some (0, k) := by obtain ⟨k, r, rfl⟩ := hp.hd; exact ⟨k, rfl⟩
    by_cases c : d < 0
    · rw [if_pos c]
      rw [patB_neg hp c] at h
      exact h
    · rw [if_neg c]
      refine sWhile_i (fun m ρ M1 => M1 = M ∧ m < ps.length ∧ (∀ q : Pc, ps[m + 1]? = some q → d < q.1) ∧ ρ = [.va (.tup (ps.map pcD)), .va (.int d), .va (.int m)]) (ps.length - 1) ⟨rfl, by omega, (fun q hq => by rw [List.getElem?_eq_none (by omega)] at hq; cases hq), by rw [show ((ps.length - 1 : Nat) : Int) = (ps.length : Int) - 1 by omega]⟩ ?_
      rintro m J hJ ρ M1 ⟨e, hm, hab, rfl⟩
      subst e
      obtain ⟨p, hp1⟩ : ∃ p, ps[m]? = some p := ⟨_, List.getElem?_eq_getElem hm⟩
      have hat : atI (ps.map pcD) (m : Int) = some (pcD p) := atI_nn (by omega) (by rw [List.getElem?_map, Int.toNat_natCast, hp1]; rfl)
      obtain ⟨s, P, ns⟩ := p
      rw [show pcD (s, P, ns) = .tup [.int s, .int P, .tup (ns.map D.int)] from rfl] at hat
      have hk : KdOk (P, ns) := hp.ok _ (List.mem_of_getElem? hp1)
      simp only [↓sSeq, ↓sAsg, ↓sRet, ↓sRetN, ↓sIf, ↓sDrop, ↓sPar, ↓sAug, ↓sNext, ↓sTgt, ↓sApp, ↓sExt, ↓sPop, ↓sSet, ↓sBreak, ↓sCont, ↓eVar, ↓bVar, ↓eMov, ↓bE, ↓eBin, ↓tE, ↓eChain_eq, chS_bl, chS_true, chS_false, wipeE_nil, wipeE_cons, ↓eUn, ↓qAnd, ↓qOr, ↓qNot, ↓eAnd_eq, ↓eOr_eq, ↓sNever, ↓eNot, ↓eIf, ↓aNil, ↓aCons, ↓aConsB, ↓eTup, ↓eLst, ↓iSeq, ↓iR1, ↓iR2, ↓iEnum1, ↓iRev1, ↓cSortD, ↓sAugIt, ↓cMinPr,  ↓gN, ↓gsNil, ↓gsCons, ↓gT, ↓eCall, ↓eCallX, ↓sRaise, ↓sTry, ↓dI2, ↓dAdd, ↓dEq, ↓dNe, ↓dIsN, ↓dNotN, ↓dIx, ↓oNone, ↓oSome, ↓eSl, ↓eB, ↓cLen, ↓cInt, ↓cAbs, ↓cMax2, ↓cMin2, ↓cDivmod, ↓cList, ↓cTuple, ↓cSum, ↓cMax, ↓cMin, ↓cAll, ↓cAny, ↓cSorted, ↓dIn, ↓dInX, ↓eM, ↓mIndex, ↓tyM, ↓gSq, ↓cSet, natc0, natc1, natc2, List.findIdx?_cons, List.findIdx?_nil, intsOf_ints, boolsOf_bls, plAnyI, plAnyR, ↓cGcd, ↓cLcm, ↓eRange, ↓eIsi, ↓Sl.val, ↓Ow.toD, ↓stE, ↓tYes', ↓eIxM, ↓sSetM, ↓PL.isNon, ↓eC, ↓bC, ↓dSub, ↓dMul, ↓dDiv, ↓dMod, ↓dPow, ↓dLt, ↓dLe, ↓dGt, ↓dGe, ↓dAddI, ↓dDivS, ↓dEqI, ↓dNeI,
  List.getElem?_cons_zero, List.getElem?_cons_succ, List.set_cons_zero, List.set_cons_succ, List.map_cons, List.map_nil, List.length_cons, List.length_nil, List.nil_append, List.cons_append, List.replicate_succ, List.replicate_zero, List.append_nil, atI0, atI1, atI2, atI3, atI4,
  cmpOk_int, cmpOk_bl, cmpOk_non, deq_int, deq_bl, true_and, and_true, Nat.reduceAdd, Nat.reduceSub, Nat.reduceLeDiff, Nat.reduceLT, Bool.not_eq_true', Bool.false_eq_true, if_false, if_true, decide_eq_true_eq, decide_eq_false_iff_not, Nat.zero_add, Nat.sub_zero, Nat.add_zero, Nat.sub_self, isi_non_bool, isi_non_int, isi_non_str, isi_non_list, isi_non_tuple, isi_bl_bool, isi_bl_int, isi_bl_str, isi_bl_list, isi_bl_tuple, isi_int_bool, isi_int_int, isi_int_str, isi_int_list, isi_int_tuple, isi_str_bool, isi_str_int, isi_str_str, isi_str_list, isi_str_tuple, isi_lst_bool, isi_lst_int, isi_lst_str, isi_lst_list, isi_lst_tuple, isi_tup_bool, isi_tup_int, isi_tup_str, isi_tup_list, isi_tup_tuple, ixN31, ixN32, List.length_map, List.length_set, Int.reduceToNat, Int.reducePow, Int.reduceNeg, Int.reduceAdd, Int.reduceSub, Int.reduceMul, Int.reduceLT, Int.reduceLE, Int.reduceEq, Nat.reduceEqDiff, reduceCtorEq, List.mem_singleton, eq_self, not_true_eq_false, not_false_eq_true, or_true, true_or, cmpOk_lstA, cmpOk_tupA, ckA_lst, ckA_tup, ckAl_nil, ckAl_cons, ckAl_ints, ckAl_rangeL, ck_int, ck_bl, ck_non, ck_strI, cmpOk_str, deq_str, deq_tup, deq_lst, deqA_nil, deqA_cons, deqA_ints, Bool.and_true, Bool.true_and, Bool.and_false, Bool.false_and, decide_true, decide_false, Bool.not_true, Bool.not_false, ↓p_has, so0, sn0_1, sn0_2, sn0_3, so1, sn1_0, sn1_2, sn1_3, so2, sn2_0, sn2_1, sn2_3, so3, sn3_0, sn3_1, sn3_2, cat_BadSeries, hat]
      by_cases c2 : d < s
      · rw [if_pos c2]
        cases m with
        | zero =>
          obtain ⟨k, hk0⟩ := h0
          rw [hk0] at hp1
          cases hp1
          omega
        | succ m =>
          refine hJ m _ _ (by omega) ⟨rfl, by omega, fun q hq => ?_, by rw [show ((m + 1 : Nat) : Int) - 1 = m by omega]⟩
          rw [hp1] at hq
          cases hq
          exact c2
      · rw [if_neg c2]
        rw [patB_at hp.asc hp1 (by show s ≤ d; omega) hab] at h
        exact ⟨ns, rfl, hk.1.2.1, hk.1.1, h⟩
  · exact h.elim

local macro_rules | `(tactic| walk_at "go") => `(tactic| repeat' (first | assumption | with_reducible apply And.intro | walk_at "cs"))
local macro_rules | `(tactic| walk_at "ex") => `(tactic| simp only [List.cons.injEq, Sl.va.injEq, Sl.ow.injEq, Ow.lst.injEq, D.int.injEq, D.bl.injEq, D.str.injEq, D.lst.injEq, D.tup.injEq, true_and, and_true])
local macro_rules | `(tactic| walk_at "gn") => `(tactic| simp only [↓gN, ↓gsNil, ↓gsCons, ↓gT, ↓gSq, List.length_cons, List.length_nil, Nat.reduceAdd, true_and, List.set_cons_zero, List.set_cons_succ])
local macro_rules | `(tactic| walk_at "sp") => `(tactic| repeat' (first | split | with_reducible apply And.intro))
local macro_rules | `(tactic| walk_at "cs") => `(tactic| first | (unfold CMulP; omega) | (unfold CPowP; omega) | (unfold CModP; omega) | (unfold CDivP; omega))
local macro_rules | `(tactic| walk_at "pl") => `(tactic| simp only [↓sSeq, ↓sAsg, ↓sRet, ↓sRetN, ↓sIf, ↓sDrop, ↓sPar, ↓sAug, ↓sNext, ↓sTgt, ↓sApp, ↓sExt, ↓sPop, ↓sSet, ↓sBreak, ↓sCont, ↓eVar, ↓bVar, ↓eMov, ↓bE, ↓eBin, ↓tE, ↓eChain_eq, chS_bl, chS_true, chS_false, wipeE_nil, wipeE_cons, ↓eUn, ↓qAnd, ↓qOr, ↓qNot, ↓eAnd_eq, ↓eOr_eq, ↓sNever, ↓eNot, ↓eIf, ↓aNil, ↓aCons, ↓aConsB, ↓eTup, ↓eLst, ↓iSeq, ↓iR1, ↓iR2, ↓iEnum1, ↓iRev1, ↓cSortD, ↓sAugIt, ↓cMinPr,  ↓gN, ↓gsNil, ↓gsCons, ↓gT, ↓eCall, ↓eCallX, ↓sRaise, ↓sTry, ↓dI2, ↓dAdd, ↓dEq, ↓dNe, ↓dIsN, ↓dNotN, ↓dIx, ↓oNone, ↓oSome, ↓eSl, ↓eB, ↓cLen, ↓cInt, ↓cAbs, ↓cMax2, ↓cMin2, ↓cDivmod, ↓cList, ↓cTuple, ↓cSum, ↓cMax, ↓cMin, ↓cAll, ↓cAny, ↓cSorted, ↓dIn, ↓dInX, ↓eM, ↓mIndex, ↓tyM, ↓gSq, ↓cSet, natc0, natc1, natc2, List.findIdx?_cons, List.findIdx?_nil, intsOf_ints, boolsOf_bls, plAnyI, plAnyR, ↓cGcd, ↓cLcm, ↓eRange, ↓eIsi, ↓Sl.val, ↓Ow.toD, ↓stE, ↓tYes', ↓eIxM, ↓sSetM, ↓PL.isNon, ↓eC, ↓bC, ↓dSub, ↓dMul, ↓dDiv, ↓dMod, ↓dPow, ↓dLt, ↓dLe, ↓dGt, ↓dGe, ↓dAddI, ↓dDivS, ↓dEqI, ↓dNeI,
  List.getElem?_cons_zero, List.getElem?_cons_succ, List.set_cons_zero, List.set_cons_succ, List.map_cons, List.map_nil, List.length_cons, List.length_nil, List.nil_append, List.cons_append, List.replicate_succ, List.replicate_zero, List.append_nil, atI0, atI1, atI2, atI3, atI4,
  cmpOk_int, cmpOk_bl, cmpOk_non, deq_int, deq_bl, true_and, and_true, Nat.reduceAdd, Nat.reduceSub, Nat.reduceLeDiff, Nat.reduceLT, Bool.not_eq_true', Bool.false_eq_true, if_false, if_true, decide_eq_true_eq, decide_eq_false_iff_not, Nat.zero_add, Nat.sub_zero, Nat.add_zero, Nat.sub_self, isi_non_bool, isi_non_int, isi_non_str, isi_non_list, isi_non_tuple, isi_bl_bool, isi_bl_int, isi_bl_str, isi_bl_list, isi_bl_tuple, isi_int_bool, isi_int_int, isi_int_str, isi_int_list, isi_int_tuple, isi_str_bool, isi_str_int, isi_str_str, isi_str_list, isi_str_tuple, isi_lst_bool, isi_lst_int, isi_lst_str, isi_lst_list, isi_lst_tuple, isi_tup_bool, isi_tup_int, isi_tup_str, isi_tup_list, isi_tup_tuple, ixN31, ixN32, List.length_map, List.length_set, Int.reduceToNat, Int.reducePow, Int.reduceNeg, Int.reduceAdd, Int.reduceSub, Int.reduceMul, Int.reduceLT, Int.reduceLE, Int.reduceEq, Nat.reduceEqDiff, reduceCtorEq, List.mem_singleton, eq_self, not_true_eq_false, not_false_eq_true, or_true, true_or, cmpOk_lstA, cmpOk_tupA, ckA_lst, ckA_tup, ckAl_nil, ckAl_cons, ckAl_ints, ckAl_rangeL, ck_int, ck_bl, ck_non, ck_strI, cmpOk_str, deq_str, deq_tup, deq_lst, deqA_nil, deqA_cons, deqA_ints, Bool.and_true, Bool.true_and, Bool.and_false, Bool.false_and, decide_true, decide_false, Bool.not_true, Bool.not_false, ↓p_first_from, ↓p_windows, so0, sn0_1, sn0_2, sn0_3, so1, sn1_0, sn1_2, sn1_3, so2, sn2_0, sn2_1, sn2_3, so3, sn3_0, sn3_1, sn3_2, cat_BadSeries])
theorem ok_days_between (T : TF K mg) : FnOk P w K mg base CX0 3 T.a_days_between T.x_days_between ["pattern", "first", "end"] (liP K p_days_between) := by
  refine fn_P T.f_days_between sc_days_between (by intro ds M Q E h; unfold p_days_between at h; split at h <;> first | rfl | exact h.elim) (fun cdv A outer s H E z hz hr => (qs_cons (qs_set (i := 3) sc_days_between.nd rfl (by first | exact Or.inl rfl | exact Or.inr rfl) (qe_lst qa_nil))
    (qs_cons (qs_for PassesOwn.never rfl (qi_seq (h := (qe_call (ok_windows T) (hr.mono (by decide)) (by rfl) T.g_windows T.f_windows.kp T.b_windows pass0 (qa_cons (qe_var 0) qa_nil)))) (qg_seq (n := 3) rfl (qgs_cons (qg_name (i := 4) sc_days_between.nd rfl (by first | exact Or.inl rfl | exact Or.inr rfl)) (qgs_cons (qg_name (i := 5) sc_days_between.nd rfl (by first | exact Or.inl rfl | exact Or.inr rfl)) (qgs_cons (qg_name (i := 6) sc_days_between.nd rfl (by first | exact Or.inl rfl | exact Or.inr rfl)) qgs_nil))))
    (qs_cons (qs_set (i := 7) sc_days_between.nd rfl (by first | exact Or.inl rfl | exact Or.inr rfl) (qe_var 2))
    (qs_cons (qs_if (PW.pt (qw_and (qt_cmp ob_notN (qb_var 5) qb_non (nomark _)) (qw_and1 (qt_cmp ob_lt (qb_var 5) (qb_var 2) (nomark _)))))
    (qs_end (qs_set (i := 7) sc_days_between.nd rfl (by first | exact Or.inl rfl | exact Or.inr rfl) (qe_var 5)))
    qs_nil)
    (qs_cons (qs_set (i := 8) sc_days_between.nd rfl (by first | exact Or.inl rfl | exact Or.inr rfl) (qe_callB (cb_max2 rfl) (by rfl) T.m_max (by decide +kernel) (qab_cons (qb_var 4) (qab_cons (qb_var 1) qab_nil))))
    (qs_end (qs_if (PW.pt (qw_and (qt_cmp ob_gt (qb_of (qe_callB cb_len (by rfl) T.m_len (by decide +kernel) (qab_cons (qb_of (qe_ix (qb_var 6) qb_int)) qab_nil))) qb_int (nomark _)) (qw_and1 (qt_cmp ob_lt (qb_var 8) (qb_var 7) (nomark _)))))
    (qs_cons (qs_set (i := 8) sc_days_between.nd rfl (by first | exact Or.inl rfl | exact Or.inr rfl) (qe_call (ok_first_from T) hr (by rfl) T.g_first_from T.f_first_from.kp T.b_first_from pass0 (qa_cons (qe_ix (qb_var 6) qb_int) (qa_cons (qe_ix (qb_var 6) qb_int) (qa_cons (qe_var 8) qa_nil)))))
    (qs_end (qs_while PassesOwn.never (qt_cmp ob_lt (qb_var 8) (qb_var 7) (nomark _))
    (qs_cons (qs_append (i := 3) rfl (by first | exact Or.inl rfl | exact Or.inr (Or.inl rfl) | exact Or.inr (Or.inr rfl)) (qe_var 8))
    (qs_end (qs_set (i := 8) sc_days_between.nd rfl (by first | exact Or.inl rfl | exact Or.inr rfl) (qe_call (ok_first_from T) hr (by rfl) T.g_first_from T.f_first_from.kp T.b_first_from pass0 (qa_cons (qe_ix (qb_var 6) qb_int) (qa_cons (qe_ix (qb_var 6) qb_int) (qa_cons (qe_bin ob_add (qb_var 8) qb_int) qa_nil))))))))))
    qs_nil))))))
    (qs_end (qs_ret (qe_mov 3)))))) ?_
  intro ds M Q0 h
  unfold p_days_between at h
  split at h
  · skip
    obtain ⟨ps, rfl, ⟨hp, hl, hc⟩, h⟩ := h
    rename_i first en
    refine sSeq_i fun N1 h1 => ?_
    walk_at "pl"
    refine h1 _ _ ?_
    clear h1
    refine sSeq_i fun N1 h1 => ?_
    refine sFor_k fun N hN => ?_
    walk_at "pl"
    refine ⟨ps, rfl, hl, hN _ _ _ ?_⟩
    clear hN
    refine loop_i (fun i ρ M1 => M1 = M ∧ ∃ (a b c d e : Sl), ρ = [.va (.tup (ps.map pcD)), .va (.int first), .va (.int en), .ow (.lst (((rgI first (stD ps i en)).filter (patB ps)).map D.int)), a, b, c, d, e]) ⟨rfl, .un, .un, .un, .un, .un, ?_⟩ ?_ ?_
    · obtain ⟨k, r, e⟩ := hp.hd
      rw [List.filter_eq_nil_iff.mpr fun x hx => ?_]
      · rfl
      · have := (rgI_mem.mp hx).2
        rw [e] at this
        have : x < min 0 en := this
        rw [patB_neg hp (by omega)]
        simp
    · rintro J hJ i dd ρ M1 hd ⟨e, a, b, c, d, e2, rfl⟩
      subst e
      obtain ⟨s, P, ns, hi, hd⟩ := winD_get hd
      have hk : KdOk (P, ns) := hp.ok _ (List.mem_of_getElem? hi)
      have hs0 : 0 ≤ s := hp.nn _ (List.mem_of_getElem? hi)
      have hk1 : Res P ns := hk.1
      have hk2 : P < 1000000000 := hk.2.1
      have hk3 : ns.length < 4000 := hk.2.2
      have hP := hk1.1
      have e0 : stD ps i en = min s en := by unfold stD; rw [hi]
      rw [e0]
      have rest : ∀ (stp : D) (u : Int) (e2 : Sl), u ≤ en → (∀ x, s ≤ x → x < u → patB ps x = inP P ns x) → stD ps (i + 1) en = u → (s < u ∨ u = en) → ∀ N2 : Ev → Mu → Prop, (∀ ρ M, sSeq (sAsg 8 (eB cMax2 (aConsB (bVar 4) (aConsB (bVar 1) aNil))))
            (sIf
              (qAnd (tE (eBin dGt (bE (eB cLen (aConsB (bE (eBin dIx (bVar 6) (bC (D.int 1)))) aNil))) (bC (D.int 0))))
                (tE (eBin dLt (bVar 8) (bVar 7))))
              (sSeq
                (sAsg 8
                  (eCall p_first_from
                    (aCons (eBin dIx (bVar 6) (bC (D.int 0)))
                      (aCons (eBin dIx (bVar 6) (bC (D.int 1))) (aCons (eVar 8) aNil)))))
                (sWhile (tE (eBin dLt (bVar 8) (bVar 7)))
                  (sSeq (sApp 3 (eVar 8))
                    (sAsg 8
                      (eCall p_first_from
                        (aCons (eBin dIx (bVar 6) (bC (D.int 0)))
                          (aCons (eBin dIx (bVar 6) (bC (D.int 1)))
                            (aCons (eBin dAdd (bVar 8) (bC (D.int 1))) aNil))))))))
              sNext)
        { nx := J (i + 1), rt := Q0, bk := N1, ct := J (i + 1) } ρ M → N2 ρ M) → N2 [.va (.tup (ps.map pcD)), .va (.int first), .va (.int en), .ow (.lst (((rgI first (min s en)).filter (patB ps)).map D.int)), .va (.int s), .va stp, .va (.tup [.int P, .tup (ns.map D.int)]), .va (.int u), e2] M1 := by
        intro stp u e2 hu hwin e1 hsu N2 h2
        refine h2 _ _ ?_
        clear h2
        refine sSeq_i fun N2 h2 => ?_
        walk_at "pl"
        refine h2 _ _ ?_
        clear h2
        have hm : s ≤ (if first > s then first else s) ∧ first ≤ (if first > s then first else s) ∧ (∀ x, s ≤ x → first ≤ x → (if first > s then first else s) ≤ x) := by
          split <;> exact ⟨by omega, by omega, fun x _ _ => by omega⟩
        generalize (if first > s then first else s) = m at *
        have skip : (∀ x, m ≤ x → x < u → patB ps x = false) → (rgI first (min s en)).filter (patB ps) = (rgI first u).filter (patB ps) := fun hno => by
          refine filt_ext fun x h1 h2 => ?_
          by_cases c1 : s ≤ x
          · have := hm.2.2 x c1 h1
            by_cases c2 : x < u
            · rw [hno x this c2] at h2; cases h2
            · omega
          · omega
        have done : (rgI first (min s en)).filter (patB ps) = (rgI first u).filter (patB ps) → ∀ e : Sl, J (i + 1) [.va (.tup (ps.map pcD)), .va (.int first), .va (.int en), .ow (.lst (((rgI first (min s en)).filter (patB ps)).map D.int)), .va (.int s), .va stp, .va (.tup [.int P, .tup (ns.map D.int)]), .va (.int u), e] M1 := fun e e2 => by
          rw [e, ← e1]
          exact hJ _ _ _ ⟨rfl, _, _, _, _, _, rfl⟩
        refine sIf_k fun N3 h3 => ?_
        walk_at "pl"
        by_cases c0 : 0 < (ns.length : Int)
        · rw [if_pos c0]
          refine h3 _ _ _ ?_
          clear h3
          by_cases c1 : m < u
          · rw [decide_eq_true c1, if_pos rfl]
            refine sSeq_i fun N2 h2 => ?_
            walk_at "pl"
            refine ⟨ns, rfl, hk1.2.1, ⟨hP, by omega⟩, h2 _ _ ?_⟩
            clear h2
            obtain ⟨n1, n2, n3, n4⟩ := nextR_spec hk1 (by omega : 0 < ns.length) m
            refine sWhile_i (fun k ρ M2 => M2 = M1 ∧ ∃ y : Int, k = (u - y).toNat ∧ y % P ∈ ns ∧ m ≤ y ∧ ρ = [.va (.tup (ps.map pcD)), .va (.int first), .va (.int en), .ow (.lst (((rgI first (min y u)).filter (patB ps)).map D.int)), .va (.int s), .va stp, .va (.tup [.int P, .tup (ns.map D.int)]), .va (.int u), .va (.int y)]) _ ⟨rfl, nextR P ns m, rfl, n2, n1, ?_⟩ ?_
            · have : (rgI first (min s en)).filter (patB ps) = (rgI first (min (nextR P ns m) u)).filter (patB ps) := by
                refine filt_ext fun x h1 h2 => ?_
                by_cases c2 : s ≤ x
                · have h5 := hm.2.2 x c2 h1
                  by_cases c3 : x < min (nextR P ns m) u
                  · rw [hwin x c2 (by omega)] at h2
                    have := n4 x h5 (by simpa using h2)
                    omega
                  · omega
                · omega
              rw [this]
            · rintro k J2 hJ2 ρ M2 ⟨e, y, rfl, hy, hmy, rfl⟩
              subst e
              walk_at "pl"
              by_cases c2 : y < u
              · rw [if_pos c2]
                obtain ⟨k1, k2, k3, k4⟩ := nextR_spec hk1 (by omega : 0 < ns.length) (y + 1)
                have hfy : patB ps y = true := by rw [hwin y (by omega) c2]; exact decide_eq_true hy
                have hle := cntF_lt (f := patB ps) (a := first) (b := en) (by omega : first ≤ y) hfy (by omega)
                rw [show min y u = y by omega]
                refine ⟨by unfold cntF at hle hc; omega, ns, rfl, hk1.2.1, ⟨hP, by omega⟩, hJ2 _ _ _ ?_ ⟨rfl, nextR P ns (y + 1), rfl, k2, by omega, ?_⟩⟩
                · omega
                · rw [← List.map_singleton, ← List.map_append, filt_snoc (by omega) hfy]
                  have : (rgI first (y + 1)).filter (patB ps) = (rgI first (min (nextR P ns (y + 1)) u)).filter (patB ps) := by
                    refine filt_ext fun x h1 h2 => ?_
                    by_cases c3 : y + 1 ≤ x
                    · by_cases c4 : x < min (nextR P ns (y + 1)) u
                      · rw [hwin x (by omega) (by omega)] at h2
                        have := k4 x c3 (by simpa using h2)
                        omega
                      · omega
                    · omega
                  rw [this]
              · rw [if_neg c2]
                rw [show min y u = u by omega, ← e1]
                exact hJ _ _ _ ⟨rfl, _, _, _, _, _, rfl⟩
          · rw [decide_eq_false c1, if_neg (by decide)]
            walk_at "pl"
            exact done (skip fun x h1 h2 => by omega) _
        · rw [if_neg c0]
          refine h3 _ _ _ ?_
          clear h3
          rw [if_neg (by decide)]
          walk_at "pl"
          refine done (skip fun x h1 h2 => ?_) _
          rw [hwin x (by omega) h2, List.eq_nil_of_length_eq_zero (by omega : ns.length = 0)]
          simp
      rcases hd with ⟨q, hq, rfl⟩ | ⟨hi1, hq, rfl⟩
      · have hsq : s < q.1 := hp.next hi hq
        have hwin : ∀ x, s ≤ x → x < q.1 → patB ps x = inP P ns x := fun x h1 h2 => hp.win hi h1 fun q' hq' => by rw [hq] at hq'; cases hq'; exact h2
        have e1 : stD ps (i + 1) en = min q.1 en := by unfold stD; rw [hq]
        walk_at "gn"
        refine sSeq_i fun N2 h2 => ?_
        walk_at "pl"
        refine h2 _ _ ?_
        clear h2
        refine sSeq_i fun N2 h2 => ?_
        walk_at "pl"
        split
        · exact rest _ _ _ (by omega) (fun x h1 h2 => hwin x h1 (by omega)) (by omega) (by omega) N2 h2
        · exact rest _ _ _ (by omega) (fun x h1 h2 => hwin x h1 (by omega)) (by omega) (by omega) N2 h2
      · have hwin : ∀ x, s ≤ x → patB ps x = inP P ns x := fun x h1 => hp.win hi h1 fun q' hq' => by rw [hq] at hq'; cases hq'
        have e1 : stD ps (i + 1) en = en := by unfold stD; rw [hq]
        walk_at "gn"
        refine sSeq_i fun N2 h2 => ?_
        walk_at "pl"
        refine h2 _ _ ?_
        clear h2
        refine sSeq_i fun N2 h2 => ?_
        walk_at "pl"
        exact rest _ _ _ (by omega) (fun x h1 h2 => hwin x h1) (by omega) (by omega) N2 h2
    · rintro ρ M1 ⟨e, a, b, c, d, e2, rfl⟩
      subst e
      refine h1 _ _ ?_
      walk_at "pl"
      rw [winD_len, show stD ps ps.length en = en by unfold stD; rw [List.getElem?_eq_none (Nat.le_refl _)]]
      exact h
  · exact h.elim

local macro_rules | `(tactic| walk_at "go") => `(tactic| repeat' (first | assumption | with_reducible apply And.intro | walk_at "cs"))
local macro_rules | `(tactic| walk_at "ex") => `(tactic| simp only [List.cons.injEq, Sl.va.injEq, Sl.ow.injEq, Ow.lst.injEq, D.int.injEq, D.bl.injEq, D.str.injEq, D.lst.injEq, D.tup.injEq, true_and, and_true])
local macro_rules | `(tactic| walk_at "gn") => `(tactic| simp only [↓gN, ↓gsNil, ↓gsCons, ↓gT, ↓gSq, List.length_cons, List.length_nil, Nat.reduceAdd, true_and, List.set_cons_zero, List.set_cons_succ])
local macro_rules | `(tactic| walk_at "sp") => `(tactic| repeat' (first | split | with_reducible apply And.intro))
local macro_rules | `(tactic| walk_at "cs") => `(tactic| first | (unfold CMulP; omega) | (unfold CPowP; omega) | (unfold CModP; omega) | (unfold CDivP; omega))
local macro_rules | `(tactic| walk_at "pl") => `(tactic| simp only [↓sSeq, ↓sAsg, ↓sRet, ↓sRetN, ↓sIf, ↓sDrop, ↓sPar, ↓sAug, ↓sNext, ↓sTgt, ↓sApp, ↓sExt, ↓sPop, ↓sSet, ↓sBreak, ↓sCont, ↓eVar, ↓bVar, ↓eMov, ↓bE, ↓eBin, ↓tE, ↓eChain_eq, chS_bl, chS_true, chS_false, wipeE_nil, wipeE_cons, ↓eUn, ↓qAnd, ↓qOr, ↓qNot, ↓eAnd_eq, ↓eOr_eq, ↓sNever, ↓eNot, ↓eIf, ↓aNil, ↓aCons, ↓aConsB, ↓eTup, ↓eLst, ↓iSeq, ↓iR1, ↓iR2, ↓iEnum1, ↓iRev1, ↓cSortD, ↓sAugIt, ↓cMinPr,  ↓gN, ↓gsNil, ↓gsCons, ↓gT, ↓eCall, ↓eCallX, ↓sRaise, ↓sTry, ↓dI2, ↓dAdd, ↓dEq, ↓dNe, ↓dIsN, ↓dNotN, ↓dIx, ↓oNone, ↓oSome, ↓eSl, ↓eB, ↓cLen, ↓cInt, ↓cAbs, ↓cMax2, ↓cMin2, ↓cDivmod, ↓cList, ↓cTuple, ↓cSum, ↓cMax, ↓cMin, ↓cAll, ↓cAny, ↓cSorted, ↓dIn, ↓dInX, ↓eM, ↓mIndex, ↓tyM, ↓gSq, ↓cSet, natc0, natc1, natc2, List.findIdx?_cons, List.findIdx?_nil, intsOf_ints, boolsOf_bls, plAnyI, plAnyR, ↓cGcd, ↓cLcm, ↓eRange, ↓eIsi, ↓Sl.val, ↓Ow.toD, ↓stE, ↓tYes', ↓eIxM, ↓sSetM, ↓PL.isNon, ↓eC, ↓bC, ↓dSub, ↓dMul, ↓dDiv, ↓dMod, ↓dPow, ↓dLt, ↓dLe, ↓dGt, ↓dGe, ↓dAddI, ↓dDivS, ↓dEqI, ↓dNeI,
  List.getElem?_cons_zero, List.getElem?_cons_succ, List.set_cons_zero, List.set_cons_succ, List.map_cons, List.map_nil, List.length_cons, List.length_nil, List.nil_append, List.cons_append, List.replicate_succ, List.replicate_zero, List.append_nil, atI0, atI1, atI2, atI3, atI4,
  cmpOk_int, cmpOk_bl, cmpOk_non, deq_int, deq_bl, true_and, and_true, Nat.reduceAdd, Nat.reduceSub, Nat.reduceLeDiff, Nat.reduceLT, Bool.not_eq_true', Bool.false_eq_true, if_false, if_true, decide_eq_true_eq, decide_eq_false_iff_not, Nat.zero_add, Nat.sub_zero, Nat.add_zero, Nat.sub_self, isi_non_bool, isi_non_int, isi_non_str, isi_non_list, isi_non_tuple, isi_bl_bool, isi_bl_int, isi_bl_str, isi_bl_list, isi_bl_tuple, isi_int_bool, isi_int_int, isi_int_str, isi_int_list, isi_int_tuple, isi_str_bool, isi_str_int, isi_str_str, isi_str_list, isi_str_tuple, isi_lst_bool, isi_lst_int, isi_lst_str, isi_lst_list, isi_lst_tuple, isi_tup_bool, isi_tup_int, isi_tup_str, isi_tup_list, isi_tup_tuple, ixN31, ixN32, List.length_map, List.length_set, Int.reduceToNat, Int.reducePow, Int.reduceNeg, Int.reduceAdd, Int.reduceSub, Int.reduceMul, Int.reduceLT, Int.reduceLE, Int.reduceEq, Nat.reduceEqDiff, reduceCtorEq, List.mem_singleton, eq_self, not_true_eq_false, not_false_eq_true, or_true, true_or, cmpOk_lstA, cmpOk_tupA, ckA_lst, ckA_tup, ckAl_nil, ckAl_cons, ckAl_ints, ckAl_rangeL, ck_int, ck_bl, ck_non, ck_strI, cmpOk_str, deq_str, deq_tup, deq_lst, deqA_nil, deqA_cons, deqA_ints, Bool.and_true, Bool.true_and, Bool.and_false, Bool.false_and, decide_true, decide_false, Bool.not_true, Bool.not_false, ↓pDraw, ↓p__law_subset, so0, sn0_1, sn0_2, sn0_3, so1, sn1_0, sn1_2, sn1_3, so2, sn2_0, sn2_1, sn2_3, so3, sn3_0, sn3_1, sn3_2, cat_BadSeries])
theorem ok__law_pieces (T : TF K mg) : FnOk P w K mg base CX0 3 T.a__law_pieces T.x__law_pieces ["tape"] (liP K p__law_pieces) := by
  refine fn_P T.f__law_pieces sc__law_pieces (by intro ds M Q E h; unfold p__law_pieces at h; split at h <;> first | rfl | exact h.elim) (fun cdv A outer s H E z hz hr => (qs_cons (qs_set (i := 1) sc__law_pieces.nd rfl (by first | exact Or.inl rfl | exact Or.inr rfl) qe_int)
    (qs_cons (qs_set (i := 2) sc__law_pieces.nd rfl (by first | exact Or.inl rfl | exact Or.inr rfl) (qe_lst qa_nil))
    (qs_cons (qs_for PassesOwn.never rfl (qi_range1 (by rfl) T.m_range (qa_cons (qe_bin ob_add qb_int (qb_of (qe_call (ok__law_draw T) (hr.mono (by decide)) (by rfl) T.g__law_draw T.f__law_draw.kp T.b__law_draw pass0 (qa_cons (qe_var 0) (qa_cons qe_int qa_nil))))) qa_nil)) (qg_name (i := 3) sc__law_pieces.nd rfl (by first | exact Or.inl rfl | exact Or.inr rfl))
    (qs_cons (qs_set (i := 4) sc__law_pieces.nd rfl (by first | exact Or.inl rfl | exact Or.inr rfl) (qe_bin ob_add qb_int (qb_of (qe_call (ok__law_draw T) (hr.mono (by decide)) (by rfl) T.g__law_draw T.f__law_draw.kp T.b__law_draw pass0 (qa_cons (qe_var 0) (qa_cons qe_int qa_nil))))))
    (qs_cons (qs_append (i := 2) rfl (by first | exact Or.inl rfl | exact Or.inr (Or.inl rfl) | exact Or.inr (Or.inr rfl)) (qe_tup (qa_cons (qe_var 1) (qa_cons (qe_var 4) (qa_cons (qe_call (ok__law_subset T) hr (by rfl) T.g__law_subset T.f__law_subset.kp T.b__law_subset pass0 (qa_cons (qe_var 0) (qa_cons (qe_var 4) (qa_cons (qe_var 4) qa_nil)))) qa_nil)))))
    (qs_end (qs_set (i := 1) sc__law_pieces.nd rfl (by first | exact Or.inl rfl | exact Or.inr rfl) (qe_bin ob_add (qb_of (qe_bin ob_add (qb_var 1) qb_int)) (qb_of (qe_call (ok__law_draw T) (hr.mono (by decide)) (by rfl) T.g__law_draw T.f__law_draw.kp T.b__law_draw pass0 (qa_cons (qe_var 0) (qa_cons qe_int qa_nil))))))))))
    (qs_cons (qs_if (qt_cmp (ob_eq (hu64 hr)) (qb_of (qe_call (ok__law_draw T) (hr.mono (by decide)) (by rfl) T.g__law_draw T.f__law_draw.kp T.b__law_draw pass0 (qa_cons (qe_var 0) (qa_cons qe_int qa_nil)))) qb_int (nomark _))
    (qs_cons (qs_set (i := 4) sc__law_pieces.nd rfl (by first | exact Or.inl rfl | exact Or.inr rfl) (qe_ix (qb_of (qe_lst (qa_cons qe_int (qa_cons qe_int (qa_cons qe_int (qa_cons qe_int (qa_cons qe_int (qa_cons qe_int qa_nil)))))))) (qb_of (qe_call (ok__law_draw T) (hr.mono (by decide)) (by rfl) T.g__law_draw T.f__law_draw.kp T.b__law_draw pass0 (qa_cons (qe_var 0) (qa_cons qe_int qa_nil))))))
    (qs_end (qs_append (i := 2) rfl (by first | exact Or.inl rfl | exact Or.inr (Or.inl rfl) | exact Or.inr (Or.inr rfl)) (qe_tup (qa_cons (qe_bin ob_add (qb_var 1) (qb_of (qe_call (ok__law_draw T) (hr.mono (by decide)) (by rfl) T.g__law_draw T.f__law_draw.kp T.b__law_draw pass0 (qa_cons (qe_var 0) (qa_cons (qe_bin ob_pow qb_int qb_int) qa_nil))))) (qa_cons (qe_var 4) (qa_cons (qe_call (ok__law_subset T) hr (by rfl) T.g__law_subset T.f__law_subset.kp T.b__law_subset pass0 (qa_cons (qe_var 0) (qa_cons (qe_var 4) (qa_cons qe_int qa_nil)))) qa_nil)))))))
    qs_nil)
    (qs_end (qs_ret (qe_var 2)))))))) ?_
  intro ds M Q0 h
  unfold p__law_pieces at h
  split at h
  · skip
    obtain ⟨hT, h⟩ := h
    rename_i T
    refine sSeq_i fun N1 h1 => ?_
    walk_at "pl"
    refine h1 _ _ ?_
    clear h1
    refine sSeq_i fun N1 h1 => ?_
    walk_at "pl"
    refine h1 _ _ ?_
    clear h1
    refine sSeq_i fun N1 h1 => ?_
    refine sFor_k fun N hN => ?_
    walk_at "pl"
    refine ⟨hT, fun n n0 n1 => ⟨by omega, hN _ _ _ ?_⟩⟩
    clear hN
    refine loop_i (fun i ρ M1 => M1 = M ∧ ∃ (ps : List Pc) (s : Int) (a b : Sl), ρ = [.va (.ref T), .va (.int s), .ow (.lst (ps.map pcD)), a, b] ∧ ps.length = i ∧ PcInv ps s ∧ s ≤ 30 * i ∧ ∀ q ∈ ps, q.2.1 ≤ 12 ∧ q.1 ≤ 93) ⟨rfl, [], 0, .un, .un, rfl, rfl, .inl ⟨rfl, rfl⟩, by omega, by simp⟩ ?_ ?_
    · rintro J hJ i dd ρ M1 hd ⟨e, ps, s, a, b, rfl, hl, hin, hs, hq⟩
      subst e
      obtain ⟨rfl, hi⟩ := rangeL_get hd
      clear hd
      walk_at "gn"
      refine sSeq_i fun N2 h2 => ?_
      walk_at "pl"
      refine ⟨hT, fun r r0 r1 => h2 _ _ ?_⟩
      clear h2
      walk_at "pl"
      refine ⟨⟨hT, by omega, by omega, by omega, by omega⟩, fun ns n0 n1 n2 => ⟨by omega, hT, fun q q0 q1 => ?_⟩⟩
      have hk : KdOk (1 + r, ns) := ⟨⟨by omega, n0, n1⟩, by show 1 + r < _; omega, by show ns.length < _; omega⟩
      obtain ⟨b1, b2⟩ := hin.add (t := s) (u := s + 1 + q) hk (Int.le_refl _) (by omega) (fun e => by rcases hin with w | w; exact w.2; exact absurd e (by obtain ⟨k, r, e⟩ := w.1.hd; rw [e]; simp))
      refine hJ _ _ _ ⟨rfl, ps ++ [(s, 1 + r, ns)], s + 1 + q, .va (.int (0 + i)), .va (.int (1 + r)), by simp [pcD], by simp [hl], b2, by omega, fun p hp => ?_⟩
      rcases List.mem_append.mp hp with w | w
      · exact hq p w
      · rw [List.mem_singleton.mp w]
        exact ⟨by show 1 + r ≤ 12; omega, by show s ≤ 93; omega⟩
    · rintro ρ M1 ⟨e, ps, s, a, b, rfl, hl, hin, hs, hq⟩
      subst e
      rw [rangeL_len] at hl hs
      refine h1 _ _ ?_
      clear h1
      have hin2 : PatOk ps := by
        rcases hin with w | w
        · rw [w.1] at hl; simp at hl; omega
        · exact w.1
      walk_at "pl"
      refine ⟨hT, fun r r0 r1 => ?_⟩
      split
      · refine ⟨hT, fun r2 r2a r2b => ?_⟩
        obtain ⟨P, hP, hP2⟩ := at_intP (fun P => 12 < P ∧ P < 1000000000) (ds := [.int 1461, .int 997, .int 730, .int 10631, .int 1461, .int 146097]) r2a (by simp; omega) (by simp)
        rw [hP]
        walk_at "pl"
        refine ⟨by walk_at "cs", hT, fun r3 r3a r3b => ⟨⟨hT, by omega, by omega⟩, fun ns n0 n1 n2 => ⟨by omega, ?_⟩⟩⟩
        have hk : KdOk (P, ns) := ⟨⟨by omega, n0, n1⟩, hP2.2, by show ns.length < _; omega⟩
        obtain ⟨b1, b2⟩ := hin.add (t := s + r3) (u := s + r3 + 1) hk (by omega) (by omega) (fun e => absurd e (by obtain ⟨k, r, e⟩ := hin2.hd; rw [e]; simp))
        have := h (ps ++ [(s + r3, P, ns)]) ⟨b1, by simp; omega, ps, [(s + r3, P, ns)], rfl, hin2, hq, by simp; omega, by simp⟩
        simpa [pcD] using this
      · exact h ps ⟨hin2, by omega, ps, [], by simp, hin2, hq, by simp, by simp⟩
  · exact h.elim

local macro_rules | `(tactic| walk_at "go") => `(tactic| repeat' (first | assumption | with_reducible apply And.intro | walk_at "cs"))
local macro_rules | `(tactic| walk_at "ex") => `(tactic| simp only [List.cons.injEq, Sl.va.injEq, Sl.ow.injEq, Ow.lst.injEq, D.int.injEq, D.bl.injEq, D.str.injEq, D.lst.injEq, D.tup.injEq, true_and, and_true])
local macro_rules | `(tactic| walk_at "gn") => `(tactic| simp only [↓gN, ↓gsNil, ↓gsCons, ↓gT, ↓gSq, List.length_cons, List.length_nil, Nat.reduceAdd, true_and, List.set_cons_zero, List.set_cons_succ])
local macro_rules | `(tactic| walk_at "sp") => `(tactic| repeat' (first | split | with_reducible apply And.intro))
local macro_rules | `(tactic| walk_at "cs") => `(tactic| first | (unfold CMulP; omega) | (unfold CPowP; omega) | (unfold CModP; omega) | (unfold CDivP; omega))
local macro_rules | `(tactic| walk_at "pl") => `(tactic| simp only [↓sSeq, ↓sAsg, ↓sRet, ↓sRetN, ↓sIf, ↓sDrop, ↓sPar, ↓sAug, ↓sNext, ↓sTgt, ↓sApp, ↓sExt, ↓sPop, ↓sSet, ↓sBreak, ↓sCont, ↓eVar, ↓bVar, ↓eMov, ↓bE, ↓eBin, ↓tE, ↓eChain_eq, chS_bl, chS_true, chS_false, wipeE_nil, wipeE_cons, ↓eUn, ↓qAnd, ↓qOr, ↓qNot, ↓eAnd_eq, ↓eOr_eq, ↓sNever, ↓eNot, ↓eIf, ↓aNil, ↓aCons, ↓aConsB, ↓eTup, ↓eLst, ↓iSeq, ↓iR1, ↓iR2, ↓iEnum1, ↓iRev1, ↓cSortD, ↓sAugIt, ↓cMinPr,  ↓gN, ↓gsNil, ↓gsCons, ↓gT, ↓eCall, ↓eCallX, ↓sRaise, ↓sTry, ↓dI2, ↓dAdd, ↓dEq, ↓dNe, ↓dIsN, ↓dNotN, ↓dIx, ↓oNone, ↓oSome, ↓eSl, ↓eB, ↓cLen, ↓cInt, ↓cAbs, ↓cMax2, ↓cMin2, ↓cDivmod, ↓cList, ↓cTuple, ↓cSum, ↓cMax, ↓cMin, ↓cAll, ↓cAny, ↓cSorted, ↓dIn, ↓dInX, ↓eM, ↓mIndex, ↓tyM, ↓gSq, ↓cSet, natc0, natc1, natc2, List.findIdx?_cons, List.findIdx?_nil, intsOf_ints, boolsOf_bls, plAnyI, plAnyR, ↓cGcd, ↓cLcm, ↓eRange, ↓eIsi, ↓Sl.val, ↓Ow.toD, ↓stE, ↓tYes', ↓eIxM, ↓sSetM, ↓PL.isNon, ↓eC, ↓bC, ↓dSub, ↓dMul, ↓dDiv, ↓dMod, ↓dPow, ↓dLt, ↓dLe, ↓dGt, ↓dGe, ↓dAddI, ↓dDivS, ↓dEqI, ↓dNeI,
  List.getElem?_cons_zero, List.getElem?_cons_succ, List.set_cons_zero, List.set_cons_succ, List.map_cons, List.map_nil, List.length_cons, List.length_nil, List.nil_append, List.cons_append, List.replicate_succ, List.replicate_zero, List.append_nil, atI0, atI1, atI2, atI3, atI4,
  cmpOk_int, cmpOk_bl, cmpOk_non, deq_int, deq_bl, true_and, and_true, Nat.reduceAdd, Nat.reduceSub, Nat.reduceLeDiff, Nat.reduceLT, Bool.not_eq_true', Bool.false_eq_true, if_false, if_true, decide_eq_true_eq, decide_eq_false_iff_not, Nat.zero_add, Nat.sub_zero, Nat.add_zero, Nat.sub_self, isi_non_bool, isi_non_int, isi_non_str, isi_non_list, isi_non_tuple, isi_bl_bool, isi_bl_int, isi_bl_str, isi_bl_list, isi_bl_tuple, isi_int_bool, isi_int_int, isi_int_str, isi_int_list, isi_int_tuple, isi_str_bool, isi_str_int, isi_str_str, isi_str_list, isi_str_tuple, isi_lst_bool, isi_lst_int, isi_lst_str, isi_lst_list, isi_lst_tuple, isi_tup_bool, isi_tup_int, isi_tup_str, isi_tup_list, isi_tup_tuple, ixN31, ixN32, List.length_map, List.length_set, Int.reduceToNat, Int.reducePow, Int.reduceNeg, Int.reduceAdd, Int.reduceSub, Int.reduceMul, Int.reduceLT, Int.reduceLE, Int.reduceEq, Nat.reduceEqDiff, reduceCtorEq, List.mem_singleton, eq_self, not_true_eq_false, not_false_eq_true, or_true, true_or, cmpOk_lstA, cmpOk_tupA, ckA_lst, ckA_tup, ckAl_nil, ckAl_cons, ckAl_ints, ckAl_rangeL, ck_int, ck_bl, ck_non, ck_strI, cmpOk_str, deq_str, deq_tup, deq_lst, deqA_nil, deqA_cons, deqA_ints, Bool.and_true, Bool.true_and, Bool.and_false, Bool.false_and, decide_true, decide_false, Bool.not_true, Bool.not_false, ↓p_belongs, ↓p_days_between, so0, sn0_1, sn0_2, sn0_3, so1, sn1_0, sn1_2, sn1_3, so2, sn2_0, sn2_1, sn2_3, so3, sn3_0, sn3_1, sn3_2, cat_BadSeries])
theorem ok_dealt_out (T : TF K mg) : FnOk P w K mg base (L2.CX P w) 4 T.a_dealt_out T.x_dealt_out ["days", "names", "away", "first", "end"] (liPX K p_dealt_out) := by
  refine fn_PX T.f_dealt_out sc_dealt_out (by intro ds M Q E h; unfold p_dealt_out at h; split at h <;> first | rfl | exact h.elim) (fun cdv A outer s H E z W hz hr tk => (qs_cons (qs_if (PW.pt (qw_or (qt_cmp (ob_eq (hu64 hr)) (qb_of (qe_callB cb_len (by rfl) T.m_len (by decide +kernel) (qab_cons (qb_var 1) qab_nil))) qb_int (nomark _)) (qw_or1 (qt_cmp (ob_ne (hu64 hr)) (qb_of (qe_callB cb_len (by rfl) T.m_len (by decide +kernel) (qab_cons (qb_var 1) qab_nil))) (qb_of (qe_callB cb_len (by rfl) T.m_len (by decide +kernel) (qab_cons (qb_var 2) qab_nil))) (nomark _)))))
    (qs_end (qs_raise tk rfl T.q_BadSeries T.g_BadSeries T.k_BadSeries T.b_BadSeries T.t_BadSeries (by rfl)))
    qs_nil)
    (qs_cons (qs_set (i := 5) sc_dealt_out.nd rfl (by first | exact Or.inl rfl | exact Or.inr rfl) (qe_lc rfl sc_dealt_out.nd (own := [("name", 10)]) (qi_seq (h := (qe_var 1))) (blkOk_by (own := [("name", 10)]) (N := N_dealt_out) (sc := defScope s_dealt_out) (by decide +kernel)) (fun _ _ _ _ _ z hz => (qg_name (i := 10) sc_dealt_out.nd rfl (by first | exact Or.inl rfl | exact Or.inr rfl))) (fun _ _ _ _ _ => an_t0) (fun _ _ _ _ _ z hz => qe_int)))
    (qs_cons (qs_set (i := 6) sc_dealt_out.nd rfl (by first | exact Or.inl rfl | exact Or.inr rfl) (qe_lst qa_nil))
    (qs_cons (qs_for (by first | exact PassesOwn.never | exact passes_of rfl | assumption) rfl (qi_seq (h := (qe_call (ok_days_between T) hr (by rfl) T.g_days_between T.f_days_between.kp T.b_days_between pass0 (qa_cons (qe_var 0) (qa_cons (qe_var 3) (qa_cons (qe_var 4) qa_nil)))))) (qg_name (i := 7) sc_dealt_out.nd rfl (by first | exact Or.inl rfl | exact Or.inr rfl))
    (qs_cons (qs_setLc (i := 8) rfl sc_dealt_out.nd rfl rfl (sw_true rfl rfl rfl (by decide +kernel)) (own := [("k", 9)]) (qi_range1 (by rfl) T.m_range (qa_cons (qe_callB cb_len (by rfl) T.m_len (by decide +kernel) (qab_cons (qb_var 1) qab_nil)) qa_nil)) (blkOk_by (own := [("k", 9)]) (N := N_dealt_out) (sc := defScope s_dealt_out) (by decide +kernel)) (fun _ _ _ _ _ z hz => (qg_name (i := 9) sc_dealt_out.nd rfl (by first | exact Or.inl rfl | exact Or.inr rfl))) (fun _ _ _ _ _ => an_t1 fun z hz => (qt_not (qt_val (qe_call (ok_belongs T) hr (by rfl) T.g_belongs T.f_belongs.kp T.b_belongs pass0 (qa_cons (qe_ix (qb_var 2) (qb_var 9)) (qa_cons (qe_var 7) qa_nil)))))) (fun _ _ _ _ _ z hz => (qe_tup (qa_cons (qe_ix (qb_var 5) (qb_var 9)) (qa_cons (qe_var 9) qa_nil)))))
    (qs_end (qs_if (qt_cmp (ob_eq (hu64 hr)) (qb_of (qe_callB cb_len (by rfl) T.m_len (by decide +kernel) (qab_cons (qb_var 8) qab_nil))) qb_int (nomark _))
    (qs_end (qs_append (i := 6) rfl (by first | exact Or.inl rfl | exact Or.inr (Or.inl rfl) | exact Or.inr (Or.inr rfl)) (qe_tup (qa_cons (qe_var 7) (qa_cons qe_non qa_nil)))))
    (qs_cons (qs_set (i := 9) sc_dealt_out.nd rfl (by first | exact Or.inl rfl | exact Or.inr rfl) (qe_ix (qb_of (qe_callB (cb_minPr (by first | assumption | rfl) (hu64 hr)) (by rfl) T.m_min (by decide +kernel) (qab_cons (qb_var 8) qab_nil))) qb_int))
    (qs_cons (qs_augItem (i := 5) rfl (by first | exact Or.inl rfl | exact Or.inr (Or.inl rfl) | exact Or.inr (Or.inr rfl)) (qb_var 9) qb_int ipa_add)
    (qs_end (qs_append (i := 6) rfl (by first | exact Or.inl rfl | exact Or.inr (Or.inl rfl) | exact Or.inr (Or.inr rfl)) (qe_tup (qa_cons (qe_var 7) (qa_cons (qe_ix (qb_var 1) (qb_var 9)) qa_nil)))))))))))
    (qs_end (qs_ret (qe_mov 6)))))))) ?_
  intro ds M Q0 E0 h
  unfold p_dealt_out at h
  split at h
  · skip
    obtain ⟨ss, as, rfl, rfl, hs, ha, h⟩ := h
    rename_i first end_
    refine sSeq_i fun N1 h1 => ?_
    walk_at "pl"
    by_cases c1 : ss.length = 0
    · rw [if_pos (by omega)]
      rw [if_pos (.inl c1)] at h
      exact h
    rw [if_neg (by omega)]
    by_cases c2 : ss.length = as.length
    rotate_left
    · rw [if_pos (by omega)]
      rw [if_pos (.inr c2)] at h
      exact h
    rw [if_neg (by omega)]
    rw [if_neg (by omega)] at h
    obtain ⟨ps, rfl, ⟨hp, hpl, hcn⟩, hao, h⟩ := h
    refine h1 _ _ ?_
    clear h1
    refine sSeq_i fun N1 h1 => ?_
    walk_at "pl"
    refine eLc_fm (mapD fun _ => .int 0) (ss.map D.str) (fun Q h => by walk_at "pl"; exact h) rfl (by rw [List.length_map]; omega) ?_ ?_
    · intro i d acc J hd hl hJ
      obtain ⟨s, _, rfl⟩ := map_get hd
      walk_at "pl"
      exact ⟨hl, hJ⟩
    rw [mapD_map, show (ss.map fun _ => D.int 0) = (ss.map fun _ => (0 : Int)).map D.int by rw [List.map_map]; rfl]
    refine h1 _ _ ?_
    clear h1
    refine sSeq_i fun N1 h1 => ?_
    walk_at "pl"
    refine h1 _ _ ?_
    clear h1
    refine sSeq_i fun N1 h1 => ?_
    refine sFor_k fun N hN => ?_
    walk_at "pl"
    refine ⟨ps, rfl, ⟨hp, hpl, by omega⟩, hN _ _ _ ?_⟩
    clear hN
    refine loop_i (fun i ρ M1 => M1 = M ∧ ∃ a b c : Sl, (b = .un ∨ ∃ v, b = .va v) ∧ ρ = [.va (.tup (ps.map pcD)), .va (.lst (ss.map D.str)), .va (.lst (as.map patD)), .va (.int first), .va (.int end_), .ow (.lst ((dealF ss (awB as) (((rgI first end_).filter (patB ps)).take i)).2.map D.int)), .ow (.lst ((dealF ss (awB as) (((rgI first end_).filter (patB ps)).take i)).1.map duD)), a, c, b, .un]) ⟨rfl, _, _, _, .inl rfl, rfl⟩ ?_ ?_
    · rintro J hJ i dd ρ M1 hd ⟨rfl, a, b, c, hb, rfl⟩
      obtain ⟨day, hday, rfl⟩ := map_get hd
      walk_at "gn"
      refine sSeq_i fun N2 h2 => ?_
      walk_at "pl"
      generalize hst : dealF ss (awB as) (((rgI first end_).filter (patB ps)).take i) = st at *
      have hlo := dealF_len (ss := ss) (aw := awB as) (((rgI first end_).filter (patB ps)).take i)
      rw [hst] at hlo
      have et : ((rgI first end_).filter (patB ps)).take (i + 1) = ((rgI first end_).filter (patB ps)).take i ++ [day] := by rw [List.take_add_one, hday]; rfl
      have hst2 := dealF_snoc (ss := ss) (aw := awB as) (ds := ((rgI first end_).filter (patB ps)).take i) (d := day)
      rw [← et, hst] at hst2
      have hlr : st.1.length < 1000000 := by
        have : (((rgI first end_).filter (patB ps)).take i).length ≤ ((rgI first end_).filter (patB ps)).length := by rw [List.length_take]; omega
        have e1 : (((rgI first end_).filter (patB ps)).length : Int) < 1000000 := hcn
        omega
      refine eLc_fm (thD st.2 (awB as day)) (rangeL 0 ss.length) (fun Q h => by walk_at "pl"; exact ⟨by omega, h⟩) (by rcases hb with rfl | ⟨v, rfl⟩ <;> rfl) (by rw [rangeL_len]; omega) ?_ ?_
      · intro k d acc J hd hl2 hJ2
        obtain ⟨rfl, hk⟩ := rangeL_get hd
        walk_at "pl"
        have hk2 : k < as.length := by omega
        have hk3 : k < st.2.length := by omega
        rw [at_map (by omega) (show as[(0 + (k : Int)).toNat]? = some as[k] by rw [show (0 + (k : Int)).toNat = k by omega]; exact List.getElem?_eq_getElem hk2),
          at_map (by omega) (show st.2[(0 + (k : Int)).toNat]? = some st.2[k] by rw [show (0 + (k : Int)).toNat = k by omega]; exact List.getElem?_eq_getElem hk3)]
        simp only [↓sSeq, ↓sAsg, ↓sRet, ↓sRetN, ↓sIf, ↓sDrop, ↓sPar, ↓sAug, ↓sNext, ↓sTgt, ↓sApp, ↓sExt, ↓sPop, ↓sSet, ↓sBreak, ↓sCont, ↓eVar, ↓bVar, ↓eMov, ↓bE, ↓eBin, ↓tE, ↓eChain_eq, chS_bl, chS_true, chS_false, wipeE_nil, wipeE_cons, ↓eUn, ↓qAnd, ↓qOr, ↓qNot, ↓eAnd_eq, ↓eOr_eq, ↓sNever, ↓eNot, ↓eIf, ↓aNil, ↓aCons, ↓aConsB, ↓eTup, ↓eLst, ↓iSeq, ↓iR1, ↓iR2, ↓iEnum1, ↓iRev1, ↓cSortD, ↓sAugIt, ↓cMinPr,  ↓gN, ↓gsNil, ↓gsCons, ↓gT, ↓eCall, ↓eCallX, ↓sRaise, ↓sTry, ↓dI2, ↓dAdd, ↓dEq, ↓dNe, ↓dIsN, ↓dNotN, ↓dIx, ↓oNone, ↓oSome, ↓eSl, ↓eB, ↓cLen, ↓cInt, ↓cAbs, ↓cMax2, ↓cMin2, ↓cDivmod, ↓cList, ↓cTuple, ↓cSum, ↓cMax, ↓cMin, ↓cAll, ↓cAny, ↓cSorted, ↓dIn, ↓dInX, ↓eM, ↓mIndex, ↓tyM, ↓gSq, ↓cSet, natc0, natc1, natc2, List.findIdx?_cons, List.findIdx?_nil, intsOf_ints, boolsOf_bls, plAnyI, plAnyR, ↓cGcd, ↓cLcm, ↓eRange, ↓eIsi, ↓Sl.val, ↓Ow.toD, ↓stE, ↓tYes', ↓eIxM, ↓sSetM, ↓PL.isNon, ↓eC, ↓bC, ↓dSub, ↓dMul, ↓dDiv, ↓dMod, ↓dPow, ↓dLt, ↓dLe, ↓dGt, ↓dGe, ↓dAddI, ↓dDivS, ↓dEqI, ↓dNeI,
  List.getElem?_cons_zero, List.getElem?_cons_succ, List.set_cons_zero, List.set_cons_succ, List.map_cons, List.map_nil, List.length_cons, List.length_nil, List.nil_append, List.cons_append, List.replicate_succ, List.replicate_zero, List.append_nil, atI0, atI1, atI2, atI3, atI4,
  cmpOk_int, cmpOk_bl, cmpOk_non, deq_int, deq_bl, true_and, and_true, Nat.reduceAdd, Nat.reduceSub, Nat.reduceLeDiff, Nat.reduceLT, Bool.not_eq_true', Bool.false_eq_true, if_false, if_true, decide_eq_true_eq, decide_eq_false_iff_not, Nat.zero_add, Nat.sub_zero, Nat.add_zero, Nat.sub_self, isi_non_bool, isi_non_int, isi_non_str, isi_non_list, isi_non_tuple, isi_bl_bool, isi_bl_int, isi_bl_str, isi_bl_list, isi_bl_tuple, isi_int_bool, isi_int_int, isi_int_str, isi_int_list, isi_int_tuple, isi_str_bool, isi_str_int, isi_str_str, isi_str_list, isi_str_tuple, isi_lst_bool, isi_lst_int, isi_lst_str, isi_lst_list, isi_lst_tuple, isi_tup_bool, isi_tup_int, isi_tup_str, isi_tup_list, isi_tup_tuple, ixN31, ixN32, List.length_map, List.length_set, Int.reduceToNat, Int.reducePow, Int.reduceNeg, Int.reduceAdd, Int.reduceSub, Int.reduceMul, Int.reduceLT, Int.reduceLE, Int.reduceEq, Nat.reduceEqDiff, reduceCtorEq, List.mem_singleton, eq_self, not_true_eq_false, not_false_eq_true, or_true, true_or, cmpOk_lstA, cmpOk_tupA, ckA_lst, ckA_tup, ckAl_nil, ckAl_cons, ckAl_ints, ckAl_rangeL, ck_int, ck_bl, ck_non, ck_strI, cmpOk_str, deq_str, deq_tup, deq_lst, deqA_nil, deqA_cons, deqA_ints, Bool.and_true, Bool.true_and, Bool.and_false, Bool.false_and, decide_true, decide_false, Bool.not_true, Bool.not_false, ↓p_belongs, ↓p_days_between, so0, sn0_1, sn0_2, sn0_3, so1, sn1_0, sn1_2, sn1_3, so2, sn2_0, sn2_1, sn2_3, so3, sn3_0, sn3_1, sn3_2, cat_BadSeries, patD]
        refine ⟨as[k], rfl, hao _ (List.getElem_mem hk2), ?_⟩
        have e1 : awB as day k = patB as[k] day := by
          unfold awB
          rw [List.getD_eq_getElem?_getD, List.getElem?_eq_getElem hk2]
          rfl
        have e2 : st.2.getD k 0 = st.2[k] := by rw [List.getD_eq_getElem?_getD, List.getElem?_eq_getElem hk3]; rfl
        have e3 : thD st.2 (awB as day) (.int (0 + (k : Int))) = if awB as day k = true then none else some (spD (st.2.getD k 0, 0 + (k : Int))) := by
          show (if awB as day (0 + (k : Int)).toNat = true then none else some (spD (st.2.getD (0 + (k : Int)).toNat 0, 0 + (k : Int)))) = _
          rw [show (0 + (k : Int)).toNat = k by omega]
        rw [e3, e1, e2] at hJ2
        cases c : patB as[k] day with
        | true =>
          rw [c, if_pos rfl] at hJ2
          rw [if_neg (by simp)]
          simpa using hJ2
        | false =>
          rw [c, if_neg (by simp)] at hJ2
          rw [if_pos rfl]
          exact ⟨hl2, hJ2⟩
      rw [thD_map]
      generalize hP : ((List.range ss.length).filter fun k => !(awB as day) k).map (fun k => (st.2.getD k 0, (k : Int))) = P at *
      have hbest := bestK_is (loads := st.2) (aw := awB as day) ss.length
      have hPl : P.length ≤ ss.length := by
        rw [← hP, List.length_map]
        have := List.length_filter_le (fun k => !(awB as day) k) (List.range ss.length)
        rw [List.length_range] at this
        exact this
      have hPm : ∀ p, p ∈ P ↔ ∃ k : Nat, k < ss.length ∧ awB as day k = false ∧ p = (st.2.getD k 0, (k : Int)) := fun p => by
        rw [← hP]
        simp only [List.mem_map, List.mem_filter, List.mem_range, Bool.not_eq_true']
        exact ⟨fun ⟨k, ⟨h1, h2⟩, e⟩ => ⟨k, h1, h2, e.symm⟩, fun ⟨k, h1, h2, e⟩ => ⟨k, ⟨h1, h2⟩, e.symm⟩⟩
      unfold stepD at hst2
      walk_at "pl"
      refine h2 _ _ ?_
      clear h2
      walk_at "pl"
      by_cases c : P.length = 0
      · rw [if_pos (by omega)]
        have eb : bestK st.2 (awB as day) ss.length = none := by
          cases e : bestK st.2 (awB as day) ss.length with
          | none => rfl
          | some b =>
            rw [e] at hbest
            have := (hPm _).mpr ⟨b, hbest.1, hbest.2.1, rfl⟩
            rw [List.eq_nil_of_length_eq_zero c] at this
            cases this
        rw [eb] at hst2
        refine ⟨by omega, hJ _ _ _ ⟨rfl, .va (.int day), b, .ow (.lst (P.map spD)), hb, ?_⟩⟩
        rw [hst2]
        simp [duD, oS]
      · rw [if_neg (by omega)]
        refine ⟨P, rfl, fun w => c (by rw [w]; rfl), fun p hp hle => ?_⟩
        obtain ⟨k, hk, hak, rfl⟩ := (hPm p).mp hp
        have eb : bestK st.2 (awB as day) ss.length = some k := by
          refine hbest.uniq (r2 := some k) ⟨hk, hak, fun j hj haj => ?_⟩
          have := hle _ ((hPm _).mpr ⟨j, hj, haj, rfl⟩)
          unfold lePr at this
          rw [decide_eq_true_iff] at this
          simp only [] at this
          omega
        rw [eb] at hst2
        have hk3 : k < st.2.length := by omega
        have e2 : st.2.getD k 0 = st.2[k] := by rw [List.getD_eq_getElem?_getD, List.getElem?_eq_getElem hk3]; rfl
        have e3 : ixN (st.2.map D.int).length (k : Int) = some k := by
          unfold ixN
          rw [List.length_map, if_pos (by omega), if_pos (by omega), show ((k : Int)).toNat = k by omega]
        have e4 : (st.2.map D.int)[k]? = some (.int st.2[k]) := by rw [List.getElem?_map, List.getElem?_eq_getElem hk3]; rfl
        have e5 : atI (ss.map D.str) (k : Int) = some (.str ss[k]) := at_map (by omega) (by rw [show ((k : Int)).toNat = k by omega]; exact List.getElem?_eq_getElem hk)
        simp only [↓sSeq, ↓sAsg, ↓sRet, ↓sRetN, ↓sIf, ↓sDrop, ↓sPar, ↓sAug, ↓sNext, ↓sTgt, ↓sApp, ↓sExt, ↓sPop, ↓sSet, ↓sBreak, ↓sCont, ↓eVar, ↓bVar, ↓eMov, ↓bE, ↓eBin, ↓tE, ↓eChain_eq, chS_bl, chS_true, chS_false, wipeE_nil, wipeE_cons, ↓eUn, ↓qAnd, ↓qOr, ↓qNot, ↓eAnd_eq, ↓eOr_eq, ↓sNever, ↓eNot, ↓eIf, ↓aNil, ↓aCons, ↓aConsB, ↓eTup, ↓eLst, ↓iSeq, ↓iR1, ↓iR2, ↓iEnum1, ↓iRev1, ↓cSortD, ↓sAugIt, ↓cMinPr,  ↓gN, ↓gsNil, ↓gsCons, ↓gT, ↓eCall, ↓eCallX, ↓sRaise, ↓sTry, ↓dI2, ↓dAdd, ↓dEq, ↓dNe, ↓dIsN, ↓dNotN, ↓dIx, ↓oNone, ↓oSome, ↓eSl, ↓eB, ↓cLen, ↓cInt, ↓cAbs, ↓cMax2, ↓cMin2, ↓cDivmod, ↓cList, ↓cTuple, ↓cSum, ↓cMax, ↓cMin, ↓cAll, ↓cAny, ↓cSorted, ↓dIn, ↓dInX, ↓eM, ↓mIndex, ↓tyM, ↓gSq, ↓cSet, natc0, natc1, natc2, List.findIdx?_cons, List.findIdx?_nil, intsOf_ints, boolsOf_bls, plAnyI, plAnyR, ↓cGcd, ↓cLcm, ↓eRange, ↓eIsi, ↓Sl.val, ↓Ow.toD, ↓stE, ↓tYes', ↓eIxM, ↓sSetM, ↓PL.isNon, ↓eC, ↓bC, ↓dSub, ↓dMul, ↓dDiv, ↓dMod, ↓dPow, ↓dLt, ↓dLe, ↓dGt, ↓dGe, ↓dAddI, ↓dDivS, ↓dEqI, ↓dNeI,
  List.getElem?_cons_zero, List.getElem?_cons_succ, List.set_cons_zero, List.set_cons_succ, List.map_cons, List.map_nil, List.length_cons, List.length_nil, List.nil_append, List.cons_append, List.replicate_succ, List.replicate_zero, List.append_nil, atI0, atI1, atI2, atI3, atI4,
  cmpOk_int, cmpOk_bl, cmpOk_non, deq_int, deq_bl, true_and, and_true, Nat.reduceAdd, Nat.reduceSub, Nat.reduceLeDiff, Nat.reduceLT, Bool.not_eq_true', Bool.false_eq_true, if_false, if_true, decide_eq_true_eq, decide_eq_false_iff_not, Nat.zero_add, Nat.sub_zero, Nat.add_zero, Nat.sub_self, isi_non_bool, isi_non_int, isi_non_str, isi_non_list, isi_non_tuple, isi_bl_bool, isi_bl_int, isi_bl_str, isi_bl_list, isi_bl_tuple, isi_int_bool, isi_int_int, isi_int_str, isi_int_list, isi_int_tuple, isi_str_bool, isi_str_int, isi_str_str, isi_str_list, isi_str_tuple, isi_lst_bool, isi_lst_int, isi_lst_str, isi_lst_list, isi_lst_tuple, isi_tup_bool, isi_tup_int, isi_tup_str, isi_tup_list, isi_tup_tuple, ixN31, ixN32, List.length_map, List.length_set, Int.reduceToNat, Int.reducePow, Int.reduceNeg, Int.reduceAdd, Int.reduceSub, Int.reduceMul, Int.reduceLT, Int.reduceLE, Int.reduceEq, Nat.reduceEqDiff, reduceCtorEq, List.mem_singleton, eq_self, not_true_eq_false, not_false_eq_true, or_true, true_or, cmpOk_lstA, cmpOk_tupA, ckA_lst, ckA_tup, ckAl_nil, ckAl_cons, ckAl_ints, ckAl_rangeL, ck_int, ck_bl, ck_non, ck_strI, cmpOk_str, deq_str, deq_tup, deq_lst, deqA_nil, deqA_cons, deqA_ints, Bool.and_true, Bool.true_and, Bool.and_false, Bool.false_and, decide_true, decide_false, Bool.not_true, Bool.not_false, ↓p_belongs, ↓p_days_between, so0, sn0_1, sn0_2, sn0_3, so1, sn1_0, sn1_2, sn1_3, so2, sn2_0, sn2_1, sn2_3, so3, sn3_0, sn3_1, sn3_2, cat_BadSeries, spD, show atI [D.int (st.2.getD k 0), D.int (k : Int)] 1 = some (.int (k : Int)) from rfl, e3, e4, e5]
        rw [List.length_map] at e3
        rw [e3]
        simp only [↓sSeq, ↓sAsg, ↓sRet, ↓sRetN, ↓sIf, ↓sDrop, ↓sPar, ↓sAug, ↓sNext, ↓sTgt, ↓sApp, ↓sExt, ↓sPop, ↓sSet, ↓sBreak, ↓sCont, ↓eVar, ↓bVar, ↓eMov, ↓bE, ↓eBin, ↓tE, ↓eChain_eq, chS_bl, chS_true, chS_false, wipeE_nil, wipeE_cons, ↓eUn, ↓qAnd, ↓qOr, ↓qNot, ↓eAnd_eq, ↓eOr_eq, ↓sNever, ↓eNot, ↓eIf, ↓aNil, ↓aCons, ↓aConsB, ↓eTup, ↓eLst, ↓iSeq, ↓iR1, ↓iR2, ↓iEnum1, ↓iRev1, ↓cSortD, ↓sAugIt, ↓cMinPr,  ↓gN, ↓gsNil, ↓gsCons, ↓gT, ↓eCall, ↓eCallX, ↓sRaise, ↓sTry, ↓dI2, ↓dAdd, ↓dEq, ↓dNe, ↓dIsN, ↓dNotN, ↓dIx, ↓oNone, ↓oSome, ↓eSl, ↓eB, ↓cLen, ↓cInt, ↓cAbs, ↓cMax2, ↓cMin2, ↓cDivmod, ↓cList, ↓cTuple, ↓cSum, ↓cMax, ↓cMin, ↓cAll, ↓cAny, ↓cSorted, ↓dIn, ↓dInX, ↓eM, ↓mIndex, ↓tyM, ↓gSq, ↓cSet, natc0, natc1, natc2, List.findIdx?_cons, List.findIdx?_nil, intsOf_ints, boolsOf_bls, plAnyI, plAnyR, ↓cGcd, ↓cLcm, ↓eRange, ↓eIsi, ↓Sl.val, ↓Ow.toD, ↓stE, ↓tYes', ↓eIxM, ↓sSetM, ↓PL.isNon, ↓eC, ↓bC, ↓dSub, ↓dMul, ↓dDiv, ↓dMod, ↓dPow, ↓dLt, ↓dLe, ↓dGt, ↓dGe, ↓dAddI, ↓dDivS, ↓dEqI, ↓dNeI,
  List.getElem?_cons_zero, List.getElem?_cons_succ, List.set_cons_zero, List.set_cons_succ, List.map_cons, List.map_nil, List.length_cons, List.length_nil, List.nil_append, List.cons_append, List.replicate_succ, List.replicate_zero, List.append_nil, atI0, atI1, atI2, atI3, atI4,
  cmpOk_int, cmpOk_bl, cmpOk_non, deq_int, deq_bl, true_and, and_true, Nat.reduceAdd, Nat.reduceSub, Nat.reduceLeDiff, Nat.reduceLT, Bool.not_eq_true', Bool.false_eq_true, if_false, if_true, decide_eq_true_eq, decide_eq_false_iff_not, Nat.zero_add, Nat.sub_zero, Nat.add_zero, Nat.sub_self, isi_non_bool, isi_non_int, isi_non_str, isi_non_list, isi_non_tuple, isi_bl_bool, isi_bl_int, isi_bl_str, isi_bl_list, isi_bl_tuple, isi_int_bool, isi_int_int, isi_int_str, isi_int_list, isi_int_tuple, isi_str_bool, isi_str_int, isi_str_str, isi_str_list, isi_str_tuple, isi_lst_bool, isi_lst_int, isi_lst_str, isi_lst_list, isi_lst_tuple, isi_tup_bool, isi_tup_int, isi_tup_str, isi_tup_list, isi_tup_tuple, ixN31, ixN32, List.length_map, List.length_set, Int.reduceToNat, Int.reducePow, Int.reduceNeg, Int.reduceAdd, Int.reduceSub, Int.reduceMul, Int.reduceLT, Int.reduceLE, Int.reduceEq, Nat.reduceEqDiff, reduceCtorEq, List.mem_singleton, eq_self, not_true_eq_false, not_false_eq_true, or_true, true_or, cmpOk_lstA, cmpOk_tupA, ckA_lst, ckA_tup, ckAl_nil, ckAl_cons, ckAl_ints, ckAl_rangeL, ck_int, ck_bl, ck_non, ck_strI, cmpOk_str, deq_str, deq_tup, deq_lst, deqA_nil, deqA_cons, deqA_ints, Bool.and_true, Bool.true_and, Bool.and_false, Bool.false_and, decide_true, decide_false, Bool.not_true, Bool.not_false, ↓p_belongs, ↓p_days_between, so0, sn0_1, sn0_2, sn0_3, so1, sn1_0, sn1_2, sn1_3, so2, sn2_0, sn2_1, sn2_3, so3, sn3_0, sn3_1, sn3_2, cat_BadSeries, e4]
        refine ⟨by omega, hJ _ _ _ ⟨rfl, .va (.int day), .va (.int k), .ow (.lst (P.map spD)), .inr ⟨_, rfl⟩, ?_⟩⟩
        rw [hst2]
        simp only [e2, List.getElem?_eq_getElem hk]
        simp [duD, oS, List.map_set]
    · rintro ρ M1 ⟨rfl, a, b, c, hb, rfl⟩
      rw [List.length_map, List.take_length]
      refine h1 _ _ ?_
      clear h1
      walk_at "pl"
      exact h
  · exact h.elim

local macro_rules | `(tactic| walk_at "go") => `(tactic| repeat' (first | assumption | with_reducible apply And.intro | walk_at "cs"))
local macro_rules | `(tactic| walk_at "ex") => `(tactic| simp only [List.cons.injEq, Sl.va.injEq, Sl.ow.injEq, Ow.lst.injEq, D.int.injEq, D.bl.injEq, D.str.injEq, D.lst.injEq, D.tup.injEq, true_and, and_true])
local macro_rules | `(tactic| walk_at "gn") => `(tactic| simp only [↓gN, ↓gsNil, ↓gsCons, ↓gT, ↓gSq, List.length_cons, List.length_nil, Nat.reduceAdd, true_and, List.set_cons_zero, List.set_cons_succ])
local macro_rules | `(tactic| walk_at "sp") => `(tactic| repeat' (first | split | with_reducible apply And.intro))
local macro_rules | `(tactic| walk_at "cs") => `(tactic| first | (unfold CMulP; omega) | (unfold CPowP; omega) | (unfold CModP; omega) | (unfold CDivP; omega))
local macro_rules | `(tactic| walk_at "pl") => `(tactic| simp only [↓sSeq, ↓sAsg, ↓sRet, ↓sRetN, ↓sIf, ↓sDrop, ↓sPar, ↓sAug, ↓sNext, ↓sTgt, ↓sApp, ↓sExt, ↓sPop, ↓sSet, ↓sBreak, ↓sCont, ↓eVar, ↓bVar, ↓eMov, ↓bE, ↓eBin, ↓tE, ↓eChain_eq, chS_bl, chS_true, chS_false, wipeE_nil, wipeE_cons, ↓eUn, ↓qAnd, ↓qOr, ↓qNot, ↓eAnd_eq, ↓eOr_eq, ↓sNever, ↓eNot, ↓eIf, ↓aNil, ↓aCons, ↓aConsB, ↓eTup, ↓eLst, ↓iSeq, ↓iR1, ↓iR2, ↓iEnum1, ↓iRev1, ↓cSortD, ↓sAugIt, ↓cMinPr,  ↓gN, ↓gsNil, ↓gsCons, ↓gT, ↓eCall, ↓eCallX, ↓sRaise, ↓sTry, ↓dI2, ↓dAdd, ↓dEq, ↓dNe, ↓dIsN, ↓dNotN, ↓dIx, ↓oNone, ↓oSome, ↓eSl, ↓eB, ↓cLen, ↓cInt, ↓cAbs, ↓cMax2, ↓cMin2, ↓cDivmod, ↓cList, ↓cTuple, ↓cSum, ↓cMax, ↓cMin, ↓cAll, ↓cAny, ↓cSorted, ↓dIn, ↓dInX, ↓eM, ↓mIndex, ↓tyM, ↓gSq, ↓cSet, natc0, natc1, natc2, List.findIdx?_cons, List.findIdx?_nil, intsOf_ints, boolsOf_bls, plAnyI, plAnyR, ↓cGcd, ↓cLcm, ↓eRange, ↓eIsi, ↓Sl.val, ↓Ow.toD, ↓stE, ↓tYes', ↓eIxM, ↓sSetM, ↓PL.isNon, ↓eC, ↓bC, ↓dSub, ↓dMul, ↓dDiv, ↓dMod, ↓dPow, ↓dLt, ↓dLe, ↓dGt, ↓dGe, ↓dAddI, ↓dDivS, ↓dEqI, ↓dNeI,
  List.getElem?_cons_zero, List.getElem?_cons_succ, List.set_cons_zero, List.set_cons_succ, List.map_cons, List.map_nil, List.length_cons, List.length_nil, List.nil_append, List.cons_append, List.replicate_succ, List.replicate_zero, List.append_nil, atI0, atI1, atI2, atI3, atI4,
  cmpOk_int, cmpOk_bl, cmpOk_non, deq_int, deq_bl, true_and, and_true, Nat.reduceAdd, Nat.reduceSub, Nat.reduceLeDiff, Nat.reduceLT, Bool.not_eq_true', Bool.false_eq_true, if_false, if_true, decide_eq_true_eq, decide_eq_false_iff_not, Nat.zero_add, Nat.sub_zero, Nat.add_zero, Nat.sub_self, isi_non_bool, isi_non_int, isi_non_str, isi_non_list, isi_non_tuple, isi_bl_bool, isi_bl_int, isi_bl_str, isi_bl_list, isi_bl_tuple, isi_int_bool, isi_int_int, isi_int_str, isi_int_list, isi_int_tuple, isi_str_bool, isi_str_int, isi_str_str, isi_str_list, isi_str_tuple, isi_lst_bool, isi_lst_int, isi_lst_str, isi_lst_list, isi_lst_tuple, isi_tup_bool, isi_tup_int, isi_tup_str, isi_tup_list, isi_tup_tuple, ixN31, ixN32, List.length_map, List.length_set, Int.reduceToNat, Int.reducePow, Int.reduceNeg, Int.reduceAdd, Int.reduceSub, Int.reduceMul, Int.reduceLT, Int.reduceLE, Int.reduceEq, Nat.reduceEqDiff, reduceCtorEq, List.mem_singleton, eq_self, not_true_eq_false, not_false_eq_true, or_true, true_or, cmpOk_lstA, cmpOk_tupA, ckA_lst, ckA_tup, ckAl_nil, ckAl_cons, ckAl_ints, ckAl_rangeL, ck_int, ck_bl, ck_non, ck_strI, cmpOk_str, deq_str, deq_tup, deq_lst, deqA_nil, deqA_cons, deqA_ints, Bool.and_true, Bool.true_and, Bool.and_false, Bool.false_and, decide_true, decide_false, Bool.not_true, Bool.not_false, ↓p_dealt_out, so0, sn0_1, sn0_2, sn0_3, so1, sn1_0, sn1_2, sn1_3, so2, sn2_0, sn2_1, sn2_3, so3, sn3_0, sn3_1, sn3_2, cat_BadSeries])
theorem ok__law_refused (T : TF K mg) : FnOk P w K mg base CX0 5 T.a__law_refused T.x__law_refused ["names", "away"] (liP K p__law_refused) := by
  refine fn_P T.f__law_refused sc__law_refused (by intro ds M Q E h; unfold p__law_refused at h; split at h <;> first | rfl | exact h.elim) (fun cdv A outer s H E z hz hr => (qs_cons (qs_try (cat := cat_BadSeries) rfl rfl (by rfl) (by decide) T.g_BadSeries takesF (by first | assumption | rfl) T.ct_BadSeries (fun z W pn xe hz tk => (qs_end (qs_expr (qe_callX tk (ok_dealt_out T) hr (by rfl) T.g_dealt_out T.f_dealt_out.kp T.b_dealt_out (qa_cons (qe_tup (qa_cons (qe_tup (qa_cons qe_int (qa_cons qe_int (qa_cons (qe_tup (qa_cons qe_int qa_nil)) qa_nil)))) qa_nil)) (qa_cons (qe_var 0) (qa_cons (qe_var 1) (qa_cons qe_int (qa_cons qe_int qa_nil)))))))))
    (fun z a pn hz => (qs_end (qs_ret qe_bl))))
    (qs_end (qs_ret qe_bl)))) ?_
  intro ds M Q0 h
  unfold p__law_refused at h
  split at h
  · skip
    obtain ⟨ss, rfl, hs, h⟩ := h
    walk_at "pl"
    refine ⟨ss, [], rfl, rfl, by omega, by simp, ?_⟩
    by_cases c : ss.length = 0 ∨ ss.length ≠ ([] : List (List Pc)).length
    · rw [if_pos c]; exact h
    · exact absurd (by simp only [List.length_nil]; omega) c
  · exact h.elim

def nms : List Str := [Str.ofString "ann", Str.ofString "bob", Str.ofString "cy", Str.ofString "dee"]
theorem nms_ok : (∀ s ∈ nms, PyData.strOk s = true) ∧ nms.Nodup := by decide +kernel
def lsD (ps : List Pc) : D := .lst (ps.map pcD)

local macro_rules | `(tactic| walk_at "go") => `(tactic| repeat' (first | assumption | with_reducible apply And.intro | walk_at "cs"))
local macro_rules | `(tactic| walk_at "ex") => `(tactic| simp only [List.cons.injEq, Sl.va.injEq, Sl.ow.injEq, Ow.lst.injEq, D.int.injEq, D.bl.injEq, D.str.injEq, D.lst.injEq, D.tup.injEq, true_and, and_true])
local macro_rules | `(tactic| walk_at "gn") => `(tactic| simp only [↓gN, ↓gsNil, ↓gsCons, ↓gT, ↓gSq, List.length_cons, List.length_nil, Nat.reduceAdd, true_and, List.set_cons_zero, List.set_cons_succ])
local macro_rules | `(tactic| walk_at "sp") => `(tactic| repeat' (first | split | with_reducible apply And.intro))
local macro_rules | `(tactic| walk_at "cs") => `(tactic| first | (unfold CMulP; omega) | (unfold CPowP; omega) | (unfold CModP; omega) | (unfold CDivP; omega))
local macro_rules | `(tactic| walk_at "pl") => `(tactic| simp only [↓sSeq, ↓sAsg, ↓sRet, ↓sRetN, ↓sIf, ↓sDrop, ↓sPar, ↓sAug, ↓sNext, ↓sTgt, ↓sApp, ↓sExt, ↓sPop, ↓sSet, ↓sBreak, ↓sCont, ↓eVar, ↓bVar, ↓eMov, ↓bE, ↓eBin, ↓tE, ↓eChain_eq, chS_bl, chS_true, chS_false, wipeE_nil, wipeE_cons, ↓eUn, ↓qAnd, ↓qOr, ↓qNot, ↓eAnd_eq, ↓eOr_eq, ↓sNever, ↓eNot, ↓eIf, ↓aNil, ↓aCons, ↓aConsB, ↓eTup, ↓eLst, ↓iSeq, ↓iR1, ↓iR2, ↓iEnum1, ↓iRev1, ↓cSortD, ↓sAugIt, ↓cMinPr,  ↓gN, ↓gsNil, ↓gsCons, ↓gT, ↓eCall, ↓eCallX, ↓sRaise, ↓sTry, ↓dI2, ↓dAdd, ↓dEq, ↓dNe, ↓dIsN, ↓dNotN, ↓dIx, ↓oNone, ↓oSome, ↓eSl, ↓eB, ↓cLen, ↓cInt, ↓cAbs, ↓cMax2, ↓cMin2, ↓cDivmod, ↓cList, ↓cTuple, ↓cSum, ↓cMax, ↓cMin, ↓cAll, ↓cAny, ↓cSorted, ↓dIn, ↓dInX, ↓eM, ↓mIndex, ↓tyM, ↓gSq, ↓cSet, natc0, natc1, natc2, List.findIdx?_cons, List.findIdx?_nil, intsOf_ints, boolsOf_bls, plAnyI, plAnyR, ↓cGcd, ↓cLcm, ↓eRange, ↓eIsi, ↓Sl.val, ↓Ow.toD, ↓stE, ↓tYes', ↓eIxM, ↓sSetM, ↓PL.isNon, ↓eC, ↓bC, ↓dSub, ↓dMul, ↓dDiv, ↓dMod, ↓dPow, ↓dLt, ↓dLe, ↓dGt, ↓dGe, ↓dAddI, ↓dDivS, ↓dEqI, ↓dNeI,
  List.getElem?_cons_zero, List.getElem?_cons_succ, List.set_cons_zero, List.set_cons_succ, List.map_cons, List.map_nil, List.length_cons, List.length_nil, List.nil_append, List.cons_append, List.replicate_succ, List.replicate_zero, List.append_nil, atI0, atI1, atI2, atI3, atI4,
  cmpOk_int, cmpOk_bl, cmpOk_non, deq_int, deq_bl, true_and, and_true, Nat.reduceAdd, Nat.reduceSub, Nat.reduceLeDiff, Nat.reduceLT, Bool.not_eq_true', Bool.false_eq_true, if_false, if_true, decide_eq_true_eq, decide_eq_false_iff_not, Nat.zero_add, Nat.sub_zero, Nat.add_zero, Nat.sub_self, isi_non_bool, isi_non_int, isi_non_str, isi_non_list, isi_non_tuple, isi_bl_bool, isi_bl_int, isi_bl_str, isi_bl_list, isi_bl_tuple, isi_int_bool, isi_int_int, isi_int_str, isi_int_list, isi_int_tuple, isi_str_bool, isi_str_int, isi_str_str, isi_str_list, isi_str_tuple, isi_lst_bool, isi_lst_int, isi_lst_str, isi_lst_list, isi_lst_tuple, isi_tup_bool, isi_tup_int, isi_tup_str, isi_tup_list, isi_tup_tuple, ixN31, ixN32, List.length_map, List.length_set, Int.reduceToNat, Int.reducePow, Int.reduceNeg, Int.reduceAdd, Int.reduceSub, Int.reduceMul, Int.reduceLT, Int.reduceLE, Int.reduceEq, Nat.reduceEqDiff, reduceCtorEq, List.mem_singleton, eq_self, not_true_eq_false, not_false_eq_true, or_true, true_or, cmpOk_lstA, cmpOk_tupA, ckA_lst, ckA_tup, ckAl_nil, ckAl_cons, ckAl_ints, ckAl_rangeL, ck_int, ck_bl, ck_non, ck_strI, cmpOk_str, deq_str, deq_tup, deq_lst, deqA_nil, deqA_cons, deqA_ints, Bool.and_true, Bool.true_and, Bool.and_false, Bool.false_and, decide_true, decide_false, Bool.not_true, Bool.not_false, ↓pDraw, ↓p__law_in, ↓p__law_pieces, ↓p__law_refused, ↓p_dealt_out, ↓p_loads_of, ↓p_runs_of, ↓p_spread_of, ↓p_tidied, ↓p_unmanned, so0, sn0_1, sn0_2, sn0_3, so1, sn1_0, sn1_2, sn1_3, so2, sn2_0, sn2_1, sn2_3, so3, sn3_0, sn3_1, sn3_2, cat_BadSeries])
theorem ok_law (T : TF K mg) : FnOk P w K mg base CX0 6 T.a_law T.x_law ["script"] (spLaw K) := by
  refine T.f_law.ok sc_law (fun vs H Q E ⟨a, ns, e, _⟩ => by rw [e]; rfl) (fun cdv A outer s H vs Q E hr ⟨a, ns, e, hS, q⟩ => ⟨_, PSs.nox (pss_cons (ps_set (i := 1) sc_law.nd rfl (by first | exact Or.inl rfl | exact Or.inr rfl) (pe_call (ok__law_tape T) (hr.mono (by decide)) (by rfl) T.g__law_tape T.f__law_tape.kp T.b__law_tape .nil pass0 (pa_cons (pv 0) pa_nil)))
    (show PSs _ _ (liS (zOf K H (fun _ => none) []) _) from (qs_cons (qs_set (i := 2) sc_law.nd rfl (by first | exact Or.inl rfl | exact Or.inr rfl) (qe_slice (qb_of (qe_lst (qa_cons qe_str (qa_cons qe_str (qa_cons qe_str (qa_cons qe_str qa_nil)))))) qo_none (qo_some (qb_of (qe_bin ob_add qb_int (qb_of (qe_call (ok__law_draw T) (hr.mono (by decide)) (by rfl) T.g__law_draw T.f__law_draw.kp T.b__law_draw pass0 (qa_cons (qe_var 1) (qa_cons qe_int qa_nil)))))))))
    (qs_cons (qs_setLc (i := 3) rfl sc_law.nd rfl rfl (sw_true rfl rfl rfl (by decide +kernel)) (own := [("name", 13)]) (qi_seq (h := (qe_var 2))) (blkOk_by (own := [("name", 13)]) (N := N_law) (sc := defScope s_law) (by decide +kernel)) (fun _ _ _ _ _ z hz => (qg_name (i := 13) sc_law.nd rfl (by first | exact Or.inl rfl | exact Or.inr rfl))) (fun _ _ _ _ _ => an_t0) (fun _ _ _ _ _ z hz => (qe_call (ok__law_pieces T) (hr.mono (by decide)) (by rfl) T.g__law_pieces T.f__law_pieces.kp T.b__law_pieces pass0 (qa_cons (qe_var 1) qa_nil))))
    (qs_cons (qs_set (i := 4) sc_law.nd rfl (by first | exact Or.inl rfl | exact Or.inr rfl) (qe_call (ok__law_pieces T) (hr.mono (by decide)) (by rfl) T.g__law_pieces T.f__law_pieces.kp T.b__law_pieces pass0 (qa_cons (qe_var 1) qa_nil)))
    (qs_cons (qs_set (i := 5) sc_law.nd rfl (by first | exact Or.inl rfl | exact Or.inr rfl) (qe_call (ok__law_draw T) (hr.mono (by decide)) (by rfl) T.g__law_draw T.f__law_draw.kp T.b__law_draw pass0 (qa_cons (qe_var 1) (qa_cons qe_int qa_nil))))
    (qs_cons (qs_set (i := 6) sc_law.nd rfl (by first | exact Or.inl rfl | exact Or.inr rfl) (qe_bin ob_sub (qb_of (qe_bin ob_add (qb_var 5) (qb_of (qe_call (ok__law_draw T) (hr.mono (by decide)) (by rfl) T.g__law_draw T.f__law_draw.kp T.b__law_draw pass0 (qa_cons (qe_var 1) (qa_cons qe_int qa_nil)))))) qb_int))
    (qs_cons (qs_setLc (i := 7) rfl sc_law.nd rfl rfl (sw_true rfl rfl rfl (by decide +kernel)) (own := [("name", 13)]) (qi_seq (h := (qe_var 2))) (blkOk_by (own := [("name", 13)]) (N := N_law) (sc := defScope s_law) (by decide +kernel)) (fun _ _ _ _ _ z hz => (qg_name (i := 13) sc_law.nd rfl (by first | exact Or.inl rfl | exact Or.inr rfl))) (fun _ _ _ _ _ => an_t0) (fun _ _ _ _ _ z hz => qe_int))
    (qs_cons (qs_set (i := 8) sc_law.nd rfl (by first | exact Or.inl rfl | exact Or.inr rfl) (qe_lst qa_nil))
    (qs_cons (qs_for PassesOwn.never rfl (qi_range2 (by rfl) T.m_range (qa_cons (qe_var 5) (qa_cons (qe_callB (cb_max2 rfl) (by rfl) T.m_max (by decide +kernel) (qab_cons (qb_var 6) (qab_cons (qb_var 5) qab_nil))) qa_nil))) (qg_name (i := 9) sc_law.nd rfl (by first | exact Or.inl rfl | exact Or.inr rfl))
    (qs_end (qs_if (qt_val (qe_call (ok__law_in T) (hr.mono (by decide)) (by rfl) T.g__law_in T.f__law_in.kp T.b__law_in pass0 (qa_cons (qe_var 4) (qa_cons (qe_var 9) qa_nil))))
    (qs_cons (qs_set (i := 10) sc_law.nd rfl (by first | exact Or.inl rfl | exact Or.inr rfl) qe_non)
    (qs_cons (qs_for PassesOwn.never rfl (qi_range1 (by rfl) T.m_range (qa_cons (qe_callB cb_len (by rfl) T.m_len (by decide +kernel) (qab_cons (qb_var 2) qab_nil)) qa_nil)) (qg_name (i := 11) sc_law.nd rfl (by first | exact Or.inl rfl | exact Or.inr rfl))
    (qs_end (qs_if (PW.pt (qw_and (qt_not (qt_val (qe_call (ok__law_in T) (hr.mono (by decide)) (by rfl) T.g__law_in T.f__law_in.kp T.b__law_in pass0 (qa_cons (qe_ix (qb_var 3) (qb_var 11)) (qa_cons (qe_var 9) qa_nil))))) (qw_and1 (PW.pt (qw_or (qt_cmp ob_isN (qb_var 10) qb_non (nomark _)) (qw_or1 (qt_cmp ob_lt (qb_of (qe_ix (qb_var 7) (qb_var 11))) (qb_of (qe_ix (qb_var 7) (qb_var 10))) (nomark _))))))))
    (qs_end (qs_set (i := 10) sc_law.nd rfl (by first | exact Or.inl rfl | exact Or.inr rfl) (qe_var 11)))
    qs_nil)))
    (qs_end (qs_if (qt_cmp ob_isN (qb_var 10) qb_non (nomark _))
    (qs_end (qs_append (i := 8) rfl (by first | exact Or.inl rfl | exact Or.inr (Or.inl rfl) | exact Or.inr (Or.inr rfl)) (qe_tup (qa_cons (qe_var 9) (qa_cons qe_non qa_nil)))))
    (qs_cons (qs_setItem (i := 7) rfl (by first | exact Or.inl rfl | exact Or.inr (Or.inl rfl) | exact Or.inr (Or.inr rfl)) (qe_bin ob_add (qb_of (qe_ix (qb_var 7) (qb_var 10))) qb_int) (qb_var 10))
    (qs_end (qs_append (i := 8) rfl (by first | exact Or.inl rfl | exact Or.inr (Or.inl rfl) | exact Or.inr (Or.inr rfl)) (qe_tup (qa_cons (qe_var 9) (qa_cons (qe_ix (qb_var 2) (qb_var 10)) qa_nil))))))))))
    qs_nil)))
    (qs_cons (qs_set (i := 12) sc_law.nd rfl (by first | exact Or.inl rfl | exact Or.inr rfl) (qe_callX takesF (ok_dealt_out T) (hr.mono (by decide)) (by rfl) T.g_dealt_out T.f_dealt_out.kp T.b_dealt_out (qa_cons (qe_call (ok_tidied T) (hr.mono (by decide)) (by rfl) T.g_tidied T.f_tidied.kp T.b_tidied pass0 (qa_cons (qe_var 4) qa_nil)) (qa_cons (qe_var 2) (qa_cons (qe_lc rfl sc_law.nd (own := [("row", 15)]) (qi_seq (h := (qe_var 3))) (blkOk_by (own := [("row", 15)]) (N := N_law) (sc := defScope s_law) (by decide +kernel)) (fun _ _ _ _ _ z hz => (qg_name (i := 15) sc_law.nd rfl (by first | exact Or.inl rfl | exact Or.inr rfl))) (fun _ _ _ _ _ => an_t0) (fun _ _ _ _ _ z hz => (qe_call (ok_tidied T) (hr.mono (by decide)) (by rfl) T.g_tidied T.f_tidied.kp T.b_tidied pass0 (qa_cons (qe_var 15) qa_nil)))) (qa_cons (qe_var 5) (qa_cons (qe_var 6) qa_nil)))))))
    (qs_cons (qs_if (PW.pt (qw_or (qt_cmp (ob_ne (hu64 hr)) (qb_var 12) (qb_var 8) (nomark _)) (qw_or (qt_cmp (ob_ne (hu64 hr)) (qb_of (qe_call (ok_loads_of T) (hr.mono (by decide)) (by rfl) T.g_loads_of T.f_loads_of.kp T.b_loads_of pass0 (qa_cons (qe_var 8) (qa_cons (qe_var 2) qa_nil)))) (qb_var 7) (nomark _)) (qw_or1 (qt_cmp (ob_ne (hu64 hr)) (qb_of (qe_call (ok_unmanned T) (hr.mono (by decide)) (by rfl) T.g_unmanned T.f_unmanned.kp T.b_unmanned pass0 (qa_cons (qe_var 8) qa_nil))) (qb_of (qe_lc rfl sc_law.nd (own := [("day", 9), ("name", 13)]) (qi_seq (h := (qe_var 8))) (blkOk_by (own := [("day", 9), ("name", 13)]) (N := N_law) (sc := defScope s_law) (by decide +kernel)) (fun _ _ _ _ _ z hz => (qg_seq (n := 2) rfl (qgs_cons (qg_name (i := 9) sc_law.nd rfl (by first | exact Or.inl rfl | exact Or.inr rfl)) (qgs_cons (qg_name (i := 13) sc_law.nd rfl (by first | exact Or.inl rfl | exact Or.inr rfl)) qgs_nil)))) (fun _ _ _ _ _ => an_t1 fun z hz => (qt_cmp ob_isN (qb_var 13) qb_non (nomark _))) (fun _ _ _ _ _ z hz => (qe_var 9)))) (nomark _))))))
    (qs_end (qs_ret qe_bl))
    qs_nil)
    (qs_cons (qs_if (qt_cmp (ob_ne (hu64 hr)) (qb_of (qe_call (ok_spread_of T) (hr.mono (by decide)) (by rfl) T.g_spread_of T.f_spread_of.kp T.b_spread_of pass0 (qa_cons (qe_var 8) (qa_cons (qe_var 2) qa_nil)))) (qb_of (qe_bin ob_sub (qb_of (qe_callB (cb_max rfl) (by rfl) T.m_max (by decide +kernel) (qab_cons (qb_var 7) qab_nil))) (qb_of (qe_callB (cb_min rfl) (by rfl) T.m_min (by decide +kernel) (qab_cons (qb_var 7) qab_nil))))) (nomark _))
    (qs_end (qs_ret qe_bl))
    qs_nil)
    (qs_cons (qs_for PassesOwn.never rfl (qi_seq (h := (qe_var 2))) (qg_name (i := 13) sc_law.nd rfl (by first | exact Or.inl rfl | exact Or.inr rfl))
    (qs_cons (qs_set (i := 10) sc_law.nd rfl (by first | exact Or.inl rfl | exact Or.inr rfl) qe_int)
    (qs_cons (qs_for PassesOwn.never rfl (qi_range1 (by rfl) T.m_range (qa_cons (qe_callB cb_len (by rfl) T.m_len (by decide +kernel) (qab_cons (qb_var 8) qab_nil)) qa_nil)) (qg_name (i := 11) sc_law.nd rfl (by first | exact Or.inl rfl | exact Or.inr rfl))
    (qs_end (qs_for PassesOwn.never rfl (qi_range2 (by rfl) T.m_range (qa_cons (qe_bin ob_add (qb_var 11) qb_int) (qa_cons (qe_bin ob_add (qb_of (qe_callB cb_len (by rfl) T.m_len (by decide +kernel) (qab_cons (qb_var 8) qab_nil))) qb_int) qa_nil))) (qg_name (i := 14) sc_law.nd rfl (by first | exact Or.inl rfl | exact Or.inr rfl))
    (qs_end (qs_if (qt_cmp (ob_notInX (hu65 hr)) qb_bl (qb_of (qe_lc rfl sc_law.nd (own := [("day", 9), ("other", 16)]) (qi_seq (h := (qe_slice (qb_var 8) (qo_some (qb_var 11)) (qo_some (qb_var 14))))) (blkOk_by (own := [("day", 9), ("other", 16)]) (N := N_law) (sc := defScope s_law) (by decide +kernel)) (fun _ _ _ _ _ z hz => (qg_seq (n := 2) rfl (qgs_cons (qg_name (i := 9) sc_law.nd rfl (by first | exact Or.inl rfl | exact Or.inr rfl)) (qgs_cons (qg_name (i := 16) sc_law.nd rfl (by first | exact Or.inl rfl | exact Or.inr rfl)) qgs_nil)))) (fun _ _ _ _ _ => an_t0) (fun _ _ _ _ _ z hz => (qe_cmp (ob_eq (hu64 hr)) (qb_var 16) (qb_var 13) (nomark _))))) (by with_unfolding_all rfl))
    (qs_end (qs_set (i := 10) sc_law.nd rfl (by first | exact Or.inl rfl | exact Or.inr rfl) (qe_callB (cb_max2 rfl) (by rfl) T.m_max (by decide +kernel) (qab_cons (qb_var 10) (qab_cons (qb_of (qe_bin ob_sub (qb_var 14) (qb_var 11))) qab_nil)))))
    qs_nil)))))
    (qs_end (qs_if (qt_cmp (ob_ne (hu64 hr)) (qb_of (qe_call (ok_runs_of T) (hr.mono (by decide)) (by rfl) T.g_runs_of T.f_runs_of.kp T.b_runs_of pass0 (qa_cons (qe_var 8) (qa_cons (qe_var 13) qa_nil)))) (qb_var 10) (nomark _))
    (qs_end (qs_ret qe_bl))
    qs_nil)))))
    (qs_end (qs_ret (qe_and (qe_call (ok__law_refused T) hr (by rfl) T.g__law_refused T.f__law_refused.kp T.b__law_refused pass0 (qa_cons (qe_lst qa_nil) (qa_cons (qe_lst qa_nil) qa_nil))) (qe_one (qe_call (ok__law_refused T) hr (by rfl) T.g__law_refused T.f__law_refused.kp T.b__law_refused pass0 (qa_cons (qe_lst (qa_cons qe_str qa_nil)) (qa_cons (qe_lst qa_nil) qa_nil))))))))))))))))))))), ?_⟩)
  subst e
  refine law_P (by decide) hS q (fun Q' h => ⟨_, rfl, a, ns, rfl, hS, h⟩) ?_
  intro T
  refine sSeq_i fun N1 h1 => ?_
  walk_at "pl"
  intro r r0 r1
  have hcut : ∃ ss : List Str, cutL [D.str (Str.ofString "ann"), D.str (Str.ofString "bob"), D.str (Str.ofString "cy"), D.str (Str.ofString "dee")] none (some (1 + r)) = ss.map D.str ∧ (∀ s ∈ ss, PyData.strOk s = true) ∧ ss.Nodup ∧ 0 < ss.length ∧ ss.length ≤ 4 := by
    obtain ⟨o1, o2⟩ := nms_ok
    refine ⟨nms.take (1 + r).toNat, ?_, fun s hs => o1 s (List.mem_of_mem_take hs), o2.sublist (List.take_sublist _ _), ?_, ?_⟩
    · rcases (by omega : r = 0 ∨ r = 1 ∨ r = 2 ∨ r = 3) with rfl | rfl | rfl | rfl <;> rfl
    · rw [List.length_take, show nms.length = 4 from rfl]; omega
    · rw [List.length_take, show nms.length = 4 from rfl]; omega
  obtain ⟨ss, hss, hso, hnd, hs0, hs4⟩ := hcut
  rw [hss]
  refine h1 _ _ ?_
  clear h1 hss r r0 r1
  refine sSeq_i fun N1 h1 => ?_
  walk_at "pl"
  refine eLc_rel lsD (fun _ ps => PiecesOf ps) (ss.map D.str) _ [(T, MO.tape)] (fun Q h => by walk_at "pl"; exact h) rfl (by rw [List.length_map]; omega) ?_ ?_
  · intro i d acc J hd hl hJ
    walk_at "pl"
    exact fun ps hp => ⟨hl, hJ ps hp⟩
  intro rws hrl hrp
  rw [List.length_map] at hrl
  refine h1 _ _ ?_
  clear h1
  have hrp : ∀ ps ∈ rws, PiecesOf ps := fun ps h => by
    obtain ⟨j, hj⟩ := List.getElem?_of_mem h
    exact hrp j ps hj
  refine sSeq_i fun N1 h1 => ?_
  walk_at "pl"
  intro du hdu
  refine h1 _ _ ?_
  clear h1
  refine sSeq_i fun N1 h1 => ?_
  walk_at "pl"
  intro first f0 f1
  refine h1 _ _ ?_
  clear h1
  refine sSeq_i fun N1 h1 => ?_
  walk_at "pl"
  intro e e0 e1
  refine h1 _ _ ?_
  clear h1
  refine sSeq_i fun N1 h1 => ?_
  walk_at "pl"
  refine eLc_fm (mapD fun _ => .int 0) (ss.map D.str) (fun Q h => by walk_at "pl"; exact h) rfl (by rw [List.length_map]; omega) ?_ ?_
  · intro i d acc J hd hl hJ
    obtain ⟨s, _, rfl⟩ := map_get hd
    walk_at "pl"
    exact ⟨hl, hJ⟩
  rw [mapD_map, show (ss.map fun _ => D.int 0) = (ss.map fun _ => (0 : Int)).map D.int by rw [List.map_map]; rfl]
  refine h1 _ _ ?_
  clear h1
  refine sSeq_i fun N1 h1 => ?_
  walk_at "pl"
  refine h1 _ _ ?_
  clear h1
  have hen : first - 5 ≤ first + e - 5 ∧ first + e - 5 < 120 := by omega
  generalize first + e - 5 = en at *
  refine sSeq_i fun N1 h1 => ?_
  refine sFor_k fun N hN => ?_
  walk_at "pl"
  have hmx : ∃ mx, (if first > en then first else en) = mx ∧ first ≤ mx ∧ mx < 120 ∧ rgI first mx = rgI first en := by
    by_cases c : first > en
    · exact ⟨first, if_pos c, Int.le_refl _, by omega, by rw [rgI_nil (Int.le_refl _), rgI_nil (by omega)]⟩
    · exact ⟨en, if_neg c, by omega, by omega, rfl⟩
  obtain ⟨mx, hm1, hm2, hm3, hm4⟩ := hmx
  rw [hm1]
  refine ⟨by omega, hN _ _ _ ?_⟩
  clear hN hm1
  have hdo := hdu.1
  refine loop_i (fun i ρ M1 => M1 = [(T, .tape)] ∧ ∃ a b c : Sl, (a = .un ∨ ∃ v, a = .va v) ∧ ρ = [.un, .va (.ref T), .va (.lst (ss.map D.str)), .ow (.lst (rws.map lsD)), .va (.lst (du.map pcD)), .va (.int first), .va (.int en), .ow (.lst ((dealF ss (awB rws) ((rgI first (first + i)).filter (patB du))).2.map D.int)), .ow (.lst ((dealF ss (awB rws) ((rgI first (first + i)).filter (patB du))).1.map duD)), a, b, c, .un, .un, .un, .un, .un]) ⟨rfl, .un, .un, .un, .inl rfl, ?_⟩ ?_ ?_
  · rw [rgI_nil (by omega)]
    rfl
  · rintro J hJ i dd ρ M1 hd ⟨rfl, a, b, c, ha, rfl⟩
    obtain ⟨rfl, hi⟩ := rangeL_get hd
    have et : (rgI first (first + ((i + 1 : Nat) : Int))).filter (patB du) = (rgI first (first + i)).filter (patB du) ++ if patB du (first + i) = true then [first + (i : Int)] else [] := by
      rw [rgI_split (b := first + i) (by omega) (by omega), List.filter_append]
      congr 1
      rw [rgI_cons (by omega), rgI_nil (by omega)]
      cases h : patB du (first + i) <;> simp [h]
    walk_at "gn"
    generalize hst : dealF ss (awB rws) ((rgI first (first + i)).filter (patB du)) = st at *
    have hlo := dealF_len (ss := ss) (aw := awB rws) ((rgI first (first + i)).filter (patB du))
    rw [hst] at hlo
    refine sIf_k fun N2 h2 => ?_
    walk_at "pl"
    refine ⟨du, rfl, fun p hp => by have := hdo.pos p hp; omega, h2 _ _ _ ?_⟩
    clear h2
    generalize hday : first + (i : Int) = day at *
    cases hb : patB du day with
    | false =>
      rw [if_neg Bool.false_ne_true]
      walk_at "pl"
      refine hJ _ _ _ ⟨rfl, .va (.int day), b, c, .inr ⟨_, rfl⟩, ?_⟩
      rw [et, hb, if_neg Bool.false_ne_true, List.append_nil, hst]
    | true =>
      rw [hb, if_pos rfl] at et
      have hst2 := dealF_snoc (ss := ss) (aw := awB rws) (ds := (rgI first day).filter (patB du)) (d := day)
      rw [← et, hst] at hst2
      unfold stepD at hst2
      rw [if_pos rfl]
      refine sSeq_i fun N2 h2 => ?_
      walk_at "pl"
      refine h2 _ _ ?_
      clear h2
      refine sSeq_i fun N2 h2 => ?_
      refine sFor_k fun N hN => ?_
      walk_at "pl"
      refine ⟨by omega, hN _ _ _ ?_⟩
      clear hN
      refine loop_i (fun k ρ M1 => M1 = [(T, .tape)] ∧ ∃ c : Sl, ρ = [.un, .va (.ref T), .va (.lst (ss.map D.str)), .ow (.lst (rws.map lsD)), .va (.lst (du.map pcD)), .va (.int first), .va (.int en), .ow (.lst (st.2.map D.int)), .ow (.lst (st.1.map duD)), .va (.int day), .va (kD (bestK st.2 (awB rws day) k)), c, .un, .un, .un, .un, .un]) ⟨rfl, c, rfl⟩ ?_ ?_
      · rintro J2 hJ2 k dd ρ M1 hd ⟨rfl, c, rfl⟩
        obtain ⟨rfl, hk⟩ := rangeL_get hd
        have hk2 : k < rws.length := by omega
        have hk3 : k < st.2.length := by omega
        have e1 : awB rws day k = patB rws[k] day := by
          unfold awB
          rw [List.getD_eq_getElem?_getD, List.getElem?_eq_getElem hk2]
          rfl
        have e2 : st.2.getD k 0 = st.2[k] := by rw [List.getD_eq_getElem?_getD, List.getElem?_eq_getElem hk3]; rfl
        have a1 : atI (rws.map lsD) (0 + (k : Int)) = some (lsD rws[k]) := at_map (by omega) (by rw [show (0 + (k : Int)).toNat = k by omega]; exact List.getElem?_eq_getElem hk2)
        have a2 : atI (st.2.map D.int) (0 + (k : Int)) = some (.int st.2[k]) := at_map (by omega) (by rw [show (0 + (k : Int)).toNat = k by omega]; exact List.getElem?_eq_getElem hk3)
        have hro := hrp _ (List.getElem_mem hk2)
        have ebk : bestK st.2 (awB rws day) (k + 1) = match bestK st.2 (awB rws day) k with
          | none => if awB rws day k = true then none else some k
          | some b => if awB rws day k = false ∧ st.2.getD k 0 < st.2.getD b 0 then some k else some b := rfl
        walk_at "gn"
        refine sIf_k fun N3 h3 => ?_
        have h4 : N3 (decide (bestK st.2 (awB rws day) (k + 1) = some k)) [.un, .va (.ref T), .va (.lst (ss.map D.str)), .ow (.lst (rws.map lsD)), .va (.lst (du.map pcD)), .va (.int first), .va (.int en), .ow (.lst (st.2.map D.int)), .ow (.lst (st.1.map duD)), .va (.int day), .va (kD (bestK st.2 (awB rws day) k)), .va (.int (0 + (k : Int))), .un, .un, .un, .un, .un] [(T, .tape)] := by
          refine h3 _ _ _ ?_
          clear h3
          by_cases c1 : bestK st.2 (awB rws day) (k + 1) = some k
          · rw [if_pos (by simp [c1])]
            walk_at "pl"
            refine hJ2 _ _ _ ⟨rfl, .va (.int (0 + (k : Int))), ?_⟩
            rw [c1, kD, Int.zero_add]
          · rw [if_neg (by simp [c1])]
            walk_at "pl"
            refine hJ2 _ _ _ ⟨rfl, .va (.int (0 + (k : Int))), ?_⟩
            have : bestK st.2 (awB rws day) (k + 1) = bestK st.2 (awB rws day) k := by
              rw [ebk] at c1 ⊢
              cases eb : bestK st.2 (awB rws day) k with
              | none =>
                rw [eb] at c1
                simp only [] at c1 ⊢
                split
                · rfl
                · rename_i w
                  rw [if_neg w] at c1
                  exact absurd rfl c1
              | some b =>
                rw [eb] at c1
                simp only [] at c1 ⊢
                split
                · rename_i w
                  rw [if_pos w] at c1
                  exact absurd rfl c1
                · rfl
            rw [this]
        clear h3
        simp only [↓sSeq, ↓sAsg, ↓sRet, ↓sRetN, ↓sIf, ↓sDrop, ↓sPar, ↓sAug, ↓sNext, ↓sTgt, ↓sApp, ↓sExt, ↓sPop, ↓sSet, ↓sBreak, ↓sCont, ↓eVar, ↓bVar, ↓eMov, ↓bE, ↓eBin, ↓tE, ↓eChain_eq, chS_bl, chS_true, chS_false, wipeE_nil, wipeE_cons, ↓eUn, ↓qAnd, ↓qOr, ↓qNot, ↓eAnd_eq, ↓eOr_eq, ↓sNever, ↓eNot, ↓eIf, ↓aNil, ↓aCons, ↓aConsB, ↓eTup, ↓eLst, ↓iSeq, ↓iR1, ↓iR2, ↓iEnum1, ↓iRev1, ↓cSortD, ↓sAugIt, ↓cMinPr,  ↓gN, ↓gsNil, ↓gsCons, ↓gT, ↓eCall, ↓eCallX, ↓sRaise, ↓sTry, ↓dI2, ↓dAdd, ↓dEq, ↓dNe, ↓dIsN, ↓dNotN, ↓dIx, ↓oNone, ↓oSome, ↓eSl, ↓eB, ↓cLen, ↓cInt, ↓cAbs, ↓cMax2, ↓cMin2, ↓cDivmod, ↓cList, ↓cTuple, ↓cSum, ↓cMax, ↓cMin, ↓cAll, ↓cAny, ↓cSorted, ↓dIn, ↓dInX, ↓eM, ↓mIndex, ↓tyM, ↓gSq, ↓cSet, natc0, natc1, natc2, List.findIdx?_cons, List.findIdx?_nil, intsOf_ints, boolsOf_bls, plAnyI, plAnyR, ↓cGcd, ↓cLcm, ↓eRange, ↓eIsi, ↓Sl.val, ↓Ow.toD, ↓stE, ↓tYes', ↓eIxM, ↓sSetM, ↓PL.isNon, ↓eC, ↓bC, ↓dSub, ↓dMul, ↓dDiv, ↓dMod, ↓dPow, ↓dLt, ↓dLe, ↓dGt, ↓dGe, ↓dAddI, ↓dDivS, ↓dEqI, ↓dNeI,
  List.getElem?_cons_zero, List.getElem?_cons_succ, List.set_cons_zero, List.set_cons_succ, List.map_cons, List.map_nil, List.length_cons, List.length_nil, List.nil_append, List.cons_append, List.replicate_succ, List.replicate_zero, List.append_nil, atI0, atI1, atI2, atI3, atI4,
  cmpOk_int, cmpOk_bl, cmpOk_non, deq_int, deq_bl, true_and, and_true, Nat.reduceAdd, Nat.reduceSub, Nat.reduceLeDiff, Nat.reduceLT, Bool.not_eq_true', Bool.false_eq_true, if_false, if_true, decide_eq_true_eq, decide_eq_false_iff_not, Nat.zero_add, Nat.sub_zero, Nat.add_zero, Nat.sub_self, isi_non_bool, isi_non_int, isi_non_str, isi_non_list, isi_non_tuple, isi_bl_bool, isi_bl_int, isi_bl_str, isi_bl_list, isi_bl_tuple, isi_int_bool, isi_int_int, isi_int_str, isi_int_list, isi_int_tuple, isi_str_bool, isi_str_int, isi_str_str, isi_str_list, isi_str_tuple, isi_lst_bool, isi_lst_int, isi_lst_str, isi_lst_list, isi_lst_tuple, isi_tup_bool, isi_tup_int, isi_tup_str, isi_tup_list, isi_tup_tuple, ixN31, ixN32, List.length_map, List.length_set, Int.reduceToNat, Int.reducePow, Int.reduceNeg, Int.reduceAdd, Int.reduceSub, Int.reduceMul, Int.reduceLT, Int.reduceLE, Int.reduceEq, Nat.reduceEqDiff, reduceCtorEq, List.mem_singleton, eq_self, not_true_eq_false, not_false_eq_true, or_true, true_or, cmpOk_lstA, cmpOk_tupA, ckA_lst, ckA_tup, ckAl_nil, ckAl_cons, ckAl_ints, ckAl_rangeL, ck_int, ck_bl, ck_non, ck_strI, cmpOk_str, deq_str, deq_tup, deq_lst, deqA_nil, deqA_cons, deqA_ints, Bool.and_true, Bool.true_and, Bool.and_false, Bool.false_and, decide_true, decide_false, Bool.not_true, Bool.not_false, ↓pDraw, ↓p__law_in, ↓p__law_pieces, ↓p__law_refused, ↓p_dealt_out, ↓p_loads_of, ↓p_runs_of, ↓p_spread_of, ↓p_tidied, ↓p_unmanned, so0, sn0_1, sn0_2, sn0_3, so1, sn1_0, sn1_2, sn1_3, so2, sn2_0, sn2_1, sn2_3, so3, sn3_0, sn3_1, sn3_2, cat_BadSeries, a1, lsD]
        refine ⟨rws[k], rfl, fun p hp => by have := hro.1.pos p hp; omega, ?_⟩
        rw [e1, e2] at ebk
        cases c1 : patB rws[k] day with
        | true =>
          rw [if_neg (by simp)]
          rw [c1] at ebk
          rw [decide_eq_false] at h4
          · exact h4
          · rw [ebk]
            cases eb : bestK st.2 (awB rws day) k with
            | none => simp
            | some b =>
              have := bestK_lt eb
              simp
              omega
        | false =>
          rw [if_pos rfl]
          rw [c1] at ebk
          cases eb : bestK st.2 (awB rws day) k with
          | none =>
            rw [eb] at ebk h4
            rw [decide_eq_true (by rw [ebk]; simp)] at h4
            simp only [↓sSeq, ↓sAsg, ↓sRet, ↓sRetN, ↓sIf, ↓sDrop, ↓sPar, ↓sAug, ↓sNext, ↓sTgt, ↓sApp, ↓sExt, ↓sPop, ↓sSet, ↓sBreak, ↓sCont, ↓eVar, ↓bVar, ↓eMov, ↓bE, ↓eBin, ↓tE, ↓eChain_eq, chS_bl, chS_true, chS_false, wipeE_nil, wipeE_cons, ↓eUn, ↓qAnd, ↓qOr, ↓qNot, ↓eAnd_eq, ↓eOr_eq, ↓sNever, ↓eNot, ↓eIf, ↓aNil, ↓aCons, ↓aConsB, ↓eTup, ↓eLst, ↓iSeq, ↓iR1, ↓iR2, ↓iEnum1, ↓iRev1, ↓cSortD, ↓sAugIt, ↓cMinPr,  ↓gN, ↓gsNil, ↓gsCons, ↓gT, ↓eCall, ↓eCallX, ↓sRaise, ↓sTry, ↓dI2, ↓dAdd, ↓dEq, ↓dNe, ↓dIsN, ↓dNotN, ↓dIx, ↓oNone, ↓oSome, ↓eSl, ↓eB, ↓cLen, ↓cInt, ↓cAbs, ↓cMax2, ↓cMin2, ↓cDivmod, ↓cList, ↓cTuple, ↓cSum, ↓cMax, ↓cMin, ↓cAll, ↓cAny, ↓cSorted, ↓dIn, ↓dInX, ↓eM, ↓mIndex, ↓tyM, ↓gSq, ↓cSet, natc0, natc1, natc2, List.findIdx?_cons, List.findIdx?_nil, intsOf_ints, boolsOf_bls, plAnyI, plAnyR, ↓cGcd, ↓cLcm, ↓eRange, ↓eIsi, ↓Sl.val, ↓Ow.toD, ↓stE, ↓tYes', ↓eIxM, ↓sSetM, ↓PL.isNon, ↓eC, ↓bC, ↓dSub, ↓dMul, ↓dDiv, ↓dMod, ↓dPow, ↓dLt, ↓dLe, ↓dGt, ↓dGe, ↓dAddI, ↓dDivS, ↓dEqI, ↓dNeI,
  List.getElem?_cons_zero, List.getElem?_cons_succ, List.set_cons_zero, List.set_cons_succ, List.map_cons, List.map_nil, List.length_cons, List.length_nil, List.nil_append, List.cons_append, List.replicate_succ, List.replicate_zero, List.append_nil, atI0, atI1, atI2, atI3, atI4,
  cmpOk_int, cmpOk_bl, cmpOk_non, deq_int, deq_bl, true_and, and_true, Nat.reduceAdd, Nat.reduceSub, Nat.reduceLeDiff, Nat.reduceLT, Bool.not_eq_true', Bool.false_eq_true, if_false, if_true, decide_eq_true_eq, decide_eq_false_iff_not, Nat.zero_add, Nat.sub_zero, Nat.add_zero, Nat.sub_self, isi_non_bool, isi_non_int, isi_non_str, isi_non_list, isi_non_tuple, isi_bl_bool, isi_bl_int, isi_bl_str, isi_bl_list, isi_bl_tuple, isi_int_bool, isi_int_int, isi_int_str, isi_int_list, isi_int_tuple, isi_str_bool, isi_str_int, isi_str_str, isi_str_list, isi_str_tuple, isi_lst_bool, isi_lst_int, isi_lst_str, isi_lst_list, isi_lst_tuple, isi_tup_bool, isi_tup_int, isi_tup_str, isi_tup_list, isi_tup_tuple, ixN31, ixN32, List.length_map, List.length_set, Int.reduceToNat, Int.reducePow, Int.reduceNeg, Int.reduceAdd, Int.reduceSub, Int.reduceMul, Int.reduceLT, Int.reduceLE, Int.reduceEq, Nat.reduceEqDiff, reduceCtorEq, List.mem_singleton, eq_self, not_true_eq_false, not_false_eq_true, or_true, true_or, cmpOk_lstA, cmpOk_tupA, ckA_lst, ckA_tup, ckAl_nil, ckAl_cons, ckAl_ints, ckAl_rangeL, ck_int, ck_bl, ck_non, ck_strI, cmpOk_str, deq_str, deq_tup, deq_lst, deqA_nil, deqA_cons, deqA_ints, Bool.and_true, Bool.true_and, Bool.and_false, Bool.false_and, decide_true, decide_false, Bool.not_true, Bool.not_false, ↓pDraw, ↓p__law_in, ↓p__law_pieces, ↓p__law_refused, ↓p_dealt_out, ↓p_loads_of, ↓p_runs_of, ↓p_spread_of, ↓p_tidied, ↓p_unmanned, so0, sn0_1, sn0_2, sn0_3, so1, sn1_0, sn1_2, sn1_3, so2, sn2_0, sn2_1, sn2_3, so3, sn3_0, sn3_1, sn3_2, cat_BadSeries, kD]
            exact h4
          | some b =>
            have hbk := bestK_lt eb
            have hb3 : b < st.2.length := by omega
            have e3 : st.2.getD b 0 = st.2[b] := by rw [List.getD_eq_getElem?_getD, List.getElem?_eq_getElem hb3]; rfl
            have a3 : atI (st.2.map D.int) (b : Int) = some (.int st.2[b]) := at_map (by omega) (by rw [show ((b : Int)).toNat = b by omega]; exact List.getElem?_eq_getElem hb3)
            rw [eb] at ebk h4
            simp only [↓sSeq, ↓sAsg, ↓sRet, ↓sRetN, ↓sIf, ↓sDrop, ↓sPar, ↓sAug, ↓sNext, ↓sTgt, ↓sApp, ↓sExt, ↓sPop, ↓sSet, ↓sBreak, ↓sCont, ↓eVar, ↓bVar, ↓eMov, ↓bE, ↓eBin, ↓tE, ↓eChain_eq, chS_bl, chS_true, chS_false, wipeE_nil, wipeE_cons, ↓eUn, ↓qAnd, ↓qOr, ↓qNot, ↓eAnd_eq, ↓eOr_eq, ↓sNever, ↓eNot, ↓eIf, ↓aNil, ↓aCons, ↓aConsB, ↓eTup, ↓eLst, ↓iSeq, ↓iR1, ↓iR2, ↓iEnum1, ↓iRev1, ↓cSortD, ↓sAugIt, ↓cMinPr,  ↓gN, ↓gsNil, ↓gsCons, ↓gT, ↓eCall, ↓eCallX, ↓sRaise, ↓sTry, ↓dI2, ↓dAdd, ↓dEq, ↓dNe, ↓dIsN, ↓dNotN, ↓dIx, ↓oNone, ↓oSome, ↓eSl, ↓eB, ↓cLen, ↓cInt, ↓cAbs, ↓cMax2, ↓cMin2, ↓cDivmod, ↓cList, ↓cTuple, ↓cSum, ↓cMax, ↓cMin, ↓cAll, ↓cAny, ↓cSorted, ↓dIn, ↓dInX, ↓eM, ↓mIndex, ↓tyM, ↓gSq, ↓cSet, natc0, natc1, natc2, List.findIdx?_cons, List.findIdx?_nil, intsOf_ints, boolsOf_bls, plAnyI, plAnyR, ↓cGcd, ↓cLcm, ↓eRange, ↓eIsi, ↓Sl.val, ↓Ow.toD, ↓stE, ↓tYes', ↓eIxM, ↓sSetM, ↓PL.isNon, ↓eC, ↓bC, ↓dSub, ↓dMul, ↓dDiv, ↓dMod, ↓dPow, ↓dLt, ↓dLe, ↓dGt, ↓dGe, ↓dAddI, ↓dDivS, ↓dEqI, ↓dNeI,
  List.getElem?_cons_zero, List.getElem?_cons_succ, List.set_cons_zero, List.set_cons_succ, List.map_cons, List.map_nil, List.length_cons, List.length_nil, List.nil_append, List.cons_append, List.replicate_succ, List.replicate_zero, List.append_nil, atI0, atI1, atI2, atI3, atI4,
  cmpOk_int, cmpOk_bl, cmpOk_non, deq_int, deq_bl, true_and, and_true, Nat.reduceAdd, Nat.reduceSub, Nat.reduceLeDiff, Nat.reduceLT, Bool.not_eq_true', Bool.false_eq_true, if_false, if_true, decide_eq_true_eq, decide_eq_false_iff_not, Nat.zero_add, Nat.sub_zero, Nat.add_zero, Nat.sub_self, isi_non_bool, isi_non_int, isi_non_str, isi_non_list, isi_non_tuple, isi_bl_bool, isi_bl_int, isi_bl_str, isi_bl_list, isi_bl_tuple, isi_int_bool, isi_int_int, isi_int_str, isi_int_list, isi_int_tuple, isi_str_bool, isi_str_int, isi_str_str, isi_str_list, isi_str_tuple, isi_lst_bool, isi_lst_int, isi_lst_str, isi_lst_list, isi_lst_tuple, isi_tup_bool, isi_tup_int, isi_tup_str, isi_tup_list, isi_tup_tuple, ixN31, ixN32, List.length_map, List.length_set, Int.reduceToNat, Int.reducePow, Int.reduceNeg, Int.reduceAdd, Int.reduceSub, Int.reduceMul, Int.reduceLT, Int.reduceLE, Int.reduceEq, Nat.reduceEqDiff, reduceCtorEq, List.mem_singleton, eq_self, not_true_eq_false, not_false_eq_true, or_true, true_or, cmpOk_lstA, cmpOk_tupA, ckA_lst, ckA_tup, ckAl_nil, ckAl_cons, ckAl_ints, ckAl_rangeL, ck_int, ck_bl, ck_non, ck_strI, cmpOk_str, deq_str, deq_tup, deq_lst, deqA_nil, deqA_cons, deqA_ints, Bool.and_true, Bool.true_and, Bool.and_false, Bool.false_and, decide_true, decide_false, Bool.not_true, Bool.not_false, ↓pDraw, ↓p__law_in, ↓p__law_pieces, ↓p__law_refused, ↓p_dealt_out, ↓p_loads_of, ↓p_runs_of, ↓p_spread_of, ↓p_tidied, ↓p_unmanned, so0, sn0_1, sn0_2, sn0_3, so1, sn1_0, sn1_2, sn1_3, so2, sn2_0, sn2_1, sn2_3, so3, sn3_0, sn3_1, sn3_2, cat_BadSeries, kD, a2, a3]
            simp only [] at ebk
            rw [e3] at ebk
            have e4 : decide (bestK st.2 (awB rws day) (k + 1) = some k) = decide (st.2[k] < st.2[b]) := by
              rw [decide_eq_decide, ebk]
              by_cases c2 : st.2[k] < st.2[b]
              · simp [c2]
              · simp [c2]; omega
            rw [e4] at h4
            exact h4
      · rintro ρ M1 ⟨rfl, c, rfl⟩
        rw [rangeL_len, show ((ss.length : Int) - 0).toNat = ss.length by omega]
        refine h2 _ _ ?_
        clear h2
        have hlr : st.1.length < 1000000 := by
          have := List.length_filter_le (patB du) (rgI first day)
          rw [rgI_len] at this
          omega
        have hbest := bestK_is (loads := st.2) (aw := awB rws day) ss.length
        cases eb : bestK st.2 (awB rws day) ss.length with
        | none =>
          rw [eb] at hst2
          simp only [↓sSeq, ↓sAsg, ↓sRet, ↓sRetN, ↓sIf, ↓sDrop, ↓sPar, ↓sAug, ↓sNext, ↓sTgt, ↓sApp, ↓sExt, ↓sPop, ↓sSet, ↓sBreak, ↓sCont, ↓eVar, ↓bVar, ↓eMov, ↓bE, ↓eBin, ↓tE, ↓eChain_eq, chS_bl, chS_true, chS_false, wipeE_nil, wipeE_cons, ↓eUn, ↓qAnd, ↓qOr, ↓qNot, ↓eAnd_eq, ↓eOr_eq, ↓sNever, ↓eNot, ↓eIf, ↓aNil, ↓aCons, ↓aConsB, ↓eTup, ↓eLst, ↓iSeq, ↓iR1, ↓iR2, ↓iEnum1, ↓iRev1, ↓cSortD, ↓sAugIt, ↓cMinPr,  ↓gN, ↓gsNil, ↓gsCons, ↓gT, ↓eCall, ↓eCallX, ↓sRaise, ↓sTry, ↓dI2, ↓dAdd, ↓dEq, ↓dNe, ↓dIsN, ↓dNotN, ↓dIx, ↓oNone, ↓oSome, ↓eSl, ↓eB, ↓cLen, ↓cInt, ↓cAbs, ↓cMax2, ↓cMin2, ↓cDivmod, ↓cList, ↓cTuple, ↓cSum, ↓cMax, ↓cMin, ↓cAll, ↓cAny, ↓cSorted, ↓dIn, ↓dInX, ↓eM, ↓mIndex, ↓tyM, ↓gSq, ↓cSet, natc0, natc1, natc2, List.findIdx?_cons, List.findIdx?_nil, intsOf_ints, boolsOf_bls, plAnyI, plAnyR, ↓cGcd, ↓cLcm, ↓eRange, ↓eIsi, ↓Sl.val, ↓Ow.toD, ↓stE, ↓tYes', ↓eIxM, ↓sSetM, ↓PL.isNon, ↓eC, ↓bC, ↓dSub, ↓dMul, ↓dDiv, ↓dMod, ↓dPow, ↓dLt, ↓dLe, ↓dGt, ↓dGe, ↓dAddI, ↓dDivS, ↓dEqI, ↓dNeI,
  List.getElem?_cons_zero, List.getElem?_cons_succ, List.set_cons_zero, List.set_cons_succ, List.map_cons, List.map_nil, List.length_cons, List.length_nil, List.nil_append, List.cons_append, List.replicate_succ, List.replicate_zero, List.append_nil, atI0, atI1, atI2, atI3, atI4,
  cmpOk_int, cmpOk_bl, cmpOk_non, deq_int, deq_bl, true_and, and_true, Nat.reduceAdd, Nat.reduceSub, Nat.reduceLeDiff, Nat.reduceLT, Bool.not_eq_true', Bool.false_eq_true, if_false, if_true, decide_eq_true_eq, decide_eq_false_iff_not, Nat.zero_add, Nat.sub_zero, Nat.add_zero, Nat.sub_self, isi_non_bool, isi_non_int, isi_non_str, isi_non_list, isi_non_tuple, isi_bl_bool, isi_bl_int, isi_bl_str, isi_bl_list, isi_bl_tuple, isi_int_bool, isi_int_int, isi_int_str, isi_int_list, isi_int_tuple, isi_str_bool, isi_str_int, isi_str_str, isi_str_list, isi_str_tuple, isi_lst_bool, isi_lst_int, isi_lst_str, isi_lst_list, isi_lst_tuple, isi_tup_bool, isi_tup_int, isi_tup_str, isi_tup_list, isi_tup_tuple, ixN31, ixN32, List.length_map, List.length_set, Int.reduceToNat, Int.reducePow, Int.reduceNeg, Int.reduceAdd, Int.reduceSub, Int.reduceMul, Int.reduceLT, Int.reduceLE, Int.reduceEq, Nat.reduceEqDiff, reduceCtorEq, List.mem_singleton, eq_self, not_true_eq_false, not_false_eq_true, or_true, true_or, cmpOk_lstA, cmpOk_tupA, ckA_lst, ckA_tup, ckAl_nil, ckAl_cons, ckAl_ints, ckAl_rangeL, ck_int, ck_bl, ck_non, ck_strI, cmpOk_str, deq_str, deq_tup, deq_lst, deqA_nil, deqA_cons, deqA_ints, Bool.and_true, Bool.true_and, Bool.and_false, Bool.false_and, decide_true, decide_false, Bool.not_true, Bool.not_false, ↓pDraw, ↓p__law_in, ↓p__law_pieces, ↓p__law_refused, ↓p_dealt_out, ↓p_loads_of, ↓p_runs_of, ↓p_spread_of, ↓p_tidied, ↓p_unmanned, so0, sn0_1, sn0_2, sn0_3, so1, sn1_0, sn1_2, sn1_3, so2, sn2_0, sn2_1, sn2_3, so3, sn3_0, sn3_1, sn3_2, cat_BadSeries, kD]
          refine ⟨by omega, hJ _ _ _ ⟨rfl, .va (.int day), .va .non, c, .inr ⟨_, rfl⟩, ?_⟩⟩
          rw [hst2]
          simp [duD, oS]
        | some b =>
          rw [eb] at hst2 hbest
          obtain ⟨b1, b2, _⟩ := hbest
          have hb3 : b < st.2.length := by omega
          have e2 : st.2.getD b 0 = st.2[b] := by rw [List.getD_eq_getElem?_getD, List.getElem?_eq_getElem hb3]; rfl
          have a2 : atI (st.2.map D.int) (b : Int) = some (.int st.2[b]) := at_map (by omega) (by rw [show ((b : Int)).toNat = b by omega]; exact List.getElem?_eq_getElem hb3)
          have a3 : atI (ss.map D.str) (b : Int) = some (.str ss[b]) := at_map (by omega) (by rw [show ((b : Int)).toNat = b by omega]; exact List.getElem?_eq_getElem b1)
          have e3 : ixN st.2.length (b : Int) = some b := by unfold ixN; rw [if_pos (by omega), if_pos (by omega), show ((b : Int)).toNat = b by omega]
          simp only [↓sSeq, ↓sAsg, ↓sRet, ↓sRetN, ↓sIf, ↓sDrop, ↓sPar, ↓sAug, ↓sNext, ↓sTgt, ↓sApp, ↓sExt, ↓sPop, ↓sSet, ↓sBreak, ↓sCont, ↓eVar, ↓bVar, ↓eMov, ↓bE, ↓eBin, ↓tE, ↓eChain_eq, chS_bl, chS_true, chS_false, wipeE_nil, wipeE_cons, ↓eUn, ↓qAnd, ↓qOr, ↓qNot, ↓eAnd_eq, ↓eOr_eq, ↓sNever, ↓eNot, ↓eIf, ↓aNil, ↓aCons, ↓aConsB, ↓eTup, ↓eLst, ↓iSeq, ↓iR1, ↓iR2, ↓iEnum1, ↓iRev1, ↓cSortD, ↓sAugIt, ↓cMinPr,  ↓gN, ↓gsNil, ↓gsCons, ↓gT, ↓eCall, ↓eCallX, ↓sRaise, ↓sTry, ↓dI2, ↓dAdd, ↓dEq, ↓dNe, ↓dIsN, ↓dNotN, ↓dIx, ↓oNone, ↓oSome, ↓eSl, ↓eB, ↓cLen, ↓cInt, ↓cAbs, ↓cMax2, ↓cMin2, ↓cDivmod, ↓cList, ↓cTuple, ↓cSum, ↓cMax, ↓cMin, ↓cAll, ↓cAny, ↓cSorted, ↓dIn, ↓dInX, ↓eM, ↓mIndex, ↓tyM, ↓gSq, ↓cSet, natc0, natc1, natc2, List.findIdx?_cons, List.findIdx?_nil, intsOf_ints, boolsOf_bls, plAnyI, plAnyR, ↓cGcd, ↓cLcm, ↓eRange, ↓eIsi, ↓Sl.val, ↓Ow.toD, ↓stE, ↓tYes', ↓eIxM, ↓sSetM, ↓PL.isNon, ↓eC, ↓bC, ↓dSub, ↓dMul, ↓dDiv, ↓dMod, ↓dPow, ↓dLt, ↓dLe, ↓dGt, ↓dGe, ↓dAddI, ↓dDivS, ↓dEqI, ↓dNeI,
  List.getElem?_cons_zero, List.getElem?_cons_succ, List.set_cons_zero, List.set_cons_succ, List.map_cons, List.map_nil, List.length_cons, List.length_nil, List.nil_append, List.cons_append, List.replicate_succ, List.replicate_zero, List.append_nil, atI0, atI1, atI2, atI3, atI4,
  cmpOk_int, cmpOk_bl, cmpOk_non, deq_int, deq_bl, true_and, and_true, Nat.reduceAdd, Nat.reduceSub, Nat.reduceLeDiff, Nat.reduceLT, Bool.not_eq_true', Bool.false_eq_true, if_false, if_true, decide_eq_true_eq, decide_eq_false_iff_not, Nat.zero_add, Nat.sub_zero, Nat.add_zero, Nat.sub_self, isi_non_bool, isi_non_int, isi_non_str, isi_non_list, isi_non_tuple, isi_bl_bool, isi_bl_int, isi_bl_str, isi_bl_list, isi_bl_tuple, isi_int_bool, isi_int_int, isi_int_str, isi_int_list, isi_int_tuple, isi_str_bool, isi_str_int, isi_str_str, isi_str_list, isi_str_tuple, isi_lst_bool, isi_lst_int, isi_lst_str, isi_lst_list, isi_lst_tuple, isi_tup_bool, isi_tup_int, isi_tup_str, isi_tup_list, isi_tup_tuple, ixN31, ixN32, List.length_map, List.length_set, Int.reduceToNat, Int.reducePow, Int.reduceNeg, Int.reduceAdd, Int.reduceSub, Int.reduceMul, Int.reduceLT, Int.reduceLE, Int.reduceEq, Nat.reduceEqDiff, reduceCtorEq, List.mem_singleton, eq_self, not_true_eq_false, not_false_eq_true, or_true, true_or, cmpOk_lstA, cmpOk_tupA, ckA_lst, ckA_tup, ckAl_nil, ckAl_cons, ckAl_ints, ckAl_rangeL, ck_int, ck_bl, ck_non, ck_strI, cmpOk_str, deq_str, deq_tup, deq_lst, deqA_nil, deqA_cons, deqA_ints, Bool.and_true, Bool.true_and, Bool.and_false, Bool.false_and, decide_true, decide_false, Bool.not_true, Bool.not_false, ↓pDraw, ↓p__law_in, ↓p__law_pieces, ↓p__law_refused, ↓p_dealt_out, ↓p_loads_of, ↓p_runs_of, ↓p_spread_of, ↓p_tidied, ↓p_unmanned, so0, sn0_1, sn0_2, sn0_3, so1, sn1_0, sn1_2, sn1_3, so2, sn2_0, sn2_1, sn2_3, so3, sn3_0, sn3_1, sn3_2, cat_BadSeries, kD, a2, a3, e3]
          refine ⟨by omega, hJ _ _ _ ⟨rfl, .va (.int day), .va (.int b), c, .inr ⟨_, rfl⟩, ?_⟩⟩
          rw [hst2]
          simp only [e2, List.getElem?_eq_getElem b1]
          simp [duD, oS, List.map_set]
  · rintro ρ M1 ⟨rfl, a, b, c, ha, rfl⟩
    have hem : first + ((rangeL first mx).length : Int) = mx := by rw [rangeL_len]; omega
    rw [hem]
    generalize hst : dealF ss (awB rws) ((rgI first mx).filter (patB du)) = st at *
    have hlo := dealF_len (ss := ss) (aw := awB rws) ((rgI first mx).filter (patB du))
    have hld := deal_loads (ss := ss) (aw := awB rws) hnd ((rgI first mx).filter (patB du))
    rw [hst] at hlo hld
    have hlr : st.1.length < 200 := by
      have := List.length_filter_le (patB du) (rgI first mx)
      rw [rgI_len] at this
      omega
    refine h1 _ _ ?_
    clear h1
    refine sSeq_i fun N1 h1 => ?_
    walk_at "pl"
    refine ⟨du, rfl, ⟨hdo, by have := hdu.2.1; omega⟩, fun fs t1 t2 t3 t4 => ?_⟩
    refine eLc_rel patD (fun i fs => PatOk fs ∧ ∀ ps, rws[i]? = some ps → ∀ d, patB fs d = patB ps d) (rws.map lsD) _ [(T, MO.tape)] (fun Q h => by walk_at "pl"; exact h) rfl (by rw [List.length_map]; omega) ?_ ?_
    · intro i d acc J hd hl hJ
      obtain ⟨ps, hps, rfl⟩ := map_get hd
      have hpo := hrp ps (List.mem_of_getElem? hps)
      simp only [↓sSeq, ↓sAsg, ↓sRet, ↓sRetN, ↓sIf, ↓sDrop, ↓sPar, ↓sAug, ↓sNext, ↓sTgt, ↓sApp, ↓sExt, ↓sPop, ↓sSet, ↓sBreak, ↓sCont, ↓eVar, ↓bVar, ↓eMov, ↓bE, ↓eBin, ↓tE, ↓eChain_eq, chS_bl, chS_true, chS_false, wipeE_nil, wipeE_cons, ↓eUn, ↓qAnd, ↓qOr, ↓qNot, ↓eAnd_eq, ↓eOr_eq, ↓sNever, ↓eNot, ↓eIf, ↓aNil, ↓aCons, ↓aConsB, ↓eTup, ↓eLst, ↓iSeq, ↓iR1, ↓iR2, ↓iEnum1, ↓iRev1, ↓cSortD, ↓sAugIt, ↓cMinPr,  ↓gN, ↓gsNil, ↓gsCons, ↓gT, ↓eCall, ↓eCallX, ↓sRaise, ↓sTry, ↓dI2, ↓dAdd, ↓dEq, ↓dNe, ↓dIsN, ↓dNotN, ↓dIx, ↓oNone, ↓oSome, ↓eSl, ↓eB, ↓cLen, ↓cInt, ↓cAbs, ↓cMax2, ↓cMin2, ↓cDivmod, ↓cList, ↓cTuple, ↓cSum, ↓cMax, ↓cMin, ↓cAll, ↓cAny, ↓cSorted, ↓dIn, ↓dInX, ↓eM, ↓mIndex, ↓tyM, ↓gSq, ↓cSet, natc0, natc1, natc2, List.findIdx?_cons, List.findIdx?_nil, intsOf_ints, boolsOf_bls, plAnyI, plAnyR, ↓cGcd, ↓cLcm, ↓eRange, ↓eIsi, ↓Sl.val, ↓Ow.toD, ↓stE, ↓tYes', ↓eIxM, ↓sSetM, ↓PL.isNon, ↓eC, ↓bC, ↓dSub, ↓dMul, ↓dDiv, ↓dMod, ↓dPow, ↓dLt, ↓dLe, ↓dGt, ↓dGe, ↓dAddI, ↓dDivS, ↓dEqI, ↓dNeI,
  List.getElem?_cons_zero, List.getElem?_cons_succ, List.set_cons_zero, List.set_cons_succ, List.map_cons, List.map_nil, List.length_cons, List.length_nil, List.nil_append, List.cons_append, List.replicate_succ, List.replicate_zero, List.append_nil, atI0, atI1, atI2, atI3, atI4,
  cmpOk_int, cmpOk_bl, cmpOk_non, deq_int, deq_bl, true_and, and_true, Nat.reduceAdd, Nat.reduceSub, Nat.reduceLeDiff, Nat.reduceLT, Bool.not_eq_true', Bool.false_eq_true, if_false, if_true, decide_eq_true_eq, decide_eq_false_iff_not, Nat.zero_add, Nat.sub_zero, Nat.add_zero, Nat.sub_self, isi_non_bool, isi_non_int, isi_non_str, isi_non_list, isi_non_tuple, isi_bl_bool, isi_bl_int, isi_bl_str, isi_bl_list, isi_bl_tuple, isi_int_bool, isi_int_int, isi_int_str, isi_int_list, isi_int_tuple, isi_str_bool, isi_str_int, isi_str_str, isi_str_list, isi_str_tuple, isi_lst_bool, isi_lst_int, isi_lst_str, isi_lst_list, isi_lst_tuple, isi_tup_bool, isi_tup_int, isi_tup_str, isi_tup_list, isi_tup_tuple, ixN31, ixN32, List.length_map, List.length_set, Int.reduceToNat, Int.reducePow, Int.reduceNeg, Int.reduceAdd, Int.reduceSub, Int.reduceMul, Int.reduceLT, Int.reduceLE, Int.reduceEq, Nat.reduceEqDiff, reduceCtorEq, List.mem_singleton, eq_self, not_true_eq_false, not_false_eq_true, or_true, true_or, cmpOk_lstA, cmpOk_tupA, ckA_lst, ckA_tup, ckAl_nil, ckAl_cons, ckAl_ints, ckAl_rangeL, ck_int, ck_bl, ck_non, ck_strI, cmpOk_str, deq_str, deq_tup, deq_lst, deqA_nil, deqA_cons, deqA_ints, Bool.and_true, Bool.true_and, Bool.and_false, Bool.false_and, decide_true, decide_false, Bool.not_true, Bool.not_false, ↓pDraw, ↓p__law_in, ↓p__law_pieces, ↓p__law_refused, ↓p_dealt_out, ↓p_loads_of, ↓p_runs_of, ↓p_spread_of, ↓p_tidied, ↓p_unmanned, so0, sn0_1, sn0_2, sn0_3, so1, sn1_0, sn1_2, sn1_3, so2, sn2_0, sn2_1, sn2_3, so3, sn3_0, sn3_1, sn3_2, cat_BadSeries, lsD]
      refine ⟨ps, rfl, ⟨hpo.1, by have := hpo.2.1; omega⟩, fun f2 u1 u2 u3 u4 => ⟨hl, hJ f2 ⟨u1.toPatOk, fun ps2 e2 => ?_⟩⟩⟩
      rw [hps] at e2
      cases e2
      exact u2
    intro fss hfl hfs
    rw [List.length_map] at hfl
    walk_at "pl"
    have haw : awB fss = awB rws := by
      funext d k
      unfold awB
      rw [List.getD_eq_getElem?_getD, List.getD_eq_getElem?_getD]
      rcases Nat.lt_or_ge k rws.length with w | w
      · have e1 := List.getElem?_eq_getElem w
        have e2 := List.getElem?_eq_getElem (show k < fss.length by omega)
        rw [e1, e2]
        exact (hfs k _ e2).2 _ e1 d
      · rw [List.getElem?_eq_none w, List.getElem?_eq_none (by omega)]
    have hF : patB fs = patB du := funext t2
    refine ⟨ss, fss, rfl, rfl, by omega, by omega, ?_⟩
    rw [if_neg (by omega)]
    refine ⟨fs, rfl, ⟨t1.toPatOk, by have := hdu.2.1; omega, ?_⟩, fun x hx => ?_, ?_⟩
    · have := List.length_filter_le (patB fs) (rgI first en)
      rw [rgI_len] at this
      unfold cntF
      omega
    · obtain ⟨j, hj⟩ := List.getElem?_of_mem hx
      exact (hfs j x hj).1
    rw [haw, hF, ← hm4, hst]
    refine h1 _ _ ?_
    clear h1
    have hno : NamesOk st.1 := by
      rw [← hst]
      exact dealF_names hso _
    refine sSeq_i fun N1 h1 => ?_
    walk_at "pl"
    have hck := ckAl_duD (n := 62) hno
    refine ⟨⟨hck, hck⟩, ?_⟩
    rw [deqA_self hck, if_neg (by decide)]
    refine ⟨st.1, ss, rfl, rfl, ⟨by omega, by omega, hno, hso⟩, ?_⟩
    rw [if_neg (fun w => w hld.symm)]
    refine ⟨st.1, rfl, by omega, ?_⟩
    refine eLc_fm unmD (st.1.map duD) (fun Q h => by walk_at "pl"; exact h) (by rcases ha with rfl | ⟨v, rfl⟩ <;> rfl) (by rw [List.length_map]; omega) ?_ ?_
    · intro i d acc J hd hl hJ
      obtain ⟨⟨d, o⟩, _, rfl⟩ := map_get hd
      cases o with
      | none => simp only [↓sSeq, ↓sAsg, ↓sRet, ↓sRetN, ↓sIf, ↓sDrop, ↓sPar, ↓sAug, ↓sNext, ↓sTgt, ↓sApp, ↓sExt, ↓sPop, ↓sSet, ↓sBreak, ↓sCont, ↓eVar, ↓bVar, ↓eMov, ↓bE, ↓eBin, ↓tE, ↓eChain_eq, chS_bl, chS_true, chS_false, wipeE_nil, wipeE_cons, ↓eUn, ↓qAnd, ↓qOr, ↓qNot, ↓eAnd_eq, ↓eOr_eq, ↓sNever, ↓eNot, ↓eIf, ↓aNil, ↓aCons, ↓aConsB, ↓eTup, ↓eLst, ↓iSeq, ↓iR1, ↓iR2, ↓iEnum1, ↓iRev1, ↓cSortD, ↓sAugIt, ↓cMinPr,  ↓gN, ↓gsNil, ↓gsCons, ↓gT, ↓eCall, ↓eCallX, ↓sRaise, ↓sTry, ↓dI2, ↓dAdd, ↓dEq, ↓dNe, ↓dIsN, ↓dNotN, ↓dIx, ↓oNone, ↓oSome, ↓eSl, ↓eB, ↓cLen, ↓cInt, ↓cAbs, ↓cMax2, ↓cMin2, ↓cDivmod, ↓cList, ↓cTuple, ↓cSum, ↓cMax, ↓cMin, ↓cAll, ↓cAny, ↓cSorted, ↓dIn, ↓dInX, ↓eM, ↓mIndex, ↓tyM, ↓gSq, ↓cSet, natc0, natc1, natc2, List.findIdx?_cons, List.findIdx?_nil, intsOf_ints, boolsOf_bls, plAnyI, plAnyR, ↓cGcd, ↓cLcm, ↓eRange, ↓eIsi, ↓Sl.val, ↓Ow.toD, ↓stE, ↓tYes', ↓eIxM, ↓sSetM, ↓PL.isNon, ↓eC, ↓bC, ↓dSub, ↓dMul, ↓dDiv, ↓dMod, ↓dPow, ↓dLt, ↓dLe, ↓dGt, ↓dGe, ↓dAddI, ↓dDivS, ↓dEqI, ↓dNeI,
  List.getElem?_cons_zero, List.getElem?_cons_succ, List.set_cons_zero, List.set_cons_succ, List.map_cons, List.map_nil, List.length_cons, List.length_nil, List.nil_append, List.cons_append, List.replicate_succ, List.replicate_zero, List.append_nil, atI0, atI1, atI2, atI3, atI4,
  cmpOk_int, cmpOk_bl, cmpOk_non, deq_int, deq_bl, true_and, and_true, Nat.reduceAdd, Nat.reduceSub, Nat.reduceLeDiff, Nat.reduceLT, Bool.not_eq_true', Bool.false_eq_true, if_false, if_true, decide_eq_true_eq, decide_eq_false_iff_not, Nat.zero_add, Nat.sub_zero, Nat.add_zero, Nat.sub_self, isi_non_bool, isi_non_int, isi_non_str, isi_non_list, isi_non_tuple, isi_bl_bool, isi_bl_int, isi_bl_str, isi_bl_list, isi_bl_tuple, isi_int_bool, isi_int_int, isi_int_str, isi_int_list, isi_int_tuple, isi_str_bool, isi_str_int, isi_str_str, isi_str_list, isi_str_tuple, isi_lst_bool, isi_lst_int, isi_lst_str, isi_lst_list, isi_lst_tuple, isi_tup_bool, isi_tup_int, isi_tup_str, isi_tup_list, isi_tup_tuple, ixN31, ixN32, List.length_map, List.length_set, Int.reduceToNat, Int.reducePow, Int.reduceNeg, Int.reduceAdd, Int.reduceSub, Int.reduceMul, Int.reduceLT, Int.reduceLE, Int.reduceEq, Nat.reduceEqDiff, reduceCtorEq, List.mem_singleton, eq_self, not_true_eq_false, not_false_eq_true, or_true, true_or, cmpOk_lstA, cmpOk_tupA, ckA_lst, ckA_tup, ckAl_nil, ckAl_cons, ckAl_ints, ckAl_rangeL, ck_int, ck_bl, ck_non, ck_strI, cmpOk_str, deq_str, deq_tup, deq_lst, deqA_nil, deqA_cons, deqA_ints, Bool.and_true, Bool.true_and, Bool.and_false, Bool.false_and, decide_true, decide_false, Bool.not_true, Bool.not_false, ↓pDraw, ↓p__law_in, ↓p__law_pieces, ↓p__law_refused, ↓p_dealt_out, ↓p_loads_of, ↓p_runs_of, ↓p_spread_of, ↓p_tidied, ↓p_unmanned, so0, sn0_1, sn0_2, sn0_3, so1, sn1_0, sn1_2, sn1_3, so2, sn2_0, sn2_1, sn2_3, so3, sn3_0, sn3_1, sn3_2, cat_BadSeries, duD, oS]; exact ⟨hl, hJ⟩
      | some s => simp only [↓sSeq, ↓sAsg, ↓sRet, ↓sRetN, ↓sIf, ↓sDrop, ↓sPar, ↓sAug, ↓sNext, ↓sTgt, ↓sApp, ↓sExt, ↓sPop, ↓sSet, ↓sBreak, ↓sCont, ↓eVar, ↓bVar, ↓eMov, ↓bE, ↓eBin, ↓tE, ↓eChain_eq, chS_bl, chS_true, chS_false, wipeE_nil, wipeE_cons, ↓eUn, ↓qAnd, ↓qOr, ↓qNot, ↓eAnd_eq, ↓eOr_eq, ↓sNever, ↓eNot, ↓eIf, ↓aNil, ↓aCons, ↓aConsB, ↓eTup, ↓eLst, ↓iSeq, ↓iR1, ↓iR2, ↓iEnum1, ↓iRev1, ↓cSortD, ↓sAugIt, ↓cMinPr,  ↓gN, ↓gsNil, ↓gsCons, ↓gT, ↓eCall, ↓eCallX, ↓sRaise, ↓sTry, ↓dI2, ↓dAdd, ↓dEq, ↓dNe, ↓dIsN, ↓dNotN, ↓dIx, ↓oNone, ↓oSome, ↓eSl, ↓eB, ↓cLen, ↓cInt, ↓cAbs, ↓cMax2, ↓cMin2, ↓cDivmod, ↓cList, ↓cTuple, ↓cSum, ↓cMax, ↓cMin, ↓cAll, ↓cAny, ↓cSorted, ↓dIn, ↓dInX, ↓eM, ↓mIndex, ↓tyM, ↓gSq, ↓cSet, natc0, natc1, natc2, List.findIdx?_cons, List.findIdx?_nil, intsOf_ints, boolsOf_bls, plAnyI, plAnyR, ↓cGcd, ↓cLcm, ↓eRange, ↓eIsi, ↓Sl.val, ↓Ow.toD, ↓stE, ↓tYes', ↓eIxM, ↓sSetM, ↓PL.isNon, ↓eC, ↓bC, ↓dSub, ↓dMul, ↓dDiv, ↓dMod, ↓dPow, ↓dLt, ↓dLe, ↓dGt, ↓dGe, ↓dAddI, ↓dDivS, ↓dEqI, ↓dNeI,
  List.getElem?_cons_zero, List.getElem?_cons_succ, List.set_cons_zero, List.set_cons_succ, List.map_cons, List.map_nil, List.length_cons, List.length_nil, List.nil_append, List.cons_append, List.replicate_succ, List.replicate_zero, List.append_nil, atI0, atI1, atI2, atI3, atI4,
  cmpOk_int, cmpOk_bl, cmpOk_non, deq_int, deq_bl, true_and, and_true, Nat.reduceAdd, Nat.reduceSub, Nat.reduceLeDiff, Nat.reduceLT, Bool.not_eq_true', Bool.false_eq_true, if_false, if_true, decide_eq_true_eq, decide_eq_false_iff_not, Nat.zero_add, Nat.sub_zero, Nat.add_zero, Nat.sub_self, isi_non_bool, isi_non_int, isi_non_str, isi_non_list, isi_non_tuple, isi_bl_bool, isi_bl_int, isi_bl_str, isi_bl_list, isi_bl_tuple, isi_int_bool, isi_int_int, isi_int_str, isi_int_list, isi_int_tuple, isi_str_bool, isi_str_int, isi_str_str, isi_str_list, isi_str_tuple, isi_lst_bool, isi_lst_int, isi_lst_str, isi_lst_list, isi_lst_tuple, isi_tup_bool, isi_tup_int, isi_tup_str, isi_tup_list, isi_tup_tuple, ixN31, ixN32, List.length_map, List.length_set, Int.reduceToNat, Int.reducePow, Int.reduceNeg, Int.reduceAdd, Int.reduceSub, Int.reduceMul, Int.reduceLT, Int.reduceLE, Int.reduceEq, Nat.reduceEqDiff, reduceCtorEq, List.mem_singleton, eq_self, not_true_eq_false, not_false_eq_true, or_true, true_or, cmpOk_lstA, cmpOk_tupA, ckA_lst, ckA_tup, ckAl_nil, ckAl_cons, ckAl_ints, ckAl_rangeL, ck_int, ck_bl, ck_non, ck_strI, cmpOk_str, deq_str, deq_tup, deq_lst, deqA_nil, deqA_cons, deqA_ints, Bool.and_true, Bool.true_and, Bool.and_false, Bool.false_and, decide_true, decide_false, Bool.not_true, Bool.not_false, ↓pDraw, ↓p__law_in, ↓p__law_pieces, ↓p__law_refused, ↓p_dealt_out, ↓p_loads_of, ↓p_runs_of, ↓p_spread_of, ↓p_tidied, ↓p_unmanned, so0, sn0_1, sn0_2, sn0_3, so1, sn1_0, sn1_2, sn1_3, so2, sn2_0, sn2_1, sn2_3, so3, sn3_0, sn3_1, sn3_2, cat_BadSeries, duD, oS]; simpa [unmD, duD, oS] using hJ
    rw [unmD_map]
    walk_at "pl"
    refine h1 _ _ ?_
    clear h1
    refine sSeq_i fun N1 h1 => ?_
    walk_at "pl"
    refine ⟨st.1, ss, rfl, rfl, ⟨by omega, by omega, hno, hso⟩, by intro w; rw [w] at hs0; simp at hs0, fun mx mn x1 x2 x3 x4 => ?_⟩
    rw [← hld] at x1 x2 x3 x4
    have hl0 : 0 < st.2.length := by omega
    refine ⟨hl0, fun m m1 m2 => ⟨hl0, fun m' m3 m4 => ?_⟩⟩
    rw [if_neg (fun w => w (by have := x2 m m1; have := m2 mx x1; have := x4 m' m3; have := m4 mn x3; omega))]
    refine h1 _ _ ?_
    clear h1 x1 x2 x3 x4
    refine sSeq_i fun N1 h1 => ?_
    refine sFor_k fun N hN => ?_
    walk_at "pl"
    refine hN _ _ _ ?_
    clear hN
    refine loop_i (fun i ρ M1 => M1 = [(T, .tape)] ∧ ∃ b c e f : Sl, ρ = [.un, .va (.ref T), .va (.lst (ss.map D.str)), .va (.lst (rws.map lsD)), .va (.lst (du.map pcD)), .va (.int first), .va (.int en), .ow (.lst (st.2.map D.int)), .va (.lst (st.1.map duD)), a, b, c, .ow (.lst (st.1.map duD)), e, f, .un, .un]) ⟨rfl, b, c, .un, .un, rfl⟩ ?_ ?_
    · rintro J hJ i dd ρ M1 hd ⟨rfl, b, c, e, f, rfl⟩
      obtain ⟨s, hs, rfl⟩ := map_get hd
      have hso2 := hso s (List.mem_of_getElem? hs)
      walk_at "gn"
      refine sSeq_i fun N2 h2 => ?_
      walk_at "pl"
      refine h2 _ _ ?_
      clear h2
      refine sSeq_i fun N2 h2 => ?_
      refine sFor_k fun N hN => ?_
      walk_at "pl"
      refine ⟨by omega, hN _ _ _ ?_⟩
      clear hN
      refine loop_i (fun k ρ M1 => M1 = [(T, .tape)] ∧ ∃ (v : Int) (c f : Sl), WB s st.1 k 0 v ∧ ρ = [.un, .va (.ref T), .va (.lst (ss.map D.str)), .va (.lst (rws.map lsD)), .va (.lst (du.map pcD)), .va (.int first), .va (.int en), .ow (.lst (st.2.map D.int)), .va (.lst (st.1.map duD)), a, .va (.int v), c, .ow (.lst (st.1.map duD)), .va (.str s), f, .un, .un]) ⟨rfl, 0, c, f, WB0, rfl⟩ ?_ ?_
      · rintro J2 hJ2 k dd ρ M1 hd ⟨rfl, v, c, f, hv, rfl⟩
        obtain ⟨rfl, hk⟩ := rangeL_get hd
        walk_at "gn"
        refine sFor_k fun N hN => ?_
        walk_at "pl"
        refine ⟨by omega, hN _ _ _ ?_⟩
        clear hN
        refine loop_i (fun m ρ M1 => M1 = [(T, .tape)] ∧ ∃ (v : Int) (f : Sl), WB s st.1 k (k + 1 + m) v ∧ ρ = [.un, .va (.ref T), .va (.lst (ss.map D.str)), .va (.lst (rws.map lsD)), .va (.lst (du.map pcD)), .va (.int first), .va (.int en), .ow (.lst (st.2.map D.int)), .va (.lst (st.1.map duD)), a, .va (.int v), .va (.int (0 + (k : Int))), .ow (.lst (st.1.map duD)), .va (.str s), f, .un, .un]) ⟨rfl, v, f, hv.up (by omega), rfl⟩ ?_ ?_
        · rintro J3 hJ3 m dd ρ M1 hd ⟨rfl, v, f, hv, rfl⟩
          obtain ⟨rfl, hm⟩ := rangeL_get hd
          walk_at "gn"
          refine sIf_k fun N3 h3 => ?_
          walk_at "pl"
          have hkl : k < st.1.length := by omega
          have hml : k + 1 + m ≤ st.1.length := by omega
          refine eLc_fm (othD s) (((st.1.drop k).take (k + 1 + m - k)).map duD) (fun Q h => ?_) (by rcases ha with rfl | ⟨v, rfl⟩ <;> rfl) ?_ ?_ ?_
          · have hc : cutL (st.1.map duD) (some (0 + (k : Int))) (some (0 + (k : Int) + 1 + (m : Int))) = ((st.1.drop k).take (k + 1 + m - k)).map duD := by
              rw [show 0 + (k : Int) = ((k : Nat) : Int) by omega, show ((k : Nat) : Int) + 1 + (m : Int) = ((k + 1 + m : Nat) : Int) by omega, cutL_kn (by omega) (by rw [List.length_map]; exact hml), List.map_take, List.map_drop]
            simp only [↓sSeq, ↓sAsg, ↓sRet, ↓sRetN, ↓sIf, ↓sDrop, ↓sPar, ↓sAug, ↓sNext, ↓sTgt, ↓sApp, ↓sExt, ↓sPop, ↓sSet, ↓sBreak, ↓sCont, ↓eVar, ↓bVar, ↓eMov, ↓bE, ↓eBin, ↓tE, ↓eChain_eq, chS_bl, chS_true, chS_false, wipeE_nil, wipeE_cons, ↓eUn, ↓qAnd, ↓qOr, ↓qNot, ↓eAnd_eq, ↓eOr_eq, ↓sNever, ↓eNot, ↓eIf, ↓aNil, ↓aCons, ↓aConsB, ↓eTup, ↓eLst, ↓iSeq, ↓iR1, ↓iR2, ↓iEnum1, ↓iRev1, ↓cSortD, ↓sAugIt, ↓cMinPr,  ↓gN, ↓gsNil, ↓gsCons, ↓gT, ↓eCall, ↓eCallX, ↓sRaise, ↓sTry, ↓dI2, ↓dAdd, ↓dEq, ↓dNe, ↓dIsN, ↓dNotN, ↓dIx, ↓oNone, ↓oSome, ↓eSl, ↓eB, ↓cLen, ↓cInt, ↓cAbs, ↓cMax2, ↓cMin2, ↓cDivmod, ↓cList, ↓cTuple, ↓cSum, ↓cMax, ↓cMin, ↓cAll, ↓cAny, ↓cSorted, ↓dIn, ↓dInX, ↓eM, ↓mIndex, ↓tyM, ↓gSq, ↓cSet, natc0, natc1, natc2, List.findIdx?_cons, List.findIdx?_nil, intsOf_ints, boolsOf_bls, plAnyI, plAnyR, ↓cGcd, ↓cLcm, ↓eRange, ↓eIsi, ↓Sl.val, ↓Ow.toD, ↓stE, ↓tYes', ↓eIxM, ↓sSetM, ↓PL.isNon, ↓eC, ↓bC, ↓dSub, ↓dMul, ↓dDiv, ↓dMod, ↓dPow, ↓dLt, ↓dLe, ↓dGt, ↓dGe, ↓dAddI, ↓dDivS, ↓dEqI, ↓dNeI,
  List.getElem?_cons_zero, List.getElem?_cons_succ, List.set_cons_zero, List.set_cons_succ, List.map_cons, List.map_nil, List.length_cons, List.length_nil, List.nil_append, List.cons_append, List.replicate_succ, List.replicate_zero, List.append_nil, atI0, atI1, atI2, atI3, atI4,
  cmpOk_int, cmpOk_bl, cmpOk_non, deq_int, deq_bl, true_and, and_true, Nat.reduceAdd, Nat.reduceSub, Nat.reduceLeDiff, Nat.reduceLT, Bool.not_eq_true', Bool.false_eq_true, if_false, if_true, decide_eq_true_eq, decide_eq_false_iff_not, Nat.zero_add, Nat.sub_zero, Nat.add_zero, Nat.sub_self, isi_non_bool, isi_non_int, isi_non_str, isi_non_list, isi_non_tuple, isi_bl_bool, isi_bl_int, isi_bl_str, isi_bl_list, isi_bl_tuple, isi_int_bool, isi_int_int, isi_int_str, isi_int_list, isi_int_tuple, isi_str_bool, isi_str_int, isi_str_str, isi_str_list, isi_str_tuple, isi_lst_bool, isi_lst_int, isi_lst_str, isi_lst_list, isi_lst_tuple, isi_tup_bool, isi_tup_int, isi_tup_str, isi_tup_list, isi_tup_tuple, ixN31, ixN32, List.length_map, List.length_set, Int.reduceToNat, Int.reducePow, Int.reduceNeg, Int.reduceAdd, Int.reduceSub, Int.reduceMul, Int.reduceLT, Int.reduceLE, Int.reduceEq, Nat.reduceEqDiff, reduceCtorEq, List.mem_singleton, eq_self, not_true_eq_false, not_false_eq_true, or_true, true_or, cmpOk_lstA, cmpOk_tupA, ckA_lst, ckA_tup, ckAl_nil, ckAl_cons, ckAl_ints, ckAl_rangeL, ck_int, ck_bl, ck_non, ck_strI, cmpOk_str, deq_str, deq_tup, deq_lst, deqA_nil, deqA_cons, deqA_ints, Bool.and_true, Bool.true_and, Bool.and_false, Bool.false_and, decide_true, decide_false, Bool.not_true, Bool.not_false, ↓pDraw, ↓p__law_in, ↓p__law_pieces, ↓p__law_refused, ↓p_dealt_out, ↓p_loads_of, ↓p_runs_of, ↓p_spread_of, ↓p_tidied, ↓p_unmanned, so0, sn0_1, sn0_2, sn0_3, so1, sn1_0, sn1_2, sn1_3, so2, sn2_0, sn2_1, sn2_3, so3, sn3_0, sn3_1, sn3_2, cat_BadSeries, hc]
            exact h
          · rw [List.length_map, List.length_take, List.length_drop]; omega
          · intro i d acc J hd hl hJ
            obtain ⟨⟨d, o⟩, ho, rfl⟩ := map_get hd
            have hn := hno (d, o) (List.mem_of_mem_drop (List.mem_of_mem_take (List.mem_of_getElem? ho)))
            cases o with
            | none => simp only [↓sSeq, ↓sAsg, ↓sRet, ↓sRetN, ↓sIf, ↓sDrop, ↓sPar, ↓sAug, ↓sNext, ↓sTgt, ↓sApp, ↓sExt, ↓sPop, ↓sSet, ↓sBreak, ↓sCont, ↓eVar, ↓bVar, ↓eMov, ↓bE, ↓eBin, ↓tE, ↓eChain_eq, chS_bl, chS_true, chS_false, wipeE_nil, wipeE_cons, ↓eUn, ↓qAnd, ↓qOr, ↓qNot, ↓eAnd_eq, ↓eOr_eq, ↓sNever, ↓eNot, ↓eIf, ↓aNil, ↓aCons, ↓aConsB, ↓eTup, ↓eLst, ↓iSeq, ↓iR1, ↓iR2, ↓iEnum1, ↓iRev1, ↓cSortD, ↓sAugIt, ↓cMinPr,  ↓gN, ↓gsNil, ↓gsCons, ↓gT, ↓eCall, ↓eCallX, ↓sRaise, ↓sTry, ↓dI2, ↓dAdd, ↓dEq, ↓dNe, ↓dIsN, ↓dNotN, ↓dIx, ↓oNone, ↓oSome, ↓eSl, ↓eB, ↓cLen, ↓cInt, ↓cAbs, ↓cMax2, ↓cMin2, ↓cDivmod, ↓cList, ↓cTuple, ↓cSum, ↓cMax, ↓cMin, ↓cAll, ↓cAny, ↓cSorted, ↓dIn, ↓dInX, ↓eM, ↓mIndex, ↓tyM, ↓gSq, ↓cSet, natc0, natc1, natc2, List.findIdx?_cons, List.findIdx?_nil, intsOf_ints, boolsOf_bls, plAnyI, plAnyR, ↓cGcd, ↓cLcm, ↓eRange, ↓eIsi, ↓Sl.val, ↓Ow.toD, ↓stE, ↓tYes', ↓eIxM, ↓sSetM, ↓PL.isNon, ↓eC, ↓bC, ↓dSub, ↓dMul, ↓dDiv, ↓dMod, ↓dPow, ↓dLt, ↓dLe, ↓dGt, ↓dGe, ↓dAddI, ↓dDivS, ↓dEqI, ↓dNeI,
  List.getElem?_cons_zero, List.getElem?_cons_succ, List.set_cons_zero, List.set_cons_succ, List.map_cons, List.map_nil, List.length_cons, List.length_nil, List.nil_append, List.cons_append, List.replicate_succ, List.replicate_zero, List.append_nil, atI0, atI1, atI2, atI3, atI4,
  cmpOk_int, cmpOk_bl, cmpOk_non, deq_int, deq_bl, true_and, and_true, Nat.reduceAdd, Nat.reduceSub, Nat.reduceLeDiff, Nat.reduceLT, Bool.not_eq_true', Bool.false_eq_true, if_false, if_true, decide_eq_true_eq, decide_eq_false_iff_not, Nat.zero_add, Nat.sub_zero, Nat.add_zero, Nat.sub_self, isi_non_bool, isi_non_int, isi_non_str, isi_non_list, isi_non_tuple, isi_bl_bool, isi_bl_int, isi_bl_str, isi_bl_list, isi_bl_tuple, isi_int_bool, isi_int_int, isi_int_str, isi_int_list, isi_int_tuple, isi_str_bool, isi_str_int, isi_str_str, isi_str_list, isi_str_tuple, isi_lst_bool, isi_lst_int, isi_lst_str, isi_lst_list, isi_lst_tuple, isi_tup_bool, isi_tup_int, isi_tup_str, isi_tup_list, isi_tup_tuple, ixN31, ixN32, List.length_map, List.length_set, Int.reduceToNat, Int.reducePow, Int.reduceNeg, Int.reduceAdd, Int.reduceSub, Int.reduceMul, Int.reduceLT, Int.reduceLE, Int.reduceEq, Nat.reduceEqDiff, reduceCtorEq, List.mem_singleton, eq_self, not_true_eq_false, not_false_eq_true, or_true, true_or, cmpOk_lstA, cmpOk_tupA, ckA_lst, ckA_tup, ckAl_nil, ckAl_cons, ckAl_ints, ckAl_rangeL, ck_int, ck_bl, ck_non, ck_strI, cmpOk_str, deq_str, deq_tup, deq_lst, deqA_nil, deqA_cons, deqA_ints, Bool.and_true, Bool.true_and, Bool.and_false, Bool.false_and, decide_true, decide_false, Bool.not_true, Bool.not_false, ↓pDraw, ↓p__law_in, ↓p__law_pieces, ↓p__law_refused, ↓p_dealt_out, ↓p_loads_of, ↓p_runs_of, ↓p_spread_of, ↓p_tidied, ↓p_unmanned, so0, sn0_1, sn0_2, sn0_3, so1, sn1_0, sn1_2, sn1_3, so2, sn2_0, sn2_1, sn2_3, so3, sn3_0, sn3_1, sn3_2, cat_BadSeries, duD, oS]; exact ⟨hso2, hl, hJ⟩
            | some t =>
              have ht := hn t rfl
              simp only [↓sSeq, ↓sAsg, ↓sRet, ↓sRetN, ↓sIf, ↓sDrop, ↓sPar, ↓sAug, ↓sNext, ↓sTgt, ↓sApp, ↓sExt, ↓sPop, ↓sSet, ↓sBreak, ↓sCont, ↓eVar, ↓bVar, ↓eMov, ↓bE, ↓eBin, ↓tE, ↓eChain_eq, chS_bl, chS_true, chS_false, wipeE_nil, wipeE_cons, ↓eUn, ↓qAnd, ↓qOr, ↓qNot, ↓eAnd_eq, ↓eOr_eq, ↓sNever, ↓eNot, ↓eIf, ↓aNil, ↓aCons, ↓aConsB, ↓eTup, ↓eLst, ↓iSeq, ↓iR1, ↓iR2, ↓iEnum1, ↓iRev1, ↓cSortD, ↓sAugIt, ↓cMinPr,  ↓gN, ↓gsNil, ↓gsCons, ↓gT, ↓eCall, ↓eCallX, ↓sRaise, ↓sTry, ↓dI2, ↓dAdd, ↓dEq, ↓dNe, ↓dIsN, ↓dNotN, ↓dIx, ↓oNone, ↓oSome, ↓eSl, ↓eB, ↓cLen, ↓cInt, ↓cAbs, ↓cMax2, ↓cMin2, ↓cDivmod, ↓cList, ↓cTuple, ↓cSum, ↓cMax, ↓cMin, ↓cAll, ↓cAny, ↓cSorted, ↓dIn, ↓dInX, ↓eM, ↓mIndex, ↓tyM, ↓gSq, ↓cSet, natc0, natc1, natc2, List.findIdx?_cons, List.findIdx?_nil, intsOf_ints, boolsOf_bls, plAnyI, plAnyR, ↓cGcd, ↓cLcm, ↓eRange, ↓eIsi, ↓Sl.val, ↓Ow.toD, ↓stE, ↓tYes', ↓eIxM, ↓sSetM, ↓PL.isNon, ↓eC, ↓bC, ↓dSub, ↓dMul, ↓dDiv, ↓dMod, ↓dPow, ↓dLt, ↓dLe, ↓dGt, ↓dGe, ↓dAddI, ↓dDivS, ↓dEqI, ↓dNeI,
  List.getElem?_cons_zero, List.getElem?_cons_succ, List.set_cons_zero, List.set_cons_succ, List.map_cons, List.map_nil, List.length_cons, List.length_nil, List.nil_append, List.cons_append, List.replicate_succ, List.replicate_zero, List.append_nil, atI0, atI1, atI2, atI3, atI4,
  cmpOk_int, cmpOk_bl, cmpOk_non, deq_int, deq_bl, true_and, and_true, Nat.reduceAdd, Nat.reduceSub, Nat.reduceLeDiff, Nat.reduceLT, Bool.not_eq_true', Bool.false_eq_true, if_false, if_true, decide_eq_true_eq, decide_eq_false_iff_not, Nat.zero_add, Nat.sub_zero, Nat.add_zero, Nat.sub_self, isi_non_bool, isi_non_int, isi_non_str, isi_non_list, isi_non_tuple, isi_bl_bool, isi_bl_int, isi_bl_str, isi_bl_list, isi_bl_tuple, isi_int_bool, isi_int_int, isi_int_str, isi_int_list, isi_int_tuple, isi_str_bool, isi_str_int, isi_str_str, isi_str_list, isi_str_tuple, isi_lst_bool, isi_lst_int, isi_lst_str, isi_lst_list, isi_lst_tuple, isi_tup_bool, isi_tup_int, isi_tup_str, isi_tup_list, isi_tup_tuple, ixN31, ixN32, List.length_map, List.length_set, Int.reduceToNat, Int.reducePow, Int.reduceNeg, Int.reduceAdd, Int.reduceSub, Int.reduceMul, Int.reduceLT, Int.reduceLE, Int.reduceEq, Nat.reduceEqDiff, reduceCtorEq, List.mem_singleton, eq_self, not_true_eq_false, not_false_eq_true, or_true, true_or, cmpOk_lstA, cmpOk_tupA, ckA_lst, ckA_tup, ckAl_nil, ckAl_cons, ckAl_ints, ckAl_rangeL, ck_int, ck_bl, ck_non, ck_strI, cmpOk_str, deq_str, deq_tup, deq_lst, deqA_nil, deqA_cons, deqA_ints, Bool.and_true, Bool.true_and, Bool.and_false, Bool.false_and, decide_true, decide_false, Bool.not_true, Bool.not_false, ↓pDraw, ↓p__law_in, ↓p__law_pieces, ↓p__law_refused, ↓p_dealt_out, ↓p_loads_of, ↓p_runs_of, ↓p_spread_of, ↓p_tidied, ↓p_unmanned, so0, sn0_1, sn0_2, sn0_3, so1, sn1_0, sn1_2, sn1_3, so2, sn2_0, sn2_1, sn2_3, so3, sn3_0, sn3_1, sn3_2, cat_BadSeries, duD, oS]
              refine ⟨⟨ht, hso2⟩, hl, ?_⟩
              rw [← deq_str]
              exact hJ
          · rw [othD_map]
            walk_at "pl"
            rw [plAnyBl]
            refine ⟨ckAl_bls, h3 _ _ _ ?_⟩
            clear h3
            have hw := winOk_iff (s := s) (rows := st.1) (k := k) (n := k + 1 + m) (by omega) hml
            by_cases c : WinOk s st.1 k (k + 1 + m)
            · rw [if_pos (by rw [decide_eq_false (hw.mp c)]; rfl)]
              walk_at "pl"
              rw [max_if, show (0 + (k : Int) + 1 + (m : Int) - (0 + (k : Int))) = ((k + 1 + m : Nat) : Int) - (k : Int) by omega]
              exact hJ3 _ _ _ ⟨rfl, _, _, hv.yes (by omega) c, rfl⟩
            · rw [if_neg (by rw [decide_eq_true (Classical.not_not.mp fun w => c (hw.mpr w))]; decide)]
              walk_at "pl"
              exact hJ3 _ _ _ ⟨rfl, _, _, hv.no c, rfl⟩
        · rintro ρ M1 ⟨rfl, v, f, hv, rfl⟩
          rw [rangeL_len] at hv
          exact hJ2 _ _ _ ⟨rfl, v, _, f, hv.nextRow (by omega), rfl⟩
      · rintro ρ M1 ⟨rfl, v, c, f, hv, rfl⟩
        rw [rangeL_len] at hv
        refine h2 _ _ ?_
        clear h2
        walk_at "pl"
        have hlm : (rangeL 0 (st.1.map duD).length).length = st.1.length := by rw [rangeL_len, List.length_map]; omega
        refine ⟨st.1, rfl, ⟨by omega, hno, hso2⟩, ?_⟩
        rw [if_neg (fun w => w ((runF_ok (s := s) st.1).1.uniq (WB.run (by simpa using hv))))]
        exact hJ _ _ _ ⟨rfl, _, _, _, _, rfl⟩
    · rintro ρ M1 ⟨rfl, b, c, e, f, rfl⟩
      refine h1 _ _ ?_
      clear h1
      walk_at "pl"
      exact ⟨[], rfl, by simp, [Str.ofString "ann"], rfl, by simp⟩

end
/-! ### the head -/
def d_primes_of : He.DefD := ⟨("primes_of", none), "primes_of", "primes_of", defArgs s_primes_of, defBody s_primes_of, defScope s_primes_of, [], []⟩
def d_place_in : He.DefD := ⟨("place_in", none), "place_in", "place_in", defArgs s_place_in, defBody s_place_in, defScope s_place_in, [], []⟩
def d_shrunk : He.DefD := ⟨("shrunk", none), "shrunk", "shrunk", defArgs s_shrunk, defBody s_shrunk, defScope s_shrunk, [], []⟩
def d_repeats : He.DefD := ⟨("repeats", none), "repeats", "repeats", defArgs s_repeats, defBody s_repeats, defScope s_repeats, [], []⟩
def d_has : He.DefD := ⟨("has", none), "has", "has", defArgs s_has, defBody s_has, defScope s_has, [], []⟩
def d_first_from : He.DefD := ⟨("first_from", none), "first_from", "first_from", defArgs s_first_from, defBody s_first_from, defScope s_first_from, [], []⟩
def d_tidied : He.DefD := ⟨("tidied", none), "tidied", "tidied", defArgs s_tidied, defBody s_tidied, defScope s_tidied, [], []⟩
def d_windows : He.DefD := ⟨("windows", none), "windows", "windows", defArgs s_windows, defBody s_windows, defScope s_windows, [], []⟩
def d_belongs : He.DefD := ⟨("belongs", none), "belongs", "belongs", defArgs s_belongs, defBody s_belongs, defScope s_belongs, [], []⟩
def d_days_between : He.DefD := ⟨("days_between", none), "days_between", "days_between", defArgs s_days_between, defBody s_days_between, defScope s_days_between, [], []⟩
def d_dealt_out : He.DefD := ⟨("dealt_out", none), "dealt_out", "dealt_out", defArgs s_dealt_out, defBody s_dealt_out, defScope s_dealt_out, [], []⟩
def d_loads_of : He.DefD := ⟨("loads_of", none), "loads_of", "loads_of", defArgs s_loads_of, defBody s_loads_of, defScope s_loads_of, [], []⟩
def d_unmanned : He.DefD := ⟨("unmanned", none), "unmanned", "unmanned", defArgs s_unmanned, defBody s_unmanned, defScope s_unmanned, [], []⟩
def d_spread_of : He.DefD := ⟨("spread_of", none), "spread_of", "spread_of", defArgs s_spread_of, defBody s_spread_of, defScope s_spread_of, [], []⟩
def d_runs_of : He.DefD := ⟨("runs_of", none), "runs_of", "runs_of", defArgs s_runs_of, defBody s_runs_of, defScope s_runs_of, [], []⟩
def d__law_draw : He.DefD := ⟨("_law_draw", none), "_law_draw", "_law_draw", defArgs s__law_draw, defBody s__law_draw, defScope s__law_draw, [], []⟩
def d__law_tape : He.DefD := ⟨("_law_tape", none), "_law_tape", "_law_tape", defArgs s__law_tape, defBody s__law_tape, defScope s__law_tape, [], []⟩
def d__law_mod : He.DefD := ⟨("_law_mod", none), "_law_mod", "_law_mod", defArgs s__law_mod, defBody s__law_mod, defScope s__law_mod, [], []⟩
def d__law_subset : He.DefD := ⟨("_law_subset", none), "_law_subset", "_law_subset", defArgs s__law_subset, defBody s__law_subset, defScope s__law_subset, [], []⟩
def d__law_pieces : He.DefD := ⟨("_law_pieces", none), "_law_pieces", "_law_pieces", defArgs s__law_pieces, defBody s__law_pieces, defScope s__law_pieces, [], []⟩
def d__law_in : He.DefD := ⟨("_law_in", none), "_law_in", "_law_in", defArgs s__law_in, defBody s__law_in, defScope s__law_in, [], []⟩
def d__law_refused : He.DefD := ⟨("_law_refused", none), "_law_refused", "_law_refused", defArgs s__law_refused, defBody s__law_refused, defScope s__law_refused, [], []⟩
def d_law : He.DefD := ⟨("law", none), "law", "law", defArgs s_law, defBody s_law, defScope s_law, [], []⟩
def fn : List He.DefD := [d_primes_of, d_place_in, d_shrunk, d_repeats, d_has, d_first_from, d_tidied, d_windows, d_belongs, d_days_between, d_dealt_out, d_loads_of, d_unmanned, d_spread_of, d_runs_of, d__law_draw, d__law_tape, d__law_mod, d__law_subset, d__law_pieces, d__law_in, d__law_refused, d_law]
def fa : List He.Fa := [.glo "primes_of", .glo "place_in", .glo "shrunk", .glo "repeats", .glo "has", .glo "first_from", .glo "tidied", .glo "windows", .glo "belongs", .glo "days_between", .glo "dealt_out", .glo "loads_of", .glo "unmanned", .glo "spread_of", .glo "runs_of", .glo "_law_draw", .glo "_law_tape", .glo "_law_mod", .glo "_law_subset", .glo "_law_pieces", .glo "_law_in", .glo "_law_refused", .glo "law", .glo "BadSeries", .free "all", .free "enumerate", .free "int", .free "len", .free "list", .free "max", .free "min", .free "range", .free "set", .free "sorted", .free "tuple"]
def ex (K : Fg) : Bool := PySem.W.excIn K (He.ga K "BadSeries") [.type "ValueError", .type "Exception", .type "BaseException", .type "object"] "ValueError.__new__" && PySem.W.keepIn K (.ref (He.ga K "BadSeries")) && isSome1 (PySem.W.subIn K (.ref (He.ga K "BadSeries")) (.type "BaseException")) true && isTyp (PySem.W.typeIn K (.ref (He.ga K "BadSeries"))) && isSome1 (PySem.W.exmOne K (clsV K "BadSeries") (clsV K "BadSeries")) true
abbrev R : PySem.W.OpenRow := PySem.W.OpenLaw.row PySem.Challenge.rw_everdays_k71_duties_dealt_out
abbrev hk : PySem.W.Hook := hookE 6 fa fn ex
def ob (s : PySem.W.SharedT) : He.AlD := obsEG 6 fa fn ex (HandSHeadRun.getT s)
theorem ob_eq (s : PySem.W.SharedT) : ob s = hk.obs s.abs := obsEG_eq (HandSHeadRun.getT_eq s)
def loose : List PySem.Str := ["DaysError", "BadSeries", "primes_of", "place_in", "shrunk", "repeats", "has", "first_from", "tidied", "windows", "belongs", "days_between", "dealt_out", "loads_of", "unmanned", "spread_of", "runs_of", "_law_draw", "_law_tape", "_law_mod", "_law_subset", "_law_pieces", "_law_in", "_law_refused"]
set_option maxHeartbeats 0 in
theorem run (w : World) : HandSHeadRun.RunEq R (PySem.W.view R.prog [30]) hk ob 2460 loose w := by
  intro os
  kernel_rfl
theorem facts {P : Program} {w : World} {K : PySem.W.Frag} {h : Heap} {mg : Str → Option Value} {f : Addr} (X : K.In h) (G : h.Ns mainGlobals mg) (hfa : mg ("law" : Str) = some (.ref f)) (c : SaysE fa fn ex K) :
    ∃ fd : FuncData, (∀ (s : Shared) (v : Value), BindsTo s fd ⟨[v], []⟩ [("script", v)]) ∧ ∀ base : Heap, K.In base → base.Ns mainGlobals mg → FnOk P w K mg base CX0 6 f fd ["script"] (spLaw K) := by
  obtain ⟨x_primes_of, F_primes_of⟩ := c.d.def_ 0 (d := d_primes_of) rfl
  obtain ⟨x_place_in, F_place_in⟩ := c.d.def_ 1 (d := d_place_in) rfl
  obtain ⟨x_shrunk, F_shrunk⟩ := c.d.def_ 2 (d := d_shrunk) rfl
  obtain ⟨x_repeats, F_repeats⟩ := c.d.def_ 3 (d := d_repeats) rfl
  obtain ⟨x_has, F_has⟩ := c.d.def_ 4 (d := d_has) rfl
  obtain ⟨x_first_from, F_first_from⟩ := c.d.def_ 5 (d := d_first_from) rfl
  obtain ⟨x_tidied, F_tidied⟩ := c.d.def_ 6 (d := d_tidied) rfl
  obtain ⟨x_windows, F_windows⟩ := c.d.def_ 7 (d := d_windows) rfl
  obtain ⟨x_belongs, F_belongs⟩ := c.d.def_ 8 (d := d_belongs) rfl
  obtain ⟨x_days_between, F_days_between⟩ := c.d.def_ 9 (d := d_days_between) rfl
  obtain ⟨x_dealt_out, F_dealt_out⟩ := c.d.def_ 10 (d := d_dealt_out) rfl
  obtain ⟨x_loads_of, F_loads_of⟩ := c.d.def_ 11 (d := d_loads_of) rfl
  obtain ⟨x_unmanned, F_unmanned⟩ := c.d.def_ 12 (d := d_unmanned) rfl
  obtain ⟨x_spread_of, F_spread_of⟩ := c.d.def_ 13 (d := d_spread_of) rfl
  obtain ⟨x_runs_of, F_runs_of⟩ := c.d.def_ 14 (d := d_runs_of) rfl
  obtain ⟨x__law_draw, F__law_draw⟩ := c.d.def_ 15 (d := d__law_draw) rfl
  obtain ⟨x__law_tape, F__law_tape⟩ := c.d.def_ 16 (d := d__law_tape) rfl
  obtain ⟨x__law_mod, F__law_mod⟩ := c.d.def_ 17 (d := d__law_mod) rfl
  obtain ⟨x__law_subset, F__law_subset⟩ := c.d.def_ 18 (d := d__law_subset) rfl
  obtain ⟨x__law_pieces, F__law_pieces⟩ := c.d.def_ 19 (d := d__law_pieces) rfl
  obtain ⟨x__law_in, F__law_in⟩ := c.d.def_ 20 (d := d__law_in) rfl
  obtain ⟨x__law_refused, F__law_refused⟩ := c.d.def_ 21 (d := d__law_refused) rfl
  obtain ⟨x_law, F_law⟩ := c.d.def_ 22 (d := d_law) rfl
  have g_primes_of := He.glo_ok X G (c.d.fact 0 (f := .glo "primes_of") rfl)
  have g_place_in := He.glo_ok X G (c.d.fact 1 (f := .glo "place_in") rfl)
  have g_shrunk := He.glo_ok X G (c.d.fact 2 (f := .glo "shrunk") rfl)
  have g_repeats := He.glo_ok X G (c.d.fact 3 (f := .glo "repeats") rfl)
  have g_has := He.glo_ok X G (c.d.fact 4 (f := .glo "has") rfl)
  have g_first_from := He.glo_ok X G (c.d.fact 5 (f := .glo "first_from") rfl)
  have g_tidied := He.glo_ok X G (c.d.fact 6 (f := .glo "tidied") rfl)
  have g_windows := He.glo_ok X G (c.d.fact 7 (f := .glo "windows") rfl)
  have g_belongs := He.glo_ok X G (c.d.fact 8 (f := .glo "belongs") rfl)
  have g_days_between := He.glo_ok X G (c.d.fact 9 (f := .glo "days_between") rfl)
  have g_dealt_out := He.glo_ok X G (c.d.fact 10 (f := .glo "dealt_out") rfl)
  have g_loads_of := He.glo_ok X G (c.d.fact 11 (f := .glo "loads_of") rfl)
  have g_unmanned := He.glo_ok X G (c.d.fact 12 (f := .glo "unmanned") rfl)
  have g_spread_of := He.glo_ok X G (c.d.fact 13 (f := .glo "spread_of") rfl)
  have g_runs_of := He.glo_ok X G (c.d.fact 14 (f := .glo "runs_of") rfl)
  have g__law_draw := He.glo_ok X G (c.d.fact 15 (f := .glo "_law_draw") rfl)
  have g__law_tape := He.glo_ok X G (c.d.fact 16 (f := .glo "_law_tape") rfl)
  have g__law_mod := He.glo_ok X G (c.d.fact 17 (f := .glo "_law_mod") rfl)
  have g__law_subset := He.glo_ok X G (c.d.fact 18 (f := .glo "_law_subset") rfl)
  have g__law_pieces := He.glo_ok X G (c.d.fact 19 (f := .glo "_law_pieces") rfl)
  have g__law_in := He.glo_ok X G (c.d.fact 20 (f := .glo "_law_in") rfl)
  have g__law_refused := He.glo_ok X G (c.d.fact 21 (f := .glo "_law_refused") rfl)
  have g_law := He.glo_ok X G (c.d.fact 22 (f := .glo "law") rfl)
  have g_BadSeries := He.glo_ok X G (c.d.fact 23 (f := .glo "BadSeries") rfl)
  have m_all := He.free_ok X G (c.d.fact 24 (f := .free "all") rfl)
  have m_enumerate := He.free_ok X G (c.d.fact 25 (f := .free "enumerate") rfl)
  have m_int := He.free_ok X G (c.d.fact 26 (f := .free "int") rfl)
  have m_len := He.free_ok X G (c.d.fact 27 (f := .free "len") rfl)
  have m_list := He.free_ok X G (c.d.fact 28 (f := .free "list") rfl)
  have m_max := He.free_ok X G (c.d.fact 29 (f := .free "max") rfl)
  have m_min := He.free_ok X G (c.d.fact 30 (f := .free "min") rfl)
  have m_range := He.free_ok X G (c.d.fact 31 (f := .free "range") rfl)
  have m_set := He.free_ok X G (c.d.fact 32 (f := .free "set") rfl)
  have m_sorted := He.free_ok X G (c.d.fact 33 (f := .free "sorted") rfl)
  have m_tuple := He.free_ok X G (c.d.fact 34 (f := .free "tuple") rfl)
  have hex := c.x
  unfold ex at hex
  simp only [Bool.and_eq_true] at hex
  obtain ⟨⟨⟨⟨q_BadSeries, k_BadSeries⟩, b_BadSeries⟩, t_BadSeries⟩, e_BadSeries_BadSeries⟩ := hex
  have e := hfa.symm.trans g_law
  cases e
  let T : TF K mg := {
    a_primes_of := He.ga K "primes_of"
    x_primes_of := x_primes_of
    f_primes_of := F_primes_of
    g_primes_of := g_primes_of
    b_primes_of := FunD.bindsN (ps := ["n"]) F_primes_of fun _ _ _ _ _ _ us hl => match us, hl with | [_], _ => rfl
    a_place_in := He.ga K "place_in"
    x_place_in := x_place_in
    f_place_in := F_place_in
    g_place_in := g_place_in
    b_place_in := FunD.bindsN (ps := ["residues", "r"]) F_place_in fun _ _ _ _ _ _ us hl => match us, hl with | [_, _], _ => rfl
    a_shrunk := He.ga K "shrunk"
    x_shrunk := x_shrunk
    f_shrunk := F_shrunk
    g_shrunk := g_shrunk
    b_shrunk := FunD.bindsN (ps := ["period", "residues"]) F_shrunk fun _ _ _ _ _ _ us hl => match us, hl with | [_, _], _ => rfl
    a_repeats := He.ga K "repeats"
    x_repeats := x_repeats
    f_repeats := F_repeats
    g_repeats := g_repeats
    b_repeats := FunD.bindsN (ps := ["period", "residues", "step"]) F_repeats fun _ _ _ _ _ _ us hl => match us, hl with | [_, _, _], _ => rfl
    a_has := He.ga K "has"
    x_has := x_has
    f_has := F_has
    g_has := g_has
    b_has := FunD.bindsN (ps := ["period", "residues", "d"]) F_has fun _ _ _ _ _ _ us hl => match us, hl with | [_, _, _], _ => rfl
    a_first_from := He.ga K "first_from"
    x_first_from := x_first_from
    f_first_from := F_first_from
    g_first_from := g_first_from
    b_first_from := FunD.bindsN (ps := ["period", "residues", "d"]) F_first_from fun _ _ _ _ _ _ us hl => match us, hl with | [_, _, _], _ => rfl
    a_tidied := He.ga K "tidied"
    x_tidied := x_tidied
    f_tidied := F_tidied
    g_tidied := g_tidied
    b_tidied := FunD.bindsN (ps := ["pieces"]) F_tidied fun _ _ _ _ _ _ us hl => match us, hl with | [_], _ => rfl
    a_windows := He.ga K "windows"
    x_windows := x_windows
    f_windows := F_windows
    g_windows := g_windows
    b_windows := FunD.bindsN (ps := ["pattern"]) F_windows fun _ _ _ _ _ _ us hl => match us, hl with | [_], _ => rfl
    a_belongs := He.ga K "belongs"
    x_belongs := x_belongs
    f_belongs := F_belongs
    g_belongs := g_belongs
    b_belongs := FunD.bindsN (ps := ["pattern", "day"]) F_belongs fun _ _ _ _ _ _ us hl => match us, hl with | [_, _], _ => rfl
    a_days_between := He.ga K "days_between"
    x_days_between := x_days_between
    f_days_between := F_days_between
    g_days_between := g_days_between
    b_days_between := FunD.bindsN (ps := ["pattern", "first", "end"]) F_days_between fun _ _ _ _ _ _ us hl => match us, hl with | [_, _, _], _ => rfl
    a_dealt_out := He.ga K "dealt_out"
    x_dealt_out := x_dealt_out
    f_dealt_out := F_dealt_out
    g_dealt_out := g_dealt_out
    b_dealt_out := FunD.bindsN (ps := ["days", "names", "away", "first", "end"]) F_dealt_out fun _ _ _ _ _ _ us hl => match us, hl with | [_, _, _, _, _], _ => rfl
    a_loads_of := He.ga K "loads_of"
    x_loads_of := x_loads_of
    f_loads_of := F_loads_of
    g_loads_of := g_loads_of
    b_loads_of := FunD.bindsN (ps := ["dealt", "names"]) F_loads_of fun _ _ _ _ _ _ us hl => match us, hl with | [_, _], _ => rfl
    a_unmanned := He.ga K "unmanned"
    x_unmanned := x_unmanned
    f_unmanned := F_unmanned
    g_unmanned := g_unmanned
    b_unmanned := FunD.bindsN (ps := ["dealt"]) F_unmanned fun _ _ _ _ _ _ us hl => match us, hl with | [_], _ => rfl
    a_spread_of := He.ga K "spread_of"
    x_spread_of := x_spread_of
    f_spread_of := F_spread_of
    g_spread_of := g_spread_of
    b_spread_of := FunD.bindsN (ps := ["dealt", "names"]) F_spread_of fun _ _ _ _ _ _ us hl => match us, hl with | [_, _], _ => rfl
    a_runs_of := He.ga K "runs_of"
    x_runs_of := x_runs_of
    f_runs_of := F_runs_of
    g_runs_of := g_runs_of
    b_runs_of := FunD.bindsN (ps := ["dealt", "name"]) F_runs_of fun _ _ _ _ _ _ us hl => match us, hl with | [_, _], _ => rfl
    a__law_draw := He.ga K "_law_draw"
    x__law_draw := x__law_draw
    f__law_draw := F__law_draw
    g__law_draw := g__law_draw
    b__law_draw := FunD.bindsN (ps := ["tape", "many"]) F__law_draw fun _ _ _ _ _ _ us hl => match us, hl with | [_, _], _ => rfl
    a__law_tape := He.ga K "_law_tape"
    x__law_tape := x__law_tape
    f__law_tape := F__law_tape
    g__law_tape := g__law_tape
    b__law_tape := FunD.bindsN (ps := ["script"]) F__law_tape fun _ _ _ _ _ _ us hl => match us, hl with | [_], _ => rfl
    a__law_mod := He.ga K "_law_mod"
    x__law_mod := x__law_mod
    f__law_mod := F__law_mod
    g__law_mod := g__law_mod
    b__law_mod := FunD.bindsN (ps := ["a", "n"]) F__law_mod fun _ _ _ _ _ _ us hl => match us, hl with | [_, _], _ => rfl
    a__law_subset := He.ga K "_law_subset"
    x__law_subset := x__law_subset
    f__law_subset := F__law_subset
    g__law_subset := g__law_subset
    b__law_subset := FunD.bindsN (ps := ["tape", "size", "most"]) F__law_subset fun _ _ _ _ _ _ us hl => match us, hl with | [_, _, _], _ => rfl
    a__law_pieces := He.ga K "_law_pieces"
    x__law_pieces := x__law_pieces
    f__law_pieces := F__law_pieces
    g__law_pieces := g__law_pieces
    b__law_pieces := FunD.bindsN (ps := ["tape"]) F__law_pieces fun _ _ _ _ _ _ us hl => match us, hl with | [_], _ => rfl
    a__law_in := He.ga K "_law_in"
    x__law_in := x__law_in
    f__law_in := F__law_in
    g__law_in := g__law_in
    b__law_in := FunD.bindsN (ps := ["pieces", "day"]) F__law_in fun _ _ _ _ _ _ us hl => match us, hl with | [_, _], _ => rfl
    a__law_refused := He.ga K "_law_refused"
    x__law_refused := x__law_refused
    f__law_refused := F__law_refused
    g__law_refused := g__law_refused
    b__law_refused := FunD.bindsN (ps := ["names", "away"]) F__law_refused fun _ _ _ _ _ _ us hl => match us, hl with | [_, _], _ => rfl
    a_law := He.ga K "law"
    x_law := x_law
    f_law := F_law
    g_law := g_law
    b_law := FunD.bindsN (ps := ["script"]) F_law fun _ _ _ _ _ _ us hl => match us, hl with | [_], _ => rfl
    g_BadSeries := g_BadSeries
    q_BadSeries := q_BadSeries
    k_BadSeries := k_BadSeries
    b_BadSeries := isSome1_eq b_BadSeries
    t_BadSeries := isTyp_eq t_BadSeries
    e_BadSeries_BadSeries := isSome1_eq e_BadSeries_BadSeries
    m_all := m_all
    m_enumerate := m_enumerate
    m_int := m_int
    m_len := m_len
    m_list := m_list
    m_max := m_max
    m_min := m_min
    m_range := m_range
    m_set := m_set
    m_sorted := m_sorted
    m_tuple := m_tuple }
  have b := FunD.bindsA (ps := ["script"]) F_law fun _ _ _ _ _ _ us hl => match us, hl with | [_], _ => rfl
  exact ⟨x_law, fun s v => b s [v] rfl, fun base _ _ => ok_law T⟩
end Lw
open PySem PySem.W PySem.Calls PyProof.Rows
set_option maxHeartbeats 0 in
theorem PySem.Challenge.cw_everdays_k71_duties_dealt_out_holds : PySem.Challenge.rw_everdays_k71_duties_dealt_out.Holds := by
  w_on; o_law
  refine HandSHeadRun.head_any (r := OpenLaw.row PySem.Challenge.rw_everdays_k71_duties_dealt_out) (q := view (OpenLaw.row PySem.Challenge.rw_everdays_k71_duties_dealt_out).prog [30]) (H := Lw.hk) (ob := Lw.ob) (M := 2460) (loose := Lw.loose) (d := HandSHeadRun.topDef (OpenLaw.row PySem.Challenge.rw_everdays_k71_duties_dealt_out).prog 30) (kwd := []) Lw.ob_eq
    (by kernel_rfl) (fun s => by kernel_rfl) Lw.run (by kernel_rfl) (by kernel_rfl) (by kernel_rfl) (by rfl) (by first | assumption | decide +kernel) (by decide +kernel) ⟨rfl, rfl, rfl, rfl, rfl, by decide +kernel⟩ ?hw ?hc
  case hw => w_witness2
  case hc =>
    refine L2.walk_ofE (l := PySem.Challenge.rw_everdays_k71_duties_dealt_out) (n := 63) (k := 6) (x := "script") (CX := L2.CX0) rfl (by decide) (by kernel_rfl) ⟨rfl, by decide, by decide⟩ ?F (fun _ _ _ _ z => z)
    intro w mg fa h Y G hmg0
    obtain ⟨K, KX, c⟩ := Y
    have hmg : mg ("law" : PySem.Str) = some (.ref fa) := by
      have e : (HandSHeadRun.topDef (OpenLaw.row PySem.Challenge.rw_everdays_k71_duties_dealt_out).prog 30).name = ("law" : PySem.Str) := by kernel_rfl
      rw [← e]
      exact hmg0
    obtain ⟨fd, hb, hF⟩ := Lw.facts (P := (PySem.Challenge.rw_everdays_k71_duties_dealt_out).prog) (w := w) KX G hmg c
    exact ⟨K, fd, PL.spLaw K, KX, hb, fun H a ns hl _ hS => ⟨a, ns, rfl, hS, fun _ => rfl⟩, hF⟩
